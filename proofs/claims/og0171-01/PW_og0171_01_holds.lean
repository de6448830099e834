import PyProof.Rows.All
import Wide.All
import OpenK.AllK
import Wide.FinOn
import PySem.Challenge.RW_og0171_01
open PySem PySem.W PyProof.Rows
set_option Elab.async false
set_option maxRecDepth 100000
set_option maxHeartbeats 8000000
namespace Mine
theorem same_dec : @instDecidableEqStr = @instDecidableEqStr := rfl
end Mine
/- The head makes for each constant of the run a twin and an equation of the two; those equations alone
would bring the compiled file to 68 MB, over the lid. Here the names of those twins are taken ahead, by the
library's own word name_quick and for a constant of the library, so that the head goes without twins.
Nothing below leans on these names. -/
name_quick tw8210241868783685296 for instDecidableEqStr by Mine.same_dec
name_quick tw12268644228514654432 for instDecidableEqStr by Mine.same_dec
name_quick tw14224011070414065920 for instDecidableEqStr by Mine.same_dec
name_quick tw9979284746773624096 for instDecidableEqStr by Mine.same_dec
name_quick tw2193789692954389824 for instDecidableEqStr by Mine.same_dec
name_quick tw17069979004554194336 for instDecidableEqStr by Mine.same_dec
name_quick tw12825359941727978080 for instDecidableEqStr by Mine.same_dec
name_quick tw9674257727999782656 for instDecidableEqStr by Mine.same_dec
name_quick tw16817318245366136608 for instDecidableEqStr by Mine.same_dec
name_quick tw12177639751122801600 for instDecidableEqStr by Mine.same_dec
name_quick tw3118938333895590913 for instDecidableEqStr by Mine.same_dec
name_quick tw3764465048917985505 for instDecidableEqStr by Mine.same_dec
name_quick tw16741492637210864865 for instDecidableEqStr by Mine.same_dec
name_quick tw14821650378409806113 for instDecidableEqStr by Mine.same_dec
name_quick tw11543547407058413889 for instDecidableEqStr by Mine.same_dec
name_quick tw16180582048198870337 for instDecidableEqStr by Mine.same_dec
name_quick tw2315820567201803617 for instDecidableEqStr by Mine.same_dec
name_quick tw2334299552400917057 for instDecidableEqStr by Mine.same_dec
name_quick tw8603108125212654177 for instDecidableEqStr by Mine.same_dec
name_quick tw16916688483869632129 for instDecidableEqStr by Mine.same_dec
name_quick tw15195428891847259777 for instDecidableEqStr by Mine.same_dec
name_quick tw11317593695737139937 for instDecidableEqStr by Mine.same_dec
name_quick tw13236226663087606529 for instDecidableEqStr by Mine.same_dec
name_quick tw6792406925840432001 for instDecidableEqStr by Mine.same_dec
name_quick tw1414301608579184545 for instDecidableEqStr by Mine.same_dec
name_quick tw7581816359482902497 for instDecidableEqStr by Mine.same_dec
name_quick tw13615603153576403970 for instDecidableEqStr by Mine.same_dec
name_quick tw12850107946570832962 for instDecidableEqStr by Mine.same_dec
name_quick tw3856783459128436802 for instDecidableEqStr by Mine.same_dec
name_quick tw9529234661008812162 for instDecidableEqStr by Mine.same_dec
name_quick tw704327219915372674 for instDecidableEqStr by Mine.same_dec
name_quick tw9594665118957945026 for instDecidableEqStr by Mine.same_dec
name_quick tw13559156169165276386 for instDecidableEqStr by Mine.same_dec
name_quick tw9948023125614773506 for instDecidableEqStr by Mine.same_dec
name_quick tw17000458434675057986 for instDecidableEqStr by Mine.same_dec
name_quick tw12835720964997663042 for instDecidableEqStr by Mine.same_dec
name_quick tw4797165386629745026 for instDecidableEqStr by Mine.same_dec
name_quick tw3093977132361051618 for instDecidableEqStr by Mine.same_dec
name_quick tw13640514254501968386 for instDecidableEqStr by Mine.same_dec
name_quick tw387338674003428930 for instDecidableEqStr by Mine.same_dec
name_quick tw4558998842232669794 for instDecidableEqStr by Mine.same_dec
name_quick tw14714103240675001986 for instDecidableEqStr by Mine.same_dec
name_quick tw6679490504615227074 for instDecidableEqStr by Mine.same_dec
name_quick tw8860024209350480642 for instDecidableEqStr by Mine.same_dec
name_quick tw8595292554425487202 for instDecidableEqStr by Mine.same_dec
name_quick tw4302124980754421698 for instDecidableEqStr by Mine.same_dec
name_quick tw11788150170368784547 for instDecidableEqStr by Mine.same_dec
name_quick tw17001327861769816259 for instDecidableEqStr by Mine.same_dec
name_quick tw13789449189825218787 for instDecidableEqStr by Mine.same_dec
name_quick tw12334156363619760483 for instDecidableEqStr by Mine.same_dec
name_quick tw11310463157757771331 for instDecidableEqStr by Mine.same_dec
name_quick tw17863021456227041891 for instDecidableEqStr by Mine.same_dec
name_quick tw136631920214876835 for instDecidableEqStr by Mine.same_dec
name_quick tw4978915544186085027 for instDecidableEqStr by Mine.same_dec
name_quick tw7401281599722004195 for instDecidableEqStr by Mine.same_dec
name_quick tw10887116778572429059 for instDecidableEqStr by Mine.same_dec
name_quick tw3315324234476444515 for instDecidableEqStr by Mine.same_dec
name_quick tw505943868828395459 for instDecidableEqStr by Mine.same_dec
name_quick tw1638017585896720355 for instDecidableEqStr by Mine.same_dec
name_quick tw7232422423428716515 for instDecidableEqStr by Mine.same_dec
name_quick tw1258299570235058372 for instDecidableEqStr by Mine.same_dec
name_quick tw7299951869573292228 for instDecidableEqStr by Mine.same_dec
name_quick tw4039474712603431140 for instDecidableEqStr by Mine.same_dec
name_quick tw17532718790514356516 for instDecidableEqStr by Mine.same_dec
name_quick tw17274371674624000324 for instDecidableEqStr by Mine.same_dec
name_quick tw10007627690174824804 for instDecidableEqStr by Mine.same_dec
name_quick tw12734952128020822468 for instDecidableEqStr by Mine.same_dec
name_quick tw12392613427281201732 for instDecidableEqStr by Mine.same_dec
name_quick tw11974353845819946628 for instDecidableEqStr by Mine.same_dec
name_quick tw12233582284571471492 for instDecidableEqStr by Mine.same_dec
name_quick tw17975652961387846372 for instDecidableEqStr by Mine.same_dec
name_quick tw15168306246750427876 for instDecidableEqStr by Mine.same_dec
name_quick tw7269565832213808900 for instDecidableEqStr by Mine.same_dec
name_quick tw10317580896714288900 for instDecidableEqStr by Mine.same_dec
name_quick tw16752143609539240740 for instDecidableEqStr by Mine.same_dec
name_quick tw10424941004445345732 for instDecidableEqStr by Mine.same_dec
name_quick tw4224760802259116069 for instDecidableEqStr by Mine.same_dec
name_quick tw9136488742655976645 for instDecidableEqStr by Mine.same_dec
name_quick tw8703263022893421829 for instDecidableEqStr by Mine.same_dec
name_quick tw15278061642289888581 for instDecidableEqStr by Mine.same_dec
name_quick tw17672482021469178181 for instDecidableEqStr by Mine.same_dec
name_quick tw3442601649717412197 for instDecidableEqStr by Mine.same_dec
name_quick tw4275521005467322725 for instDecidableEqStr by Mine.same_dec
name_quick tw2039238271031011813 for instDecidableEqStr by Mine.same_dec
name_quick tw1402947280878808549 for instDecidableEqStr by Mine.same_dec
name_quick tw18350330562280901221 for instDecidableEqStr by Mine.same_dec
name_quick tw15323854079317868165 for instDecidableEqStr by Mine.same_dec
name_quick tw13141144453892091621 for instDecidableEqStr by Mine.same_dec
name_quick tw13607416678640721797 for instDecidableEqStr by Mine.same_dec
name_quick tw16049961110935095269 for instDecidableEqStr by Mine.same_dec
name_quick tw2660918139993853925 for instDecidableEqStr by Mine.same_dec
name_quick tw12450158673883907302 for instDecidableEqStr by Mine.same_dec
name_quick tw8253183596043897158 for instDecidableEqStr by Mine.same_dec
name_quick tw7581352650102555174 for instDecidableEqStr by Mine.same_dec
name_quick tw17300597898927385350 for instDecidableEqStr by Mine.same_dec
name_quick tw7250012664060256230 for instDecidableEqStr by Mine.same_dec
name_quick tw13512673800721320934 for instDecidableEqStr by Mine.same_dec
name_quick tw18220123701641295943 for instDecidableEqStr by Mine.same_dec
name_quick tw16979880578912567463 for instDecidableEqStr by Mine.same_dec
name_quick tw11588390666370768167 for instDecidableEqStr by Mine.same_dec
name_quick tw6550987210724342151 for instDecidableEqStr by Mine.same_dec
name_quick tw11682084944484805031 for instDecidableEqStr by Mine.same_dec
name_quick tw11108263761283441063 for instDecidableEqStr by Mine.same_dec
name_quick tw1355338860687761863 for instDecidableEqStr by Mine.same_dec
name_quick tw4319705520415482375 for instDecidableEqStr by Mine.same_dec
name_quick tw9862997608875712007 for instDecidableEqStr by Mine.same_dec
name_quick tw15490439104401381959 for instDecidableEqStr by Mine.same_dec
name_quick tw1537898542681612871 for instDecidableEqStr by Mine.same_dec
name_quick tw15980859228951719591 for instDecidableEqStr by Mine.same_dec
name_quick tw8376441433122354887 for instDecidableEqStr by Mine.same_dec
name_quick tw15900120412870309639 for instDecidableEqStr by Mine.same_dec
name_quick tw14326252917377295143 for instDecidableEqStr by Mine.same_dec
name_quick tw15894407043143930727 for instDecidableEqStr by Mine.same_dec
name_quick tw11270796479367742343 for instDecidableEqStr by Mine.same_dec
name_quick tw10073347824450446311 for instDecidableEqStr by Mine.same_dec
name_quick tw5770868932273138760 for instDecidableEqStr by Mine.same_dec
name_quick tw2611137233208623240 for instDecidableEqStr by Mine.same_dec
name_quick tw10314498396905981064 for instDecidableEqStr by Mine.same_dec
name_quick tw14073706353221006472 for instDecidableEqStr by Mine.same_dec
name_quick tw2422670821966735624 for instDecidableEqStr by Mine.same_dec
name_quick tw5268983451555188008 for instDecidableEqStr by Mine.same_dec
name_quick tw13900631225919944168 for instDecidableEqStr by Mine.same_dec
name_quick tw9285146279643344392 for instDecidableEqStr by Mine.same_dec
name_quick tw4658958612460137192 for instDecidableEqStr by Mine.same_dec
name_quick tw6434138532213402376 for instDecidableEqStr by Mine.same_dec
name_quick tw3131671291697673992 for instDecidableEqStr by Mine.same_dec
name_quick tw5882768191206486792 for instDecidableEqStr by Mine.same_dec
name_quick tw16697116713213952808 for instDecidableEqStr by Mine.same_dec
name_quick tw5200128776193632040 for instDecidableEqStr by Mine.same_dec
name_quick tw3880421473898291048 for instDecidableEqStr by Mine.same_dec
name_quick tw10103082736851635080 for instDecidableEqStr by Mine.same_dec
name_quick tw18101931140130867144 for instDecidableEqStr by Mine.same_dec
name_quick tw17111948838632640456 for instDecidableEqStr by Mine.same_dec
name_quick tw14386061602966655976 for instDecidableEqStr by Mine.same_dec
name_quick tw14108194823987119177 for instDecidableEqStr by Mine.same_dec
name_quick tw7788680626742099145 for instDecidableEqStr by Mine.same_dec
name_quick tw1333364371103165705 for instDecidableEqStr by Mine.same_dec
name_quick tw17000155066101142889 for instDecidableEqStr by Mine.same_dec
name_quick tw8424611434330503625 for instDecidableEqStr by Mine.same_dec
name_quick tw3039592710220408265 for instDecidableEqStr by Mine.same_dec
name_quick tw12172078356533094185 for instDecidableEqStr by Mine.same_dec
name_quick tw12866136484021002089 for instDecidableEqStr by Mine.same_dec
name_quick tw43969757491396457 for instDecidableEqStr by Mine.same_dec
name_quick tw3976722010076183465 for instDecidableEqStr by Mine.same_dec
name_quick tw8796240567053077481 for instDecidableEqStr by Mine.same_dec
name_quick tw9626621113073979434 for instDecidableEqStr by Mine.same_dec
name_quick tw14311459727803291754 for instDecidableEqStr by Mine.same_dec
name_quick tw3094477031063562474 for instDecidableEqStr by Mine.same_dec
name_quick tw13981391230805400906 for instDecidableEqStr by Mine.same_dec
name_quick tw4921902886906138986 for instDecidableEqStr by Mine.same_dec
name_quick tw5349121933718820234 for instDecidableEqStr by Mine.same_dec
name_quick tw15034313371233782410 for instDecidableEqStr by Mine.same_dec
name_quick tw1377046205977697930 for instDecidableEqStr by Mine.same_dec
name_quick tw14333388528381170442 for instDecidableEqStr by Mine.same_dec
name_quick tw18260038339965228139 for instDecidableEqStr by Mine.same_dec
name_quick tw8727135674562949291 for instDecidableEqStr by Mine.same_dec
name_quick tw6135381517318000843 for instDecidableEqStr by Mine.same_dec
name_quick tw16966814322356759819 for instDecidableEqStr by Mine.same_dec
name_quick tw17532440430192770315 for instDecidableEqStr by Mine.same_dec
name_quick tw12813236842856870187 for instDecidableEqStr by Mine.same_dec
name_quick tw932993149863042379 for instDecidableEqStr by Mine.same_dec
name_quick tw11013792430000457035 for instDecidableEqStr by Mine.same_dec
name_quick tw5902227825499142635 for instDecidableEqStr by Mine.same_dec
name_quick tw13002492023102617099 for instDecidableEqStr by Mine.same_dec
name_quick tw3362959441861295915 for instDecidableEqStr by Mine.same_dec
name_quick tw5823794197072137003 for instDecidableEqStr by Mine.same_dec
name_quick tw1184552218554016812 for instDecidableEqStr by Mine.same_dec
name_quick tw4071324889030633612 for instDecidableEqStr by Mine.same_dec
name_quick tw9951705424602377420 for instDecidableEqStr by Mine.same_dec
name_quick tw667198328695590252 for instDecidableEqStr by Mine.same_dec
name_quick tw1735497430108182060 for instDecidableEqStr by Mine.same_dec
name_quick tw13678640442995254988 for instDecidableEqStr by Mine.same_dec
name_quick tw5925582254088234700 for instDecidableEqStr by Mine.same_dec
name_quick tw14979626087600564940 for instDecidableEqStr by Mine.same_dec
name_quick tw6434265647005701932 for instDecidableEqStr by Mine.same_dec
name_quick tw8642067239939848140 for instDecidableEqStr by Mine.same_dec
name_quick tw2354101950205528012 for instDecidableEqStr by Mine.same_dec
name_quick tw10833955939284561965 for instDecidableEqStr by Mine.same_dec
name_quick tw11306939235166856333 for instDecidableEqStr by Mine.same_dec
name_quick tw1617757218408452269 for instDecidableEqStr by Mine.same_dec
name_quick tw1772237422875290029 for instDecidableEqStr by Mine.same_dec
name_quick tw16374537267813192141 for instDecidableEqStr by Mine.same_dec
name_quick tw12371321757623732685 for instDecidableEqStr by Mine.same_dec
name_quick tw11838138170533393997 for instDecidableEqStr by Mine.same_dec
name_quick tw17846936440860909165 for instDecidableEqStr by Mine.same_dec
name_quick tw3282434896037501709 for instDecidableEqStr by Mine.same_dec
name_quick tw117213463901210413 for instDecidableEqStr by Mine.same_dec
name_quick tw15766043655864335149 for instDecidableEqStr by Mine.same_dec
name_quick tw8058711392134626093 for instDecidableEqStr by Mine.same_dec
name_quick tw16439824349840649037 for instDecidableEqStr by Mine.same_dec
name_quick tw9305782018832362445 for instDecidableEqStr by Mine.same_dec
name_quick tw17828083071136270317 for instDecidableEqStr by Mine.same_dec
name_quick tw18340240734955500558 for instDecidableEqStr by Mine.same_dec
name_quick tw13180171748994924942 for instDecidableEqStr by Mine.same_dec
name_quick tw11566699232636054958 for instDecidableEqStr by Mine.same_dec
name_quick tw8579058602437062094 for instDecidableEqStr by Mine.same_dec
name_quick tw7276740287692124622 for instDecidableEqStr by Mine.same_dec
name_quick tw7650934615059315214 for instDecidableEqStr by Mine.same_dec
name_quick tw9458956999447867950 for instDecidableEqStr by Mine.same_dec
name_quick tw900395245841561262 for instDecidableEqStr by Mine.same_dec
name_quick tw5706481520468235054 for instDecidableEqStr by Mine.same_dec
name_quick tw17730448691065144110 for instDecidableEqStr by Mine.same_dec
name_quick tw16018607276475445134 for instDecidableEqStr by Mine.same_dec
name_quick tw11985326045990495214 for instDecidableEqStr by Mine.same_dec
name_quick tw15823609455315575823 for instDecidableEqStr by Mine.same_dec
name_quick tw2711585505577850959 for instDecidableEqStr by Mine.same_dec
name_quick tw912392155897948271 for instDecidableEqStr by Mine.same_dec
name_quick tw558745408833754511 for instDecidableEqStr by Mine.same_dec
name_quick tw4434333111790514575 for instDecidableEqStr by Mine.same_dec
name_quick tw11853533878840232495 for instDecidableEqStr by Mine.same_dec
name_quick tw6589095468515690095 for instDecidableEqStr by Mine.same_dec
name_quick tw6722154040420286063 for instDecidableEqStr by Mine.same_dec
name_quick tw17164873540382356111 for instDecidableEqStr by Mine.same_dec
name_quick tw15560500314895047343 for instDecidableEqStr by Mine.same_dec
name_quick tw11462045893675790159 for instDecidableEqStr by Mine.same_dec
name_quick tw9759809726879904816 for instDecidableEqStr by Mine.same_dec
name_quick tw10010936943081839664 for instDecidableEqStr by Mine.same_dec
name_quick tw1574873078441994576 for instDecidableEqStr by Mine.same_dec
name_quick tw3698559305507148144 for instDecidableEqStr by Mine.same_dec
name_quick tw2478078296215019888 for instDecidableEqStr by Mine.same_dec
name_quick tw15916391134991225584 for instDecidableEqStr by Mine.same_dec
name_quick tw2719445374943340272 for instDecidableEqStr by Mine.same_dec
name_quick tw5135500740108067664 for instDecidableEqStr by Mine.same_dec
name_quick tw10948738476641704880 for instDecidableEqStr by Mine.same_dec
name_quick tw7009043117176579089 for instDecidableEqStr by Mine.same_dec
name_quick tw15112985482279097393 for instDecidableEqStr by Mine.same_dec
name_quick tw8075568018651887793 for instDecidableEqStr by Mine.same_dec
name_quick tw7323676302269181137 for instDecidableEqStr by Mine.same_dec
name_quick tw7275051467321613617 for instDecidableEqStr by Mine.same_dec
name_quick tw5697894365363955025 for instDecidableEqStr by Mine.same_dec
name_quick tw17434858337260393937 for instDecidableEqStr by Mine.same_dec
name_quick tw11625766737575182897 for instDecidableEqStr by Mine.same_dec
name_quick tw11796506867022685745 for instDecidableEqStr by Mine.same_dec
name_quick tw6380047634161181297 for instDecidableEqStr by Mine.same_dec
name_quick tw17018628822417861297 for instDecidableEqStr by Mine.same_dec
name_quick tw8047484207015712433 for instDecidableEqStr by Mine.same_dec
name_quick tw7496433998918960881 for instDecidableEqStr by Mine.same_dec
name_quick tw1092655722715705105 for instDecidableEqStr by Mine.same_dec
name_quick tw16176465441171805009 for instDecidableEqStr by Mine.same_dec
name_quick tw8017206721242287953 for instDecidableEqStr by Mine.same_dec
name_quick tw17057272898397164401 for instDecidableEqStr by Mine.same_dec
name_quick tw11445135464325071761 for instDecidableEqStr by Mine.same_dec
name_quick tw12898947447245864913 for instDecidableEqStr by Mine.same_dec
name_quick tw17517737089405305841 for instDecidableEqStr by Mine.same_dec
name_quick tw12393455550290869266 for instDecidableEqStr by Mine.same_dec
name_quick tw9151444980202551346 for instDecidableEqStr by Mine.same_dec
name_quick tw6929956602132211858 for instDecidableEqStr by Mine.same_dec
name_quick tw16349216596472256690 for instDecidableEqStr by Mine.same_dec
name_quick tw18266329826461479122 for instDecidableEqStr by Mine.same_dec
name_quick tw10029231156530900338 for instDecidableEqStr by Mine.same_dec
name_quick tw9564595351457756722 for instDecidableEqStr by Mine.same_dec
name_quick tw16414604833108395602 for instDecidableEqStr by Mine.same_dec
name_quick tw951843321253372498 for instDecidableEqStr by Mine.same_dec
name_quick tw14884601019740666482 for instDecidableEqStr by Mine.same_dec
name_quick tw16593013826814733010 for instDecidableEqStr by Mine.same_dec
name_quick tw9931943479562821362 for instDecidableEqStr by Mine.same_dec
name_quick tw4552823106982906706 for instDecidableEqStr by Mine.same_dec
name_quick tw4407734736301137906 for instDecidableEqStr by Mine.same_dec
name_quick tw6662432510661729299 for instDecidableEqStr by Mine.same_dec
name_quick tw5518745428033880147 for instDecidableEqStr by Mine.same_dec
name_quick tw3152983702415266003 for instDecidableEqStr by Mine.same_dec
name_quick tw15066959818950650227 for instDecidableEqStr by Mine.same_dec
name_quick tw14112274594779413971 for instDecidableEqStr by Mine.same_dec
name_quick tw10227693086864044499 for instDecidableEqStr by Mine.same_dec
name_quick tw3766158894648301139 for instDecidableEqStr by Mine.same_dec
name_quick tw5732905514179830355 for instDecidableEqStr by Mine.same_dec
name_quick tw1503297043503765363 for instDecidableEqStr by Mine.same_dec
name_quick tw1749818173716722547 for instDecidableEqStr by Mine.same_dec
name_quick tw313226197891681235 for instDecidableEqStr by Mine.same_dec
name_quick tw15450981722951097364 for instDecidableEqStr by Mine.same_dec
name_quick tw2862820112641550484 for instDecidableEqStr by Mine.same_dec
name_quick tw4075660801711882420 for instDecidableEqStr by Mine.same_dec
name_quick tw18211773271919218964 for instDecidableEqStr by Mine.same_dec
name_quick tw11636919720809706868 for instDecidableEqStr by Mine.same_dec
name_quick tw15480198773659482676 for instDecidableEqStr by Mine.same_dec
name_quick tw8537084889766193716 for instDecidableEqStr by Mine.same_dec
name_quick tw7094674258960923220 for instDecidableEqStr by Mine.same_dec
name_quick tw2283851925072248500 for instDecidableEqStr by Mine.same_dec
name_quick tw11420187438672877268 for instDecidableEqStr by Mine.same_dec
name_quick tw17730428716208468724 for instDecidableEqStr by Mine.same_dec
name_quick tw15742981410569661332 for instDecidableEqStr by Mine.same_dec
name_quick tw6363645014702824404 for instDecidableEqStr by Mine.same_dec
name_quick tw16413264400604254196 for instDecidableEqStr by Mine.same_dec
name_quick tw13642483538084851733 for instDecidableEqStr by Mine.same_dec
name_quick tw14530364306720264245 for instDecidableEqStr by Mine.same_dec
name_quick tw8206430501311747189 for instDecidableEqStr by Mine.same_dec
name_quick tw4527066259768149269 for instDecidableEqStr by Mine.same_dec
name_quick tw8753696776887207221 for instDecidableEqStr by Mine.same_dec
name_quick tw10470071008263537045 for instDecidableEqStr by Mine.same_dec
name_quick tw14553827428707814869 for instDecidableEqStr by Mine.same_dec
name_quick tw12237943961548833269 for instDecidableEqStr by Mine.same_dec
name_quick tw392140993173905013 for instDecidableEqStr by Mine.same_dec
name_quick tw11964429278604863157 for instDecidableEqStr by Mine.same_dec
name_quick tw17537794083376710389 for instDecidableEqStr by Mine.same_dec
name_quick tw10406617859236724533 for instDecidableEqStr by Mine.same_dec
name_quick tw8450942572126056277 for instDecidableEqStr by Mine.same_dec
name_quick tw1218959903707654005 for instDecidableEqStr by Mine.same_dec
name_quick tw7299303143086499733 for instDecidableEqStr by Mine.same_dec
name_quick tw12635297910168745909 for instDecidableEqStr by Mine.same_dec
name_quick tw14126943448341045398 for instDecidableEqStr by Mine.same_dec
name_quick tw17954471519018878134 for instDecidableEqStr by Mine.same_dec
name_quick tw378412475510648054 for instDecidableEqStr by Mine.same_dec
name_quick tw3619232141914619222 for instDecidableEqStr by Mine.same_dec
name_quick tw10996506086634736982 for instDecidableEqStr by Mine.same_dec
name_quick tw2627984346626558326 for instDecidableEqStr by Mine.same_dec
name_quick tw14023627001141898710 for instDecidableEqStr by Mine.same_dec
name_quick tw11939915149646268982 for instDecidableEqStr by Mine.same_dec
name_quick tw3264259588550801142 for instDecidableEqStr by Mine.same_dec
name_quick tw2408619945344806742 for instDecidableEqStr by Mine.same_dec
name_quick tw9467589175468403638 for instDecidableEqStr by Mine.same_dec
name_quick tw2670528217467546775 for instDecidableEqStr by Mine.same_dec
name_quick tw1829445100760108279 for instDecidableEqStr by Mine.same_dec
name_quick tw15663404670287596823 for instDecidableEqStr by Mine.same_dec
name_quick tw9676229304581654039 for instDecidableEqStr by Mine.same_dec
name_quick tw12945451867199242903 for instDecidableEqStr by Mine.same_dec
name_quick tw1419416864934026935 for instDecidableEqStr by Mine.same_dec
name_quick tw7098571738820278039 for instDecidableEqStr by Mine.same_dec
name_quick tw878741703135273975 for instDecidableEqStr by Mine.same_dec
name_quick tw1702518465993881591 for instDecidableEqStr by Mine.same_dec
name_quick tw3891137856419664920 for instDecidableEqStr by Mine.same_dec
name_quick tw6004533443673955352 for instDecidableEqStr by Mine.same_dec
name_quick tw6059929106960060952 for instDecidableEqStr by Mine.same_dec
name_quick tw13016732220969518872 for instDecidableEqStr by Mine.same_dec
name_quick tw8400853705098224536 for instDecidableEqStr by Mine.same_dec
name_quick tw16947794391021106201 for instDecidableEqStr by Mine.same_dec
name_quick tw17988542015724977305 for instDecidableEqStr by Mine.same_dec
name_quick tw6683783046931543321 for instDecidableEqStr by Mine.same_dec
name_quick tw15542503528162795033 for instDecidableEqStr by Mine.same_dec
name_quick tw15007238320947547705 for instDecidableEqStr by Mine.same_dec
name_quick tw8719427161674164953 for instDecidableEqStr by Mine.same_dec
name_quick tw12022618010286034681 for instDecidableEqStr by Mine.same_dec
name_quick tw6245536207120538393 for instDecidableEqStr by Mine.same_dec
name_quick tw16531745337717519161 for instDecidableEqStr by Mine.same_dec
name_quick tw721709456127091705 for instDecidableEqStr by Mine.same_dec
name_quick tw2460228577881660442 for instDecidableEqStr by Mine.same_dec
name_quick tw7783732958741208154 for instDecidableEqStr by Mine.same_dec
name_quick tw470574548607681690 for instDecidableEqStr by Mine.same_dec
name_quick tw682011567655089306 for instDecidableEqStr by Mine.same_dec
name_quick tw9908251947323293946 for instDecidableEqStr by Mine.same_dec
name_quick tw12832477231654346042 for instDecidableEqStr by Mine.same_dec
name_quick tw5978237884098788730 for instDecidableEqStr by Mine.same_dec
name_quick tw3820604794100220378 for instDecidableEqStr by Mine.same_dec
name_quick tw8098380416015320538 for instDecidableEqStr by Mine.same_dec
name_quick tw10706342367453228570 for instDecidableEqStr by Mine.same_dec
name_quick tw8119918657739134586 for instDecidableEqStr by Mine.same_dec
name_quick tw3105397867545767578 for instDecidableEqStr by Mine.same_dec
name_quick tw14896874001708588922 for instDecidableEqStr by Mine.same_dec
name_quick tw10453232257043877786 for instDecidableEqStr by Mine.same_dec
name_quick tw219737044198020058 for instDecidableEqStr by Mine.same_dec
name_quick tw3577408171920636059 for instDecidableEqStr by Mine.same_dec
name_quick tw17497748084772794779 for instDecidableEqStr by Mine.same_dec
name_quick tw16548257151911338427 for instDecidableEqStr by Mine.same_dec
name_quick tw2664551874359636763 for instDecidableEqStr by Mine.same_dec
name_quick tw5357591511691535388 for instDecidableEqStr by Mine.same_dec
name_quick tw16846860572762119324 for instDecidableEqStr by Mine.same_dec
name_quick tw7365555872484859036 for instDecidableEqStr by Mine.same_dec
name_quick tw6654550962395885724 for instDecidableEqStr by Mine.same_dec
name_quick tw5701610774189311196 for instDecidableEqStr by Mine.same_dec
name_quick tw5345256250457102556 for instDecidableEqStr by Mine.same_dec
name_quick tw1706496860858754268 for instDecidableEqStr by Mine.same_dec
name_quick tw6817277305950994716 for instDecidableEqStr by Mine.same_dec
name_quick tw3560238982266916124 for instDecidableEqStr by Mine.same_dec
name_quick tw2447775223705975068 for instDecidableEqStr by Mine.same_dec
name_quick tw17100903815162463580 for instDecidableEqStr by Mine.same_dec
name_quick tw12659028871203227004 for instDecidableEqStr by Mine.same_dec
name_quick tw6426273055680023932 for instDecidableEqStr by Mine.same_dec
name_quick tw14210447440969649564 for instDecidableEqStr by Mine.same_dec
name_quick tw5396446701170858492 for instDecidableEqStr by Mine.same_dec
name_quick tw18345786424863182364 for instDecidableEqStr by Mine.same_dec
name_quick tw11333186260410459676 for instDecidableEqStr by Mine.same_dec
name_quick tw7745614565497352828 for instDecidableEqStr by Mine.same_dec
name_quick tw5111356299099525756 for instDecidableEqStr by Mine.same_dec
name_quick tw7397068168572129948 for instDecidableEqStr by Mine.same_dec
name_quick tw13317431791736044220 for instDecidableEqStr by Mine.same_dec
name_quick tw18264943444227015452 for instDecidableEqStr by Mine.same_dec
name_quick tw1291980286583624508 for instDecidableEqStr by Mine.same_dec
name_quick tw16241802466949684156 for instDecidableEqStr by Mine.same_dec
name_quick tw16643379632663270332 for instDecidableEqStr by Mine.same_dec
name_quick tw1258717718454355964 for instDecidableEqStr by Mine.same_dec
name_quick tw13912434898499826684 for instDecidableEqStr by Mine.same_dec
name_quick tw17476080006546285661 for instDecidableEqStr by Mine.same_dec
name_quick tw5032809538720368765 for instDecidableEqStr by Mine.same_dec
name_quick tw18263319221461684349 for instDecidableEqStr by Mine.same_dec
name_quick tw3778451253796500701 for instDecidableEqStr by Mine.same_dec
name_quick tw14780915534977879293 for instDecidableEqStr by Mine.same_dec
name_quick tw5529568453561195837 for instDecidableEqStr by Mine.same_dec
name_quick tw14537914154153760125 for instDecidableEqStr by Mine.same_dec
name_quick tw12329403913580668285 for instDecidableEqStr by Mine.same_dec
name_quick tw18056578402003937789 for instDecidableEqStr by Mine.same_dec
name_quick tw10323183001455561277 for instDecidableEqStr by Mine.same_dec
name_quick tw11186114360453789277 for instDecidableEqStr by Mine.same_dec
name_quick tw17804436615005485693 for instDecidableEqStr by Mine.same_dec
name_quick tw7504490480230193789 for instDecidableEqStr by Mine.same_dec
name_quick tw3972328310683599613 for instDecidableEqStr by Mine.same_dec
name_quick tw7892128664451923741 for instDecidableEqStr by Mine.same_dec
name_quick tw13759679279233594173 for instDecidableEqStr by Mine.same_dec
name_quick tw16296994325663420285 for instDecidableEqStr by Mine.same_dec
name_quick tw17552769576498331613 for instDecidableEqStr by Mine.same_dec
name_quick tw4748654258956052638 for instDecidableEqStr by Mine.same_dec
name_quick tw6711915476519705758 for instDecidableEqStr by Mine.same_dec
name_quick tw11277716924127702174 for instDecidableEqStr by Mine.same_dec
name_quick tw7035115661146626270 for instDecidableEqStr by Mine.same_dec
name_quick tw3636048126100218174 for instDecidableEqStr by Mine.same_dec
name_quick tw460243522976405022 for instDecidableEqStr by Mine.same_dec
name_quick tw16869277618539721502 for instDecidableEqStr by Mine.same_dec
name_quick tw1962928258387122110 for instDecidableEqStr by Mine.same_dec
name_quick tw9787463984185863102 for instDecidableEqStr by Mine.same_dec
name_quick tw4292500188555128830 for instDecidableEqStr by Mine.same_dec
name_quick tw17279654841073493023 for instDecidableEqStr by Mine.same_dec
name_quick tw6122645084068987007 for instDecidableEqStr by Mine.same_dec
name_quick tw4549333791460862111 for instDecidableEqStr by Mine.same_dec
name_quick tw5189142188285759775 for instDecidableEqStr by Mine.same_dec
name_quick tw16349804527192203551 for instDecidableEqStr by Mine.same_dec
name_quick tw11729385059970357855 for instDecidableEqStr by Mine.same_dec
name_quick tw8224813933742928703 for instDecidableEqStr by Mine.same_dec
name_quick tw6448080314894763839 for instDecidableEqStr by Mine.same_dec
name_quick tw11452132507678324671 for instDecidableEqStr by Mine.same_dec
name_quick tw11994158751524154303 for instDecidableEqStr by Mine.same_dec
name_quick tw14223099787259518943 for instDecidableEqStr by Mine.same_dec
name_quick tw13335737130258781183 for instDecidableEqStr by Mine.same_dec

namespace Mine
open_top hd for PySem.Challenge.rw_og0171_01
end Mine
open PySem PySem.W PyProof.Rows PySem.Spec PySem.Calls
set_option maxHeartbeats 0
namespace Mine
def Ctr (w : World) (f : Addr) (args : List Value) (d u : Nat) (news : List (Addr × Obj)) (Post : Value → List (Addr × Obj) → Prop) : Prop :=
  ∀ (mean : ExcName → Option Value) (mg mb : PySem.Str → Option Value) (dp un : Nat) (gd : Option (List Code)) (cn : PySem.Str) (cs : Scope) (a : Addr) (ccd : Value) (cl : List (PySem.Str × Addr)) (outer : List Env) (A₀ : Around) (base h₀ : Heap) (L : Addr) (m : PySem.Str → Option Value) (s : Shared) (Q E : Value → Shared → Prop),
    Below A₀ base outer h₀ → Fr h₀ L s.heap m → (hd.heap_39 w.params).In h₀ → News h₀ L s.heap news → Top hd.view_39 (looseW hd.view_39 [PySem.Str.ofString "PaperError", PySem.Str.ofString "told_objects"]) mean mg mb h₀ → cs.kind = .function → dp + d < recursionLimit → un + u < cLine →
    (∀ r news' h' tk', Post r news' → Fr h₀ L h' m → News h₀ L h' news' → Q r { s with heap := h', toks := tk' }) →
    wpAny (model PySem.Challenge.rw_og0171_01.row.prog w) (ktrTop dp un gd cn cs L a ccd cl outer) (call (.ref f) args) Q E s

theorem off_all {c d : Nat} : ∀ {l : List (Addr × Obj)}, AllLt c l → c ≤ d → ∀ p ∈ l, p.1 ≠ d
  | [], _, _, _, hp => nomatch hp
  | q :: r, h, hc, p, hp => by
    rcases List.mem_cons.mp hp with rfl | hp
    · exact Nat.ne_of_lt (Nat.lt_of_lt_of_le h.1 hc)
    · exact off_all h.2 hc p hp
theorem off_lt {c d : Nat} {l : List (Addr × Obj)} (h : ∀ p ∈ l, @LT.lt Nat _ p.1 c) (hc : c ≤ d) : ∀ p ∈ l, p.1 ≠ d := fun p hp => Nat.ne_of_lt (Nat.lt_of_lt_of_le (h p hp) hc)

theorem looks_dict {prog : Program} {w : World} {K : Type} [DecidableEq K] {knd : KeyKind prog w K} {M : Model} {h₀ h : Heap} {L d : Addr} {news : List (Addr × Obj)} {o : Obj} {kvs : List (K × Value)} (N : News h₀ L h news) (hm : (d, o) ∈ news) (hd : o.IsDictOf knd kvs) : Looks M h (typeOf (.ref d)) (.type "dict") := by
  obtain ⟨es, ep, hx, _⟩ := hd
  have e : o.cls = .type "dict" := hx.1
  refine fun A Q E s k q => ?_
  unfold typeOf
  refine wpAny_bind (wpAny_loadPart (k _ _ (N _ hm).1) ?_)
  rw [e]
  exact wpAny_pure q

theorem dict_at {prog : Program} {w : World} {K : Type} [DecidableEq K] {knd : KeyKind prog w K} {h₀ h : Heap} {L d : Addr} {news : List (Addr × Obj)} {o : Obj} {kvs : List (K × Value)} (N : News h₀ L h news) (hm : (d, o) ∈ news) (hd : o.IsDictOf knd kvs) : ∃ o, h.get? d = some o ∧ o.cls = .type "dict" := by
  obtain ⟨es, ep, hx, _⟩ := hd
  exact ⟨o, (N _ hm).1, hx.1⟩

/-- a Reference object: its number, generation 0 -/
def refD (P : Params) (k : Int) (t1 t2 t3 t4 : Tok) : Obj :=
  dictOf [{ hash := PyData.keyHash P (PySem.Str.ofString "number"), key := .str (PySem.Str.ofString "number") t1, val := .int k t2 }, { hash := PyData.keyHash P (PySem.Str.ofString "generation"), key := .str (PySem.Str.ofString "generation") t3, val := .int 0 t4 }] 2
section
variable {prog : Program} {w : World} {A : Around} {E : Value → Shared → Prop} {s : Shared} {h₀ : Heap} {L : Addr} {news : List (Addr × Obj)}
theorem my_itemL {value slice : PySem.Expr} {l : Addr} {vs : List Value} {n : Nat} {k : Int} {u : Tok} {v : Value} {Q : Value → Shared → Prop} (N : News h₀ L s.heap news) (hm : (l, listOf vs.toArray n) ∈ news) (h0 : 0 ≤ k) (hhi : k < 2 ^ 63) (hx : vs[k.toNat]? = some v) (h : Q v s)
    (hs : subscripted slice false (.ref l) (.int k u) = operate [.ref l, .int k u] (getItem (.ref l) (.int k u)) := by with_unfolding_all rfl) :
    wpAny (model prog w) A (subscriptTail value slice (.ref l) (.int k u)) Q E s :=
  item_litK (PySem.IsL.isList (n := n) (N _ hm).1) h0 hhi hx h hs
theorem my_itemT {value slice : PySem.Expr} {l : Addr} {vs : List Value} {n : Nat} {k : Int} {u : Tok} {v : Value} {Q : Value → Shared → Prop} (N : News h₀ L s.heap news) (hm : (l, ({ cls := .type "tuple", data := .seq vs.toArray n } : Obj)) ∈ news) (h0 : 0 ≤ k) (hhi : k < 2 ^ 63) (hx : vs[k.toNat]? = some v) (h : Q v s)
    (hs : subscripted slice false (.ref l) (.int k u) = operate [.ref l, .int k u] (getItem (.ref l) (.int k u)) := by with_unfolding_all rfl) :
    wpAny (model prog w) A (subscriptTail value slice (.ref l) (.int k u)) Q E s := by
  have hl : IsTup s.heap l vs.toArray := ⟨_, (N _ hm).1, rfl, n, rfl⟩
  refine item_tupleT hl (by omega) hhi (j := k.toNat) ?_ hx h hs
  have hlt : k.toNat < vs.length := by
    rcases Nat.lt_or_ge k.toNat vs.length with h' | h'
    · exact h'
    · rw [List.getElem?_eq_none h'] at hx; cases hx
  have e : ¬ k < 0 := by omega
  have e2 : (0 : Int) ≤ k ∧ k < (vs.length : Int) := ⟨h0, by omega⟩
  simp [seqIndex?, e, e2]
end
theorem beq_yes {d k : Int} (h : d = k) : (d == k) = true := by simp [h]
theorem beq_no {d k : Int} (h : d ≠ k) : ¬ ((d == k) = true) := by simp [h]
theorem all_app {c : Addr} {a b : List (Addr × Obj)} (h : ∀ p ∈ a, p.1 ≠ c) (g : ∀ p ∈ b, p.1 ≠ c) : ∀ p ∈ a ++ b, p.1 ≠ c := fun p hp => (List.mem_append.mp hp).elim (h p) (g p)
theorem en1 {α : Type} {a : α} {l l' own : List α} (e : l' = l ++ own) : ∀ p ∈ l, p ∈ a :: l' := fun p hp => List.mem_cons_of_mem _ (e ▸ List.mem_append_left _ hp)
theorem en2 {α : Type} {a b : α} {l l' own : List α} (e : l' = l ++ own) : ∀ p ∈ l, p ∈ a :: b :: l' := fun p hp => List.mem_cons_of_mem _ (en1 e p hp)
theorem en3 {α : Type} {a b c : α} {l l' own : List α} (e : l' = l ++ own) : ∀ p ∈ l, p ∈ a :: b :: c :: l' := fun p hp => List.mem_cons_of_mem _ (en2 e p hp)
theorem en4 {α : Type} {a b c d : α} {l l' own : List α} (e : l' = l ++ own) : ∀ p ∈ l, p ∈ a :: b :: c :: d :: l' := fun p hp => List.mem_cons_of_mem _ (en3 e p hp)
local macro_rules | `(tactic| k_room) => `(tactic| ktr_room)
local macro_rules | `(tactic| k_all) => `(tactic| first
  | with_reducible assumption
  | ((with_reducible rename AllLt _ _ => q1'); first | exact off_all q1' (by omega) | (clear q1'; k_all))
  | ((with_reducible rename (∀ p ∈ _, Prod.fst p < _) => q1'); first | exact off_lt q1' (by omega) | (clear q1'; k_all)))
local macro_rules | `(tactic| cell_enter) => `(tactic| first
  | (refine' code_def ?k1 ?k2 ?k3 ?k4 ?k5 ?kA ?kF ?kK ?k6 ?k7 ?k8 ?k9 ?kB ?_ ?c2 ?c3 ?c4 ?c5; (case kA => exact rfl); (case kF => exact rfl); (case kK => first | exact rfl | assumption); (case k1 => k_asm); (case k2 => k_asm); (case k3 => k_asm); (case k4 => k_asm); (case k5 => k_asm); (case k6 => k_is); (case k7 => k_is); (case k8 => ktr_room); (case k9 => first | exact BindsTo.of_eq rfl | exact binds_K (by k_in) rfl (by k_is) rfl rfl rfl | fail "k_enter: no rule for these arguments"); (case c5 => decide); (case kB => exact locs rfl); (case c2 => exact rfl); (case c3 => exact rfl); (case c4 => exact rfl); k_whole; intro g' L' h' FG' F' N' B' X' T'; (try dsimp only); (try k_lift B'); (try k_fold))
  | (refine' code_defC ?k1 ?k2 ?k3 ?k4 ?k5 ?kA ?kF ?kK ?k6 ?k7 ?k8 ?k9 ?kB ?kD ?_ ?c2 ?c3 ?c4; (case kA => exact rfl); (case kF => exact rfl); (case kK => first | exact rfl | assumption); (case k1 => k_asm); (case k2 => k_asm); (case k3 => k_asm); (case k4 => k_asm); (case k5 => k_asm); (case k6 => k_is); (case k7 => k_is); (case k8 => ktr_room); (case k9 => first | exact BindsTo.of_eq rfl | exact binds_K (by k_in) rfl (by k_is) rfl rfl rfl | fail "k_enter: no rule for these arguments"); (case kB => exact rfl); (case kD => decide +kernel); (case c2 => exact rfl); (case c3 => exact rfl); (case c4 => exact rfl); k_whole; intro g' L' h' tk' cells' FG' F' N' Y' B' X' T' l1; (try k_lt l1); k_cells Y'; (try simp only [List.cons_append, List.nil_append] at N'); (try dsimp only); (try k_lift B'); (try k_fold)))
local macro_rules | `(tactic| walk_at "pyIter ref") => `(tactic| (k_here; k_dflt (k_extra "iter9")))
local macro_rules | `(tactic| walk_at "InvEndN") => `(tactic| (k_dflt (k_extra "end9")))
local macro_rules | `(tactic| walk_at "getMethod ref") => `(tactic| (k_here; (with_reducible show wpAny _ _ (getMethod (Value.ref _) (PySem.Str.ofString "get") _) _ _ _); k_dflt (first | refine kdg_method (knd := PySem.strKind _ _) (by k_asm) (by k_mem) (by k_asm) ?_ | refine kdg_method (knd := PySem.intKind _ _) (by k_asm) (by k_mem) (by k_asm) ?_)))
local macro_rules | `(tactic| walk_at "call builtin:dict.get") => `(tactic| (k_here; k_dflt (first
  | (refine kdg_get2 (knd := PySem.intKind _ _) (by k_asm) (by k_mem) (by k_asm) (by k_asm) (intKind_is _ _ _ _) (some _) (by with_reducible assumption) ?_; (try dsimp only [Option.getD]))
  | refine kdg_get1 (knd := PySem.strKind _ _) (by k_asm) (by k_mem) (by k_asm) (by k_asm) (strKind_is _ _ _ _) _ (by with_reducible assumption) ?_
  | (refine kdg_get1 (knd := PySem.strKind _ _) (by k_asm) (by k_mem) (by k_asm) (by k_asm) (strKind_is _ _ _ _) (some _) (by rfl) ?_; (try dsimp only [Option.getD]))
  | (refine kdg_get1 (knd := PySem.strKind _ _) (by k_asm) (by k_mem) (by k_asm) (by k_asm) (strKind_is _ _ _ _) none (by rfl) ?_; (try dsimp only [Option.getD])))))
local macro_rules | `(tactic| k_types) => `(tactic| (intro M; first | exact looks_dict (knd := PySem.strKind _ _) (by k_asm) (by k_mem) (by k_asm) | exact looks_dict (knd := PySem.intKind _ _) (by k_asm) (by k_mem) (by k_asm)))
local macro_rules | `(tactic| k_mem) => `(tactic| first
  | exact List.Mem.head _
  | ((refine' List.Mem.tail _ ?_); k_mem)
  | ((show (_ : Addr × Obj) ∈ (_ : List (Addr × Obj))); assumption)
  | ((show (_ : Addr × Obj) ∈ (_ ++ _ : List (Addr × Obj))); (refine' List.mem_append_left _ ?_); k_mem))
local macro_rules | `(tactic| walk_at "call builtin:isinstance") => `(tactic| (k_here; (with_reducible show wpAny _ _ (call _ [Value.ref _, Value.ref _]) _ _ _); k_dflt (refine' isn_call (T := "dict") (P := KitAt _ "dict") ?k1 ?k2 ?k3 ?k4 ?k5 dict_cls ?_; (case k5 => exact dict_at (knd := PySem.strKind PySem.Challenge.rw_og0171_01.row.prog _) (by k_asm) (by k_mem) (by k_asm)); (case k1 => k_in); (case k2 => k_types); (case k3 => k_not); (case k4 => intro e; cases e); k_whole)))
local macro_rules | `(tactic| walk_at "call builtin:isinstance") => `(tactic| (k_here; (with_reducible show wpAny _ _ (call _ [Value.ref _, Value.type _]) _ _ _); k_dflt (refine' kia_one kitx_dict ?X ?c ?ee ?nb ?_; (case c => exact dict_at (knd := PySem.strKind PySem.Challenge.rw_og0171_01.row.prog _) (by k_asm) (by k_mem) (by k_asm)); (case X => k_in); (case ee => kit_is); (case nb => kit_nb); k_whole; intro _)))
local macro_rules | `(tactic| walk_at "call ref") => `(tactic| (k_here; k_dflt (k_extra "call9")))
local macro_rules | `(tactic| walk_at "call builtin:sorted") => `(tactic| (k_here; k_dflt (k_extra "sorted9")))
local macro_rules | `(tactic| walk_at "eval ListComp") => `(tactic| (k_here; k_dflt (k_extra "comp9")))
local macro_rules | `(tactic| walk_at "CompSrcT") => `(tactic| (k_here; k_dflt (k_extra "csrc9")))
local macro_rules | `(tactic| walk_at "CompEnd") => `(tactic| (k_dflt (k_extra "cend9")))
local macro_rules | `(tactic| walk_at "subscriptTail") => `(tactic| (k_here; (with_reducible show wpAny _ _ (subscriptTail _ _ (Value.ref _) (Value.int _ _)) _ _ _); k_dflt (first
  | (refine' my_itemL ?N ?m ?a ?b ?x ?_ ?hs; (case N => k_asm); (case m => k_mem); (case a => decide); (case b => decide); (case x => rfl); (case hs => with_unfolding_all rfl))
  | (refine' my_itemT ?N ?m ?a ?b ?x ?_ ?hs; (case N => k_asm); (case m => k_mem); (case a => decide); (case b => decide); (case x => rfl); (case hs => with_unfolding_all rfl)))))
local macro_rules | `(tactic| walk_at "callWith builtin:dict.update") => `(tactic| (k_here; k_dflt (k_extra "upd9")))
local macro_rules | `(tactic| walk_at "compareOp In int ref") => `(tactic| (k_here; k_dflt (k_extra "in9")))
local macro_rules | `(tactic| walk_at "setItem ref int") => `(tactic| (k_here; k_dflt (k_extra "set9")))
local macro_rules | `(tactic| walk_at "exec While Compare cons nil") => `(tactic| (k_here; k_dflt (k_extra "while9")))
local macro_rules | `(tactic| walk_at "KswEnd") => `(tactic| (k_dflt (k_extra "wend9")))
local macro_rules | `(tactic| walk_at "exec Assign cons ListComp") => `(tactic| (k_here; k_dflt (k_extra "acomp9")))
local macro_rules | `(tactic| walk_at "SrcTT") => `(tactic| (k_here; k_dflt (k_extra "csrc9")))
local macro_rules | `(tactic| walk_at "SrcTU") => `(tactic| (k_here; k_dflt (k_extra "csrc9")))
local macro_rules | `(tactic| walk_at "CompSrc") => `(tactic| (k_here; k_dflt (k_extra "csrc9")))
local macro_rules | `(tactic| walk_at "call type:dict") => `(tactic| (k_here; k_dflt (k_extra "dict9")))
local macro_rules | `(tactic| walk_at "ite") => `(tactic| (k_here; first
  | (refine ite_pos (beq_yes (by omega)) ?_)
  | (refine ite_neg (beq_no (by omega)) ?_)))
local macro_rules | `(tactic| walk_at "subscriptTail") => `(tactic| (k_here; k_dflt (k_extra "item9")))
local macro_rules | `(tactic| walk_at "compareOp In str ref") => `(tactic| (k_here; k_dflt (k_extra "ins9")))
local macro_rules | `(tactic| walk_at "call builtin:list.append") => `(tactic| (k_here; k_dflt (k_extra "app9")))
local macro_rules | `(tactic| walk_at "exec For Name Name cons nil") => `(tactic| (k_here; k_extra "for9"))
local macro_rules | `(tactic| walk_at "exec For Name Tuple cons nil") => `(tactic| (k_here; k_extra "for9"))
local macro_rules | `(tactic| walk_at "compareOp NotEq ref ref") => `(tactic| (k_here; k_dflt (k_extra "ne9")))
local macro_rules | `(tactic| walk_at "compareOp Eq ref ref") => `(tactic| (k_here; k_dflt (k_extra "eq9")))
local macro_rules | `(tactic| walk_at "subscriptTail Name Constant ref int") => `(tactic| (k_here; k_dflt (k_extra "item9")))
local macro_rules | `(tactic| k_all) => `(tactic| exact all_app (by k_all) (by k_all))
local macro_rules | `(tactic| k_all) => `(tactic| first
  | exact List.forall_mem_nil _
  | (refine' List.forall_mem_cons.mpr ⟨?hka, ?hkb⟩; (case hka => first | assumption | exact Ne.symm (by assumption) | k_ne); (case hkb => k_all)))
local macro_rules | `(tactic| k_all) => `(tactic| exact OwnOff.ne (by assumption) (by k_memK))
local macro_rules | `(tactic| k_updF) => `(tactic| first
  | (refine' UpdF.head ?hka; (case hka => k_all))
  | (refine' UpdF.tail ?hka ?hkb; (case hka => first | assumption | exact Ne.symm (by assumption) | k_ne); (case hkb => k_updF)))
local macro_rules | `(tactic| walk_at "CompSrcT") => `(tactic| (k_here; k_dflt (k_extra "csrc9")))
local macro_rules | `(tactic| walk_at "subscriptTail Call") => `(tactic| (k_here; k_dflt (k_extra "item9")))
local macro_rules | `(tactic| walk_at "call builtin:len") => `(tactic| (k_here; k_dflt (k_extra "len9")))
theorem ints_tail : ∀ {vs : List Value} {ns : List Int}, IntsAre vs ns → IntsAre vs.tail ns.tail
  | _, _, .nil => .nil
  | _, _, .cons _ _ h => h

theorem my_pop0 {prog : Program} {w : World} {A : Around} {E : Value → Shared → Prop} {s : Shared} {h₀ : Heap} {L D : Addr} {m : PySem.Str → Option Value} {news news' : List (Addr × Obj)} {us : List Value} {ns : List Int} {n : Nat} {u : Tok} {Q : Value → Shared → Prop}
    (F : Fr h₀ L s.heap m) (N : News h₀ L s.heap news) (U : Upd D (listOf us.toArray n) (listOf us.tail.toArray (n + 1)) news news') (hi : IntsAre us ns) (hne : 0 < ns.length) (hz : ns.length ≤ 63)
    (h : ∀ h' y t, Fr h₀ L h' m → News h₀ L h' news' → IntsAre us.tail ns.tail → ns.tail.length ≤ ns.length → Q (.int y t) { s with heap := h' }) : wpAny (model prog w) A (call (.builtin "list.pop") [.ref D, .int 0 u]) Q E s := by
  have hlen := hi.length
  have hi' := ints_tail hi
  cases hi with
  | nil => simp at hne
  | cons i t hr =>
    refine kl_popAt (k := 0) (p := []) F N rfl ?_ rfl U ?_ fun h' F' N' => h h' _ _ F' N' hi' (by simp)
    · simp [seqIndex?]
    · rw [sizeLine_eq]
      simp only [List.length_cons] at hz hlen ⊢
      omega

local macro_rules | `(tactic| walk_at "call builtin:list.pop") => `(tactic| (k_here; (with_reducible show wpAny _ _ (call (Value.builtin _) [Value.ref _, Value.int _ _]) _ _ _); k_dflt (refine' my_pop0 ?F ?N ?U ?i ?z ?y ?_; (case F => k_asm); (case N => k_asm); (case U => k_upd); (case i => with_reducible assumption); (case z => ((try simp only [List.length_set]); omega)); (case y => ((try simp only [List.length_set]); omega))); intro h' y' t' F' N' hi' hl'))

theorem take_spec (w : World) (pool : Addr) (vs : List Value) (ns : List Int) (nn : Nat) (k : Int) (t : Tok) (tl : List (Addr × Obj)) (hi : IntsAre vs ns) (hl : ns.length ≤ 63) (h1 : 1 ≤ k) (h2 : k ≤ 8) (hsep : ∀ p ∈ tl, p.1 ≠ pool) :
    Ctr w 428 [.ref pool, .int k t] 2 20 ((pool, listOf vs.toArray nn) :: tl) (fun r news' => ∃ d t' vs' ns' n', r = .int d t' ∧ 0 ≤ d ∧ d < k ∧ IntsAre vs' ns' ∧ ns'.length ≤ ns.length ∧ news' = (pool, listOf vs'.toArray n') :: tl) := by
  unfold Ctr
  k_fill
  w_top off
  k_with_none
  intro mean mg mb dp un gd cn cs a ccd cl outer A₀ base h₀ L m s Q E B F X N T hk hdp hun hret
  refine wpAny_call ?_
  k_dflt cell_enter
  k_steps
  · exact hret _ _ _ _ ⟨0, _, _, _, _, rfl, by omega, by omega, hi, Nat.le_refl _, rfl⟩ (by k_asm) (by k_asm)
  all_goals (
    (rename Fr h₀ L _ m => F9); (rename News h₀ L _ _ => N9); (rename IntsAre _ _ => I9)
    exact hret _ _ _ _ ⟨_, _, _, _, _, rfl, Int.fmod_nonneg_of_pos _ (by omega), Int.fmod_lt_of_pos _ (by omega), I9, by simp, rfl⟩ F9 N9)
theorem fetch_int (w : World) (S : Addr) (i : Int) (t : Tok) (tl : List (Addr × Obj))  :
    Ctr w 355 [.ref S, Value.int i t] 2 20 (tl) (fun r news' => r = Value.int i t ∧ news' = tl) := by
  unfold Ctr
  k_fill
  w_top off
  k_with_none
  k_with "iter9" => (
    (rename Fr _ _ _ _ => lF'); (rename News _ _ _ _ => lN'); (rename IsRange _ _ _ _ _ _ _ _ => rgX)
    (with_unfolding_all refine' kst_range (σ := Value) (fun _ => tl) (fun c => [(PySem.Str.ofString "here", c)]) (fun _ => True) [PySem.Str.ofString "generation", PySem.Str.ofString "found"] (fun pre c => pre = [] ∧ c = Value.int i t) (Value.int i t) (by rfl) rgX (by decide) (n := 30) (by rfl) lF' lN' trivial ?kk ⟨rfl, rfl⟩ ?turn ?done)
    (case kk => kst_all)
    (case done =>
       intro c u9 h9 tk9 _ hP9 F9 N9
       exact absurd hP9.1 (by decide))
    (case' turn =>
       intro c pre k9 t9 u9 h9 tk9 own9 hk9 hlt9 hoff9 _ hP9 F9 N9
       obtain ⟨rfl, rfl⟩ := hP9
       clear lF' lN'
       (try simp only [List.cons_append] at N9)
       (try dsimp only)
       (try k_fold)))
  intro mean mg mb dp un gd cn cs a ccd cl outer A₀ base h₀ L m s Q E B F X N TT hk hdp hun hret
  refine wpAny_call ?_
  k_dflt cell_enter
  k_steps
  all_goals ((rename Fr h₀ L _ m => F9); (rename News h₀ L _ _ => N9); exact hret _ _ _ _ ⟨rfl, rfl⟩ F9 (cb_drop N9 fun p hp => List.mem_append_left _ hp))

theorem fetch_none (w : World) (S : Addr)  (tl : List (Addr × Obj))  :
    Ctr w 355 [.ref S, Value.none] 2 20 (tl) (fun r news' => r = Value.none ∧ news' = tl) := by
  unfold Ctr
  k_fill
  w_top off
  k_with_none
  k_with "iter9" => (
    (rename Fr _ _ _ _ => lF'); (rename News _ _ _ _ => lN'); (rename IsRange _ _ _ _ _ _ _ _ => rgX)
    (with_unfolding_all refine' kst_range (σ := Value) (fun _ => tl) (fun c => [(PySem.Str.ofString "here", c)]) (fun _ => True) [PySem.Str.ofString "generation", PySem.Str.ofString "found"] (fun pre c => pre = [] ∧ c = Value.none) (Value.none) (by rfl) rgX (by decide) (n := 30) (by rfl) lF' lN' trivial ?kk ⟨rfl, rfl⟩ ?turn ?done)
    (case kk => kst_all)
    (case done =>
       intro c u9 h9 tk9 _ hP9 F9 N9
       exact absurd hP9.1 (by decide))
    (case' turn =>
       intro c pre k9 t9 u9 h9 tk9 own9 hk9 hlt9 hoff9 _ hP9 F9 N9
       obtain ⟨rfl, rfl⟩ := hP9
       clear lF' lN'
       (try simp only [List.cons_append] at N9)
       (try dsimp only)
       (try k_fold)))
  intro mean mg mb dp un gd cn cs a ccd cl outer A₀ base h₀ L m s Q E B F X N TT hk hdp hun hret
  refine wpAny_call ?_
  k_dflt cell_enter
  k_steps
  all_goals ((rename Fr h₀ L _ m => F9); (rename News h₀ L _ _ => N9); exact hret _ _ _ _ ⟨rfl, rfl⟩ F9 (cb_drop N9 fun p hp => List.mem_append_left _ hp))

theorem fetch_dict (w : World) (S : Addr) (d : Addr) (o : Obj) (dk : List (PySem.Str × Value)) (tl : List (Addr × Obj)) (hd : (d, o) ∈ tl) (hdo : o.IsDictOf (PySem.strKind PySem.Challenge.rw_og0171_01.row.prog w) dk) :
    Ctr w 355 [.ref S, Value.ref d] 2 20 (tl) (fun r news' => r = Value.ref d ∧ news' = tl) := by
  unfold Ctr
  k_fill
  w_top off
  k_with_none
  k_with "iter9" => (
    (rename Fr _ _ _ _ => lF'); (rename News _ _ _ _ => lN'); (rename IsRange _ _ _ _ _ _ _ _ => rgX)
    (with_unfolding_all refine' kst_range (σ := Value) (fun _ => tl) (fun c => [(PySem.Str.ofString "here", c)]) (fun _ => True) [PySem.Str.ofString "generation", PySem.Str.ofString "found"] (fun pre c => pre = [] ∧ c = Value.ref d) (Value.ref d) (by rfl) rgX (by decide) (n := 30) (by rfl) lF' lN' trivial ?kk ⟨rfl, rfl⟩ ?turn ?done)
    (case kk => kst_all)
    (case done =>
       intro c u9 h9 tk9 _ hP9 F9 N9
       exact absurd hP9.1 (by decide))
    (case' turn =>
       intro c pre k9 t9 u9 h9 tk9 own9 hk9 hlt9 hoff9 _ hP9 F9 N9
       obtain ⟨rfl, rfl⟩ := hP9
       clear lF' lN'
       (try simp only [List.cons_append] at N9)
       (try dsimp only)
       (try k_fold)))
  intro mean mg mb dp un gd cn cs a ccd cl outer A₀ base h₀ L m s Q E B F X N TT hk hdp hun hret
  refine wpAny_call ?_
  k_dflt cell_enter
  k_steps
  all_goals ((rename Fr h₀ L _ m => F9); (rename News h₀ L _ _ => N9); exact hret _ _ _ _ ⟨rfl, rfl⟩ F9 (cb_drop N9 fun p hp => List.mem_append_left _ hp))

theorem fetch_ref (w : World) (S dS T R : Addr) (oT : Obj) (kvs : List (Int × Value)) (ts1 ts2 : Tok) (r dr tup d : Addr) (o : Obj) (k : Int) (tk t1 t2 t3 t4 t5 : Tok) (n0 : Nat) (dk : List (PySem.Str × Value)) (tl : List (Addr × Obj))
    (hT : oT.IsDictOf (intKind PySem.Challenge.rw_og0171_01.row.prog w) kvs) (loT : (T == sysModules) = false)
    (hS : (S, instObj 419 dS) ∈ tl) (hdS : (dS, dictOf [{ hash := PyData.keyHash w.params (PySem.Str.ofString "table"), key := .str (PySem.Str.ofString "table") ts1, val := .ref T }, { hash := PyData.keyHash w.params (PySem.Str.ofString "trailer"), key := .str (PySem.Str.ofString "trailer") ts2, val := .ref R }] 2) ∈ tl)
    (hr : (r, instObj 310 dr) ∈ tl) (hdr : (dr, dictOf [{ hash := PyData.keyHash w.params (PySem.Str.ofString "number"), key := .str (PySem.Str.ofString "number") t1, val := .int k t2 }, { hash := PyData.keyHash w.params (PySem.Str.ofString "generation"), key := .str (PySem.Str.ofString "generation") t3, val := .int 0 t4 }] 2) ∈ tl)
    (hv : valueAt kvs k = some (.ref tup)) (htup : (tup, { cls := .type "tuple", data := .seq [.int 0 t5, .ref d].toArray n0 }) ∈ tl)
    (hd : (d, o) ∈ tl) (hdo : o.IsDictOf (PySem.strKind PySem.Challenge.rw_og0171_01.row.prog w) dk) :
    Ctr w 355 [.ref S, .ref r] 2 20 ((T, oT) :: tl) (fun r news' => r = .ref d ∧ news' = (T, oT) :: tl) := by
  unfold Ctr
  k_fill
  w_top off
  k_with_none
  k_with "iter9" => (
    (rename Fr _ _ _ _ => lF'); (rename News _ _ _ _ => lN'); (rename IsRange _ _ _ _ _ _ _ _ => rgX)
    (with_unfolding_all refine' kst_range (σ := Value) (fun _ => (T, oT) :: tl) (fun c => [(PySem.Str.ofString "here", c)]) (fun _ => True) [PySem.Str.ofString "generation", PySem.Str.ofString "found"] (fun pre c => (pre.length = 0 ∧ c = Value.ref r) ∨ (pre.length = 1 ∧ c = Value.ref d)) (Value.ref r) (by rfl) rgX (by decide) (n := 30) (by rfl) lF' lN' trivial ?kk (Or.inl ⟨rfl, rfl⟩) ?turn ?done)
    (case kk => kst_all)
    (case done =>
       intro c u9 h9 tk9 _ hP9 F9 N9
       exact absurd hP9 (by simp [rangeKs]))
    (case' turn =>
       intro c pre k9 t9 u9 h9 tk9 own9 hk9 hlt9 hoff9 _ hP9 F9 N9
       obtain ⟨hl9, rfl⟩ | ⟨hl9, rfl⟩ := hP9)
    all_goals (
       clear lF' lN'
       (try simp only [List.cons_append] at N9)
       (try dsimp only)
       (try k_fold)))
  k_with "end9" => (
    (rename Fr _ _ _ _ => lF'); (rename News _ _ _ _ => lN')
    refine kst_end (Value.ref d) lF' lN' ?e1 ?e2 rfl trivial ?e3 ?e4 ?e5
    (case e1 => (intro p hp; simp only [List.mem_cons, List.mem_append] at hp ⊢; grind))
    (case e2 => (intro p hp; simp only [List.mem_cons, List.mem_append] at hp ⊢; grind))
    (case e3 => kst_all)
    (case e4 => (intro z h1 h2 h3; have h2' := h2 _ (List.Mem.head _); simp only [List.contains_cons, List.contains_nil, Bool.or_false, Bool.or_eq_false_iff, beq_eq_false_iff_ne, ne_eq] at h2' h3; simp [kstB, h1, h2', h3]))
    (case e5 => exact Or.inr ⟨by simp only [List.length_append, List.length_cons, List.length_nil, hl9], rfl⟩))
  intro mean mg mb dp un gd cn cs a ccd cl outer A₀ base h₀ L m s Q E B F X N TT hk hdp hun hret
  refine wpAny_call ?_
  k_dflt cell_enter
  k_steps
  all_goals ((rename Fr h₀ L _ m => F9); (rename News h₀ L _ _ => N9); exact hret _ _ _ _ ⟨rfl, rfl⟩ F9 (cb_drop N9 (by intro p hp; simp only [List.mem_cons, List.mem_append] at hp ⊢; grind)))
/-- a Reference object of number k, generation 0, whose table entry is the dict (d, o) -/
inductive FD (w : World) (kvs : List (Int × Value)) (tl : List (Addr × Obj)) : Value → Value → Prop
  | int (i : Int) (t : Tok) : FD w kvs tl (.int i t) (.int i t)
  | none : FD w kvs tl .none .none
  | dict {d : Addr} {o : Obj} {dk : List (PySem.Str × Value)} : (d, o) ∈ tl → o.IsDictOf (PySem.strKind PySem.Challenge.rw_og0171_01.row.prog w) dk → FD w kvs tl (.ref d) (.ref d)
  | ref {r dr tup d : Addr} {o : Obj} {k : Int} {t1 t2 t3 t4 t5 : Tok} {n0 : Nat} {dk : List (PySem.Str × Value)} :
      (r, instObj 310 dr) ∈ tl → (dr, dictOf [{ hash := PyData.keyHash w.params (PySem.Str.ofString "number"), key := .str (PySem.Str.ofString "number") t1, val := .int k t2 }, { hash := PyData.keyHash w.params (PySem.Str.ofString "generation"), key := .str (PySem.Str.ofString "generation") t3, val := .int 0 t4 }] 2) ∈ tl →
      valueAt kvs k = some (.ref tup) → (tup, { cls := .type "tuple", data := .seq [.int 0 t5, .ref d].toArray n0 }) ∈ tl →
      (d, o) ∈ tl → o.IsDictOf (PySem.strKind PySem.Challenge.rw_og0171_01.row.prog w) dk → FD w kvs tl (.ref r) (.ref d)

/-- a Shelf object S whose table is the dict at T -/
def ShIn (w : World) (S T : Addr) (tl : List (Addr × Obj)) : Prop :=
  ∃ (dS R : Addr) (t1 t2 : Tok), (S, instObj 419 dS) ∈ tl ∧ (dS, dictOf [{ hash := PyData.keyHash w.params (PySem.Str.ofString "table"), key := .str (PySem.Str.ofString "table") t1, val := .ref T }, { hash := PyData.keyHash w.params (PySem.Str.ofString "trailer"), key := .str (PySem.Str.ofString "trailer") t2, val := .ref R }] 2) ∈ tl

theorem fetch_of {w : World} {S T : Addr} {oT : Obj} {kvs : List (Int × Value)} {tl : List (Addr × Obj)} {v v' : Value} (sh : ShIn w S T tl) (hT : oT.IsDictOf (intKind PySem.Challenge.rw_og0171_01.row.prog w) kvs) (loT : (T == sysModules) = false) (h : FD w kvs tl v v') :
    Ctr w 355 [.ref S, v] 2 20 ((T, oT) :: tl) (fun r news' => r = v' ∧ news' = (T, oT) :: tl) := by
  obtain ⟨dS, R, t1, t2, h1, h2⟩ := sh
  cases h with
  | int i t => exact fetch_int w S i t _
  | none => exact fetch_none w S _
  | dict hd hdo => exact fetch_dict w S _ _ _ _ (.tail _ hd) hdo
  | ref a1 a2 a3 a4 a5 a6 => exact fetch_ref w S dS T R oT kvs t1 t2 _ _ _ _ _ _ 0 _ _ _ _ _ _ _ tl hT loT h1 h2 a1 a2 a3 a4 a5 a6

theorem ctr_use {w : World} {f : Addr} {args : List Value} {d u : Nat} {news : List (Addr × Obj)} {Post : Value → List (Addr × Obj) → Prop} (C : Ctr w f args d u news Post)
    {mean : ExcName → Option Value} {mg mb : PySem.Str → Option Value} {dp un : Nat} {gd : Option (List Code)} {cn : PySem.Str} {cs : Scope} {a : Addr} {ccd : Value} {cl : List (PySem.Str × Addr)} {outer : List Env} {A₀ : Around} {base h₀ : Heap} {L : Addr} {m : PySem.Str → Option Value} {s : Shared} {Q E : Value → Shared → Prop}
    (B : Below A₀ base outer h₀) (F : Fr h₀ L s.heap m) (X : (hd.heap_39 w.params).In h₀) (N : News h₀ L s.heap news) (TT : Top hd.view_39 (looseW hd.view_39 [PySem.Str.ofString "PaperError", PySem.Str.ofString "told_objects"]) mean mg mb h₀) (hk : cs.kind = .function) (hdp : dp + d < recursionLimit) (hun : un + u < cLine)
    (ret : ∀ r news' h' tk', Post r news' → Fr h₀ L h' m → News h₀ L h' news' → Q r { s with heap := h', toks := tk' }) :
    wpAny (model PySem.Challenge.rw_og0171_01.row.prog w) (ktrTop dp un gd cn cs L a ccd cl outer) (call (.ref f) args) Q E s := C _ _ _ _ _ _ _ _ _ _ _ _ _ _ _ _ _ _ _ _ B F X N TT hk hdp hun ret
theorem strsAre_of {vs : List Value} {ss : List PySem.Str} (hl : vs.length = ss.length) (h : ∀ (j : Nat) v, vs[j]? = some v → ∃ x t, ss[j]? = some x ∧ v = .str x t) : StrsAre vs ss := by
  induction vs generalizing ss with
  | nil => cases ss with
    | nil => exact .nil
    | cons _ _ => simp at hl
  | cons v r ih =>
    cases ss with
    | nil => simp at hl
    | cons y q =>
      obtain ⟨x, t, e1, rfl⟩ := h 0 v rfl
      simp at e1; subst e1
      exact .cons _ t (ih (by simpa using hl) fun j u hu => h (j + 1) u (by simpa using hu))

theorem sort_strs_at {prog : Program} {w : World} {A : Around} {E : Value → Shared → Prop} {s : Shared} {h₀ : Heap} {L D : Addr} {m : PySem.Str → Option Value} {news : List (Addr × Obj)} {vs : List Value} {ss : List PySem.Str} {n : Nat} {Q : Value → Shared → Prop}
    (F : Fr h₀ L s.heap m) (N : News h₀ L s.heap ((D, listOf vs.toArray n) :: news)) (lt : ∀ q ∈ news, @LT.lt Nat _ q.1 D) (hS : StrsAre vs ss) (h64 : vs.length < 64)
    (h : ∀ (h' : Heap) (vs' : List Value) (ss' : List PySem.Str) (n' : Nat), Fr h₀ L h' m → News h₀ L h' ((D, listOf vs'.toArray n') :: news) → StrsAre vs' ss' → ss'.Perm ss → sortedS ss' = true → Q .none { s with heap := h' }) :
    wpAny (model prog w) A (call (.builtin "list.sort") [.ref D]) Q E s := by
  have z := N _ (.head _)
  have hoL : s.heap.get? D = some (seqObj "list" vs.toArray n) := z.1
  refine wpAny_call_entry slot_list_sort ⟨_, hoL, rfl⟩ entry_list_sort (list_sort_treeK strKind_oneLt hoL hS.keysOf (fun v₁ v₂ rest e => keyKind_strs (by rw [← e]; exact hS)) h64 fun st' hp hs => ⟨_, rfl, ?_⟩) (args_list_sort _)
  obtain ⟨ss', h1, h2, h3⟩ := sorted_out_str hS hp hs
  obtain ⟨e, he⟩ := sortedHeap_at (out := (arrOf st').map (·.2)) hoL
  have old : ∀ b o, b ≠ D → s.heap.get? b = some o → (sortedHeap s.heap D vs ((arrOf st').map (·.2))).get? b = some o := fun b o hb e => (sortedHeap_old hb (Heap.lt_size e)).trans e
  refine h _ ((arrOf st').map (·.2)).toList ss' e ?_ ?_ h1 h2 h3
  · obtain ⟨oL, a1, a2, hL, a3⟩ := F.ns
    refine ⟨⟨oL, a1, a2, old _ _ (Ne.symm z.2.1) hL, a3⟩, fun b o e => old _ _ (fun q => ?_) (F.keep b o e), F.above⟩
    rw [q, z.2.2] at e; cases e
  · intro p hp
    rcases List.mem_cons.mp hp with rfl | hp
    · exact ⟨by rw [Array.toArray_toList]; exact he, z.2⟩
    · have y := N p (.tail _ hp)
      exact ⟨old _ _ (Nat.ne_of_lt (lt p hp)) y.1, y.2⟩

theorem sorted_dict {prog : Program} {w : World} {A : Around} {E : Value → Shared → Prop} {s : Shared} {h₀ : Heap} {L d : Addr} {m : PySem.Str → Option Value} {news : List (Addr × Obj)} {o : Obj} {kvs : List (PySem.Str × Value)} {Q : Value → Shared → Prop}
    (hh : A.handled = none) (F : Fr h₀ L s.heap m) (N : News h₀ L s.heap news) (hm : (d, o) ∈ news) (hd : o.IsDictOf (PySem.strKind prog w) kvs) (lo : (d == sysModules) = false) (hn : kvs.length < 64)
    (h : ∀ (D : Addr) (h' : Heap) (tk : Nat) (vs : List Value) (ss : List PySem.Str) (n' : Nat), Fr h₀ L h' m → News h₀ L h' ((D, listOf vs.toArray n') :: news) → (∀ q ∈ news, q.1 < D) → StrsAre vs ss → ss.Perm (kvs.map (·.1)) → sortedS ss = true → Q (.ref D) { s with heap := h', toks := tk }) :
    wpAny (model prog w) A (call (.builtin "sorted") [.ref d]) Q E s := by
  have hD : s.heap.DictOf (PySem.strKind prog w) d kvs := kda_dict N hm hd
  obtain ⟨ep, hat⟩ := hD.dictAt
  refine kdu_sorted (kdl_dict (knd := PySem.strKind prog w) (kvs := kvs) (ep := ep) lo) hh F N hat (kdl_size (by omega)) fun D h' tk vs F' N' l1 hl hv => ?_
  have hS : StrsAre vs (kvs.map (·.1)) := strsAre_of (by simp [hl]) fun j v hj => by
    obtain ⟨k, x, e, hk⟩ := hv j v hj
    refine ⟨k, ?_⟩
    cases v with
    | str y t => simp [PySem.strKind, Value.isStrOf] at hk; subst hk; exact ⟨t, by simp [e], rfl⟩
    | _ => simp [PySem.strKind, Value.isStrOf] at hk
  exact sort_strs_at F' N' l1 hS (by omega) fun h'' vs' ss' n' F'' N'' hS' hp hs => h D h'' tk vs' ss' n' F'' N'' l1 hS' hp hs

theorem sorted_list {prog : Program} {w : World} {A : Around} {E : Value → Shared → Prop} {s : Shared} {h₀ : Heap} {L l : Addr} {m : PySem.Str → Option Value} {news : List (Addr × Obj)} {vs : List Value} {ss : List PySem.Str} {n : Nat} {Q : Value → Shared → Prop}
    (F : Fr h₀ L s.heap m) (N : News h₀ L s.heap news) (hm : (l, listOf vs.toArray n) ∈ news) (hS : StrsAre vs ss) (h64 : ss.length < 64)
    (h : ∀ (D : Addr) (h' : Heap) (vs' : List Value) (ss' : List PySem.Str) (n' : Nat), Fr h₀ L h' m → News h₀ L h' ((D, listOf vs'.toArray n') :: news) → (∀ q ∈ news, q.1 < D) → StrsAre vs' ss' → ss'.Perm ss → sortedS ss' = true → Q (.ref D) { s with heap := h' }) :
    wpAny (model prog w) A (call (.builtin "sorted") [.ref l]) Q E s :=
  sorted_N_str F N (PySem.IsL.isList (n := n) (N _ hm).1) hS (by rw [hS.length]; exact h64) fun h' vs' ss' e F' N' hS' hp hs => h _ h' vs' ss' e F' N' (fun q hq => Nat.lt_succ_of_lt (Heap.lt_size (N q hq).1)) hS' hp hs

/-- two sorted lists of the same texts are one -/
theorem sortedS_pair : ∀ (l : List PySem.Str), sortedS l = true → l.Pairwise (fun a b => a.cps.toList ≤ b.cps.toList) := by
  have rise : ∀ (r : List PySem.Str) (p : PySem.Str), risingS p r = true → (p :: r).Pairwise (fun a b => a.cps.toList ≤ b.cps.toList) := by
    intro r
    induction r with
    | nil => intro p _; exact List.pairwise_cons.mpr ⟨fun _ h => (nomatch h), List.Pairwise.nil⟩
    | cons x r ih =>
      intro p h
      have h' : (!ltCps x.cps.toList p.cps.toList && risingS x r) = true := h
      rw [Bool.and_eq_true] at h'
      have h1 := ih x h'.2
      have h2 : ¬ x.cps.toList < p.cps.toList := by
        have h3 := h'.1
        rw [ltCps_eq] at h3
        simpa using h3
      have h4 : p.cps.toList ≤ x.cps.toList := List.not_lt.mp h2
      refine List.pairwise_cons.mpr ⟨fun y hy => ?_, h1⟩
      rcases List.mem_cons.mp hy with rfl | hy
      · exact h4
      · exact List.le_trans h4 ((List.pairwise_cons.mp h1).1 y hy)
  intro l h
  cases l with
  | nil => exact .nil
  | cons x r => exact rise r x h
theorem sortedS_unique {a b : List PySem.Str} (hp : a.Perm b) (ha : sortedS a = true) (hb : sortedS b = true) : a = b :=
  List.Perm.eq_of_pairwise (le := fun a b : PySem.Str => a.cps.toList ≤ b.cps.toList) (fun x y _ _ h1 h2 => by
    have e := List.le_antisymm h1 h2
    cases x; cases y
    simp only at e
    congr 1
    exact Array.toList_inj.mp e) (sortedS_pair a ha) (sortedS_pair b hb) hp
theorem sortedS_filter (p : PySem.Str → Bool) {l : List PySem.Str} (h : sortedS l = true) : sortedS (l.filter p) = true :=
  sortedS_of_pairwise _ (((sortedS_pair l h).filter p).imp fun {a b} h => by
    rw [ltCps_eq]
    simpa using List.not_lt.mpr h)
theorem get_of {w : World} {S T : Addr} {oT : Obj} {kvs : List (Int × Value)} {tl : List (Addr × Obj)} {v' : Value} {d : Addr} {o : Obj} {dk : List (PySem.Str × Value)} {key : PySem.Str} {tk : Tok} {v1 : Option Value} (sh : ShIn w S T tl) (hT : oT.IsDictOf (intKind PySem.Challenge.rw_og0171_01.row.prog w) kvs) (loT : (T == sysModules) = false)
    (hd : (d, o) ∈ tl) (hdo : o.IsDictOf (PySem.strKind PySem.Challenge.rw_og0171_01.row.prog w) dk) (lod : (d == sysModules) = false) (hv : valueAt dk key = v1) (h : FD w kvs tl (v1.getD .none) v') :
    Ctr w 362 [.ref S, .ref d, .str key tk] 4 60 ((T, oT) :: tl) (fun r news' => r = v' ∧ news' = (T, oT) :: tl) := by
  have hf := fetch_of sh hT loT h
  obtain ⟨dS, R, t1, t2, h1, h2⟩ := sh
  clear h
  unfold Ctr
  k_fill
  w_top off
  k_with_none
  k_with "call9" => (
    (refine' ctr_use hf ?k1 ?k2 ?k3 ?k4 ?k5 ?k6 ?k7 ?k8 ?kR)
    (case k1 => k_asm)
    (case k2 => k_asm)
    (case k3 => k_asm)
    (case k4 => k_asm)
    (case k5 => k_asm)
    (case k6 => first | exact rfl | assumption)
    (case k7 => ktr_room)
    (case k8 => ktr_units)
    rintro r9 news9 h9 tk9 ⟨rfl, rfl⟩ F9 N9
    (try dsimp only)
    (try k_fold))
  intro mean mg mb dp un gd cn cs a ccd cl outer A₀ base h₀ L m s Q E B F X N TT hk hdp hun hret
  refine wpAny_call ?_
  k_dflt cell_enter
  k_steps
  all_goals ((rename Fr h₀ L _ m => F9); (rename News h₀ L _ _ => N9); exact hret _ _ _ _ ⟨rfl, rfl⟩ F9 N9)
def IsKnown (sts known : List PySem.Str) : Prop := known.Perm (sts.filter (fun x => !(x == PySem.Str.ofString "Off"))) ∧ sortedS known = true

inductive LD2 (w : World) (kvs : List (Int × Value)) (tl : List (Addr × Obj)) : Value → List PySem.Str → Prop
  | none : LD2 w kvs tl .none []
  | int (i : Int) (t : Tok) : LD2 w kvs tl (.int i t) []
  | dict {d : Addr} {o : Obj} {dk : List (PySem.Str × Value)} {known : List PySem.Str} : (d, o) ∈ tl → o.IsDictOf (PySem.strKind PySem.Challenge.rw_og0171_01.row.prog w) dk → (d == sysModules) = false → dk.length < 64 → IsKnown (dk.map (·.1)) known → LD2 w kvs tl (.ref d) known
inductive LD1 (w : World) (kvs : List (Int × Value)) (tl : List (Addr × Obj)) : Value → List PySem.Str → Prop
  | none : LD1 w kvs tl .none []
  | int (i : Int) (t : Tok) : LD1 w kvs tl (.int i t) []
  | dict {d : Addr} {o : Obj} {dk : List (PySem.Str × Value)} {v2 : Value} {known : List PySem.Str} : (d, o) ∈ tl → o.IsDictOf (PySem.strKind PySem.Challenge.rw_og0171_01.row.prog w) dk → (d == sysModules) = false → FD w kvs tl ((valueAt dk (PySem.Str.ofString "N")).getD .none) v2 → LD2 w kvs tl v2 known → LD1 w kvs tl (.ref d) known
/-- a widget's value and the states that it can show but Off -/
inductive WD (w : World) (kvs : List (Int × Value)) (tl : List (Addr × Obj)) : Value → List PySem.Str → Prop
  | mk {wv : Value} {d : Addr} {o : Obj} {dk : List (PySem.Str × Value)} {v1 : Value} {known : List PySem.Str} : FD w kvs tl wv (.ref d) → (d, o) ∈ tl → o.IsDictOf (PySem.strKind PySem.Challenge.rw_og0171_01.row.prog w) dk → (d == sysModules) = false → FD w kvs tl ((valueAt dk (PySem.Str.ofString "AP")).getD .none) v1 → LD1 w kvs tl v1 known → WD w kvs tl wv known
section
open LCg LCt
variable {prog : Program} {w : World} {A : Around} {s : Shared} {h₀ : Heap} {L : Addr} {m : PySem.Str → Option Value} {env : Env}
theorem cend_mono {s₁ s₂ : Shared} {I C D : Addr} {oI oC oD : Obj} {S : List (Addr × Obj) → Prop} {r r' : Value → List (Addr × Obj) → Prop} {y : Value} (h : CompEnd h₀ L m s₁ I oI C oC D oD S r y s₂) (hr : ∀ news', r y news' → r' y news') : CompEnd h₀ L m s₁ I oI C oC D oD S r' y s₂ := by
  obtain ⟨h', tk, news', e, F, N, off, hS, q⟩ := h
  exact ⟨h', tk, news', e, F, N, off, hS, hr _ q⟩

theorem restT_ind {ct elt : PySem.Expr} {x : PySem.Str} {scope : Scope} {cl : List (PySem.Str × Addr)} {S : List (Addr × Obj) → Prop} {P : Nat → Value → Prop} {Fin : List Value → List (Addr × Obj) → Prop} (J : Nat → List Value → List (Addr × Obj) → Prop) (n : Nat)
    (fin : ∀ ys news, J n ys news → Fin ys news)
    (turn : ∀ i ys news v I oI C oC D m₂ h tk (E' : Value → Shared → Prop), J i ys news → P i v → NsObj oC m₂ → m₂ x = some v → Fr h₀ L h m → News h₀ L h ((I, oI) :: (C, oC) :: (D, lst ys) :: news) → Off3 I C D news → ((@Ne Nat I C) ∧ (@Ne Nat I D) ∧ (@Ne Nat C D)) →
      wpAny (model prog w) A (isTrue ct (compEnvC scope cl C env) (eval ct (compEnvC scope cl C env))) (fun ok s' => if ok = true then
        wpAny (model prog w) A (eval elt (compEnvC scope cl C env)) (CompEnd h₀ L m { s with heap := h, toks := tk } I oI C oC D (lst ys) S (fun y news' => J (i + 1) (ys ++ [y]) news')) E' s'
        else CompEnd h₀ L m { s with heap := h, toks := tk } I oI C oC D (lst ys) S (fun _ news' => J (i + 1) ys news') Value.none s') E' { s with heap := h, toks := tk }) :
    ∀ k i ys news, i + k = n → J i ys news → CompRestT prog w A h₀ L m env ct elt x scope cl s S P Fin k i ys news
  | 0, i, ys, news, e, hj => CompRestT.zero (fin ys news ((show i = n by omega) ▸ hj))
  | k + 1, i, ys, news, e, hj => CompRestT.succ fun v I oI C oC D m₂ h tk E' a1 a2 a3 a4 a5 a6 a7 => by
    refine wpAny_mono (turn i ys news v I oI C oC D m₂ h tk E' hj a1 a2 a3 a4 a5 a6 a7) (fun ok s' q => ?_) fun _ _ q => q
    cases ok with
    | true =>
      simp only [if_true] at q ⊢
      exact wpAny_mono q (fun y s₂ z => cend_mono z fun news' z => restT_ind J n fin turn k (i + 1) _ news' (by omega) z) fun _ _ q => q
    | false =>
      simp only [Bool.false_eq_true, if_false] at q ⊢
      exact cend_mono q fun news' z => restT_ind J n fin turn k (i + 1) _ news' (by omega) z

theorem rest_ind {elt : PySem.Expr} {x : PySem.Str} {scope : Scope} {cl : List (PySem.Str × Addr)} {S : List (Addr × Obj) → Prop} {P : Nat → Value → Prop} {Fin : List Value → List (Addr × Obj) → Prop} (J : Nat → List Value → List (Addr × Obj) → Prop) (n : Nat)
    (fin : ∀ ys news, J n ys news → Fin ys news)
    (turn : ∀ i ys news v I oI C oC D m₂ h tk (E' : Value → Shared → Prop), J i ys news → P i v → NsObj oC m₂ → m₂ x = some v → Fr h₀ L h m → News h₀ L h ((I, oI) :: (C, oC) :: (D, lst ys) :: news) → Off3 I C D news → ((@Ne Nat I C) ∧ (@Ne Nat I D) ∧ (@Ne Nat C D)) →
      wpAny (model prog w) A (eval elt (compEnvC scope cl C env)) (CompEnd h₀ L m { s with heap := h, toks := tk } I oI C oC D (lst ys) S (fun y news' => J (i + 1) (ys ++ [y]) news')) E' { s with heap := h, toks := tk }) :
    ∀ k i ys news, i + k = n → J i ys news → CompRest prog w A h₀ L m env elt x scope cl s S P Fin k i ys news
  | 0, i, ys, news, e, hj => CompRest.zero (fin ys news ((show i = n by omega) ▸ hj))
  | k + 1, i, ys, news, e, hj => CompRest.succ fun v I oI C oC D m₂ h tk E' a1 a2 a3 a4 a5 a6 a7 =>
    wpAny_mono (turn i ys news v I oI C oC D m₂ h tk E' hj a1 a2 a3 a4 a5 a6 a7) (fun y s₂ z => cend_mono z fun news' z => rest_ind J n fin turn k (i + 1) _ news' (by omega) z) fun _ _ q => q
end

theorem strs_at {vs : List Value} {ss : List PySem.Str} (h : StrsAre vs ss) {i : Nat} {v : Value} (e : vs.toArray[i]? = some v) : ∃ x t, ss[i]? = some x ∧ v = .str x t := by
  have e' : vs[i]? = some v := by simpa using e
  clear e
  induction h generalizing i with
  | nil => simp at e'
  | cons x t r ih =>
    cases i with
    | zero => simp at e'; subst e'; exact ⟨x, t, rfl, rfl⟩
    | succ j => simpa using ih (by simpa using e')
theorem strs_snoc {vs : List Value} {ss : List PySem.Str} (h : StrsAre vs ss) (x : PySem.Str) (t : Tok) : StrsAre (vs ++ [.str x t]) (ss ++ [x]) := by
  induction h with
  | nil => exact .cons x t .nil
  | cons y u r ih => exact .cons y u ih
theorem filter_take_snoc {ss : List PySem.Str} {p : PySem.Str → Bool} {i : Nat} {x : PySem.Str} (e : ss[i]? = some x) : (ss.take (i + 1)).filter p = if p x then (ss.take i).filter p ++ [x] else (ss.take i).filter p := by
  rw [List.take_add_one, e, List.filter_append]
  cases h : p x <;> simp [h]
theorem strs_yes {ys : List Value} {ss : List PySem.Str} {p : PySem.Str → Bool} {i : Nat} {x : PySem.Str} (hy : StrsAre ys ((ss.take i).filter p)) (e : ss[i]? = some x) (hp : p x = true) (t : Tok) : StrsAre (ys ++ [.str x t]) ((ss.take (i + 1)).filter p) := by
  rw [filter_take_snoc e, if_pos hp]
  exact strs_snoc hy x t
theorem strs_no {ys : List Value} {ss : List PySem.Str} {p : PySem.Str → Bool} {i : Nat} {x : PySem.Str} (hy : StrsAre ys ((ss.take i).filter p)) (e : ss[i]? = some x) (hp : p x = false) : StrsAre ys ((ss.take (i + 1)).filter p) := by
  rw [filter_take_snoc e, hp]
  exact hy
theorem known_of {vs : List Value} {ss keys known : List PySem.Str} (hS : StrsAre vs ss) (hp : ss.Perm keys) (hs : sortedS ss = true) (hk : IsKnown keys known) : (ss.take vs.toArray.size).filter (fun x => !(x == PySem.Str.ofString "Off")) = known := by
  have e : ss.take vs.toArray.size = ss := List.take_of_length_le (by rw [List.size_toArray, hS.length]; exact Nat.le_refl _)
  rw [e]
  exact sortedS_unique ((hp.filter _).trans hk.1.symm) (sortedS_filter _ hs) hk.2
theorem on_dict2 {w : World} {S T : Addr} {oT : Obj} {kvs : List (Int × Value)} {tl : List (Addr × Obj)} {wv : Value} {d1 d2 d3 : Addr} {o1 o2 o3 : Obj} {dk1 dk2 dk3 : List (PySem.Str × Value)} {known : List PySem.Str} (sh : ShIn w S T tl) (hT : oT.IsDictOf (intKind PySem.Challenge.rw_og0171_01.row.prog w) kvs) (loT : (T == sysModules) = false)
    (f0 : FD w kvs tl wv (.ref d1)) (m1 : (d1, o1) ∈ tl) (i1 : o1.IsDictOf (PySem.strKind PySem.Challenge.rw_og0171_01.row.prog w) dk1) (l1 : (d1 == sysModules) = false)
    (f1 : FD w kvs tl ((valueAt dk1 (PySem.Str.ofString "AP")).getD .none) (.ref d2)) (m2 : (d2, o2) ∈ tl) (i2 : o2.IsDictOf (PySem.strKind PySem.Challenge.rw_og0171_01.row.prog w) dk2) (l2 : (d2 == sysModules) = false)
    (f2 : FD w kvs tl ((valueAt dk2 (PySem.Str.ofString "N")).getD .none) (.ref d3)) (m3 : (d3, o3) ∈ tl) (i3 : o3.IsDictOf (PySem.strKind PySem.Challenge.rw_og0171_01.row.prog w) dk3) (l3 : (d3 == sysModules) = false) (h64 : dk3.length < 64) (hkn : IsKnown (dk3.map (·.1)) known) :
    Ctr w 82 [.ref S, wv] 6 100 ((T, oT) :: tl) (fun r news' => ∃ a vs n, r = .ref a ∧ news' = (a, listOf vs.toArray n) :: (T, oT) :: tl ∧ StrsAre vs known ∧ LCg.Off1 a ((T, oT) :: tl)) := by
  have hf := fetch_of sh hT loT f0
  have hg1 := fun tk => get_of (tk := tk) sh hT loT m1 i1 l1 rfl f1
  have hg2 := fun tk => get_of (tk := tk) sh hT loT m2 i2 l2 rfl f2
  obtain ⟨dS, R, t1, t2, h1, h2⟩ := sh
  clear f0 f1 f2
  unfold Ctr
  k_fill
  w_top off
  k_with_none
  k_with "call9" => (
    (first | refine' ctr_use hf ?k1 ?k2 ?k3 ?k4 ?k5 ?k6 ?k7 ?k8 ?_ | refine' ctr_use (hg1 _) ?k1 ?k2 ?k3 ?k4 ?k5 ?k6 ?k7 ?k8 ?_ | refine' ctr_use (hg2 _) ?k1 ?k2 ?k3 ?k4 ?k5 ?k6 ?k7 ?k8 ?_)
    (case k1 => k_asm)
    (case k2 => k_asm)
    (case k3 => k_asm)
    (case k4 => k_asm)
    (case k5 => k_asm)
    (case k6 => first | exact rfl | assumption)
    (case k7 => ktr_room)
    (case k8 => ktr_units)
    rintro r9 news9 h9 tk9 ⟨rfl, rfl⟩ F9 N9
    (try dsimp only)
    (try k_fold))
  k_with "sorted9" => (
    (refine' sorted_dict rfl ?F ?N ?m ?d ?lo ?n ?_)
    (case F => k_asm)
    (case N => k_asm)
    (case m => k_mem)
    (case d => k_asm)
    (case lo => k_asm)
    (case n => assumption)
    intro D9 h9 tk9 vs9 ss9 n9 F9 N9 l9 hS9 hp9 hs9
    (k_lt l9)
    (try dsimp only)
    (try k_fold))
  k_with "comp9" => (
    (refine' LCt.ListComp_T (F₀ := by k_asm) ?a1 ?a2 ?a3 ?a4 ?a5 ?_)
    (case a1 => with_unfolding_all rfl)
    (case a2 => decide)
    (case a3 => rfl)
    (case a4 => decide)
    (case a5 => rfl))
  k_with "csrc9" => (
    (refine' LCt.CompSrcT.ledger rfl ?F ?N ?m ?z ?_)
    (case F => k_asm)
    (case N => k_asm)
    (case m => k_mem)
    (case z => (rw [List.size_toArray, hS9.length, hp9.length_eq, List.length_map, sizeLine_eq]; omega))
    intro g9
    (refine' restT_ind (fun i ys news => news = (D9, listOf vs9.toArray n9) :: (T, oT) :: tl ∧ StrsAre ys ((ss9.take i).filter (fun x => !(x == PySem.Str.ofString "Off")))) _ ?fin ?turn _ 0 [] _ (Nat.zero_add _) ⟨rfl, StrsAre.nil⟩)
    (case' fin =>
      rintro ys9 _ ⟨rfl, hy9⟩
      unfold LCg.FinE
      intro D8 h8 tk8 F8 N8 o8)
    (case' turn =>
      rintro i9 ys9 _ v9 I9 oI9 C9 oC9 D8 m9 h8 tk8 E9 ⟨rfl, hy9⟩ hP9 hC9 hx9 F8 N8 off9 ne9
      obtain ⟨x9, t9, hxi9, rfl⟩ := strs_at hS9 hP9))
  k_with "cend9" => (
    (refine LCg.CompEnd.intro F8 N8 ((D9, listOf vs9.toArray n9) :: (T, oT) :: tl) (fun p hp => hp) off9 (Or.inr ⟨_, List.Mem.head _, rfl, _, rfl⟩) ?_)
    (first
      | exact ⟨rfl, strs_yes hy9 hxi9 (by assumption) t9⟩
      | exact ⟨rfl, strs_no hy9 hxi9 (by assumption)⟩))
  intro mean mg mb dp un gd cn cs a ccd cl outer A₀ base h₀ L m s Q E B F X N TT hk hdp hun hret
  refine wpAny_call ?_
  k_dflt cell_enter
  k_steps
  all_goals ((rename Fr h₀ L _ m => FF); (rename News h₀ L _ _ => NN); rw [known_of hS9 hp9 hs9 hkn] at hy9; exact hret _ _ _ _ ⟨D8, ys9, _, rfl, rfl, hy9, o8.2⟩ FF (cb_drop NN fun p hp => (List.mem_cons.mp hp).elim (fun e => e ▸ List.Mem.head _) fun hp => List.Mem.tail _ (List.Mem.tail _ hp)))
theorem off1_all {a : Nat} : ∀ {l : List (Addr × Obj)}, AllLt a l → LCg.Off1 a l
  | [], _ => trivial
  | _ :: _, h => ⟨Nat.ne_of_lt h.1, off1_all h.2⟩
theorem off1_lt {a T : Nat} {oT : Obj} {tl : List (Addr × Obj)} (h : T < a ∧ AllLt a tl) : LCg.Off1 a ((T, oT) :: tl) := ⟨Nat.ne_of_lt h.1, off1_all h.2⟩
theorem on_nil1_none {w : World} {S T : Addr} {oT : Obj} {kvs : List (Int × Value)} {tl : List (Addr × Obj)} {wv : Value} {d1 d2 : Addr} {o1 o2 : Obj} {dk1 dk2 : List (PySem.Str × Value)} {i : Int} {t : Tok} (sh : ShIn w S T tl) (hT : oT.IsDictOf (intKind PySem.Challenge.rw_og0171_01.row.prog w) kvs) (loT : (T == sysModules) = false)
    (f0 : FD w kvs tl wv (.ref d1)) (m1 : (d1, o1) ∈ tl) (i1 : o1.IsDictOf (PySem.strKind PySem.Challenge.rw_og0171_01.row.prog w) dk1) (l1 : (d1 == sysModules) = false)
    (f1 : FD w kvs tl ((valueAt dk1 (PySem.Str.ofString "AP")).getD .none) (Value.none)) :
    Ctr w 82 [.ref S, wv] 6 100 ((T, oT) :: tl) (fun r news' => ∃ a vs n, r = .ref a ∧ news' = (a, listOf vs.toArray n) :: (T, oT) :: tl ∧ StrsAre vs [] ∧ LCg.Off1 a ((T, oT) :: tl)) := by
  have hf := fetch_of sh hT loT f0
  have hg1 := fun tk => get_of (tk := tk) sh hT loT m1 i1 l1 rfl f1
  obtain ⟨dS, R, t1, t2, h1, h2⟩ := sh
  clear f0 f1
  unfold Ctr
  k_fill
  w_top off
  k_with_none
  k_with "call9" => (
    (first | refine' ctr_use hf ?k1 ?k2 ?k3 ?k4 ?k5 ?k6 ?k7 ?k8 ?_ | refine' ctr_use (hg1 _) ?k1 ?k2 ?k3 ?k4 ?k5 ?k6 ?k7 ?k8 ?_)
    (case k1 => k_asm)
    (case k2 => k_asm)
    (case k3 => k_asm)
    (case k4 => k_asm)
    (case k5 => k_asm)
    (case k6 => first | exact rfl | assumption)
    (case k7 => ktr_room)
    (case k8 => ktr_units)
    rintro r9 news9 h9 tk9 ⟨rfl, rfl⟩ F9 N9
    (try dsimp only)
    (try k_fold))
  intro mean mg mb dp un gd cn cs a ccd cl outer A₀ base h₀ L m s Q E B F X N TT hk hdp hun hret
  refine wpAny_call ?_
  k_dflt cell_enter
  k_steps
  all_goals ((rename Fr h₀ L _ m => FF); (rename News h₀ L _ _ => NN); (rename (_ ∧ AllLt _ _) => AA); exact hret _ _ _ _ ⟨_, [], _, rfl, rfl, .nil, off1_lt AA⟩ FF NN)

theorem on_nil1_int {w : World} {S T : Addr} {oT : Obj} {kvs : List (Int × Value)} {tl : List (Addr × Obj)} {wv : Value} {d1 d2 : Addr} {o1 o2 : Obj} {dk1 dk2 : List (PySem.Str × Value)} {i : Int} {t : Tok} (sh : ShIn w S T tl) (hT : oT.IsDictOf (intKind PySem.Challenge.rw_og0171_01.row.prog w) kvs) (loT : (T == sysModules) = false)
    (f0 : FD w kvs tl wv (.ref d1)) (m1 : (d1, o1) ∈ tl) (i1 : o1.IsDictOf (PySem.strKind PySem.Challenge.rw_og0171_01.row.prog w) dk1) (l1 : (d1 == sysModules) = false)
    (f1 : FD w kvs tl ((valueAt dk1 (PySem.Str.ofString "AP")).getD .none) (.int i t)) :
    Ctr w 82 [.ref S, wv] 6 100 ((T, oT) :: tl) (fun r news' => ∃ a vs n, r = .ref a ∧ news' = (a, listOf vs.toArray n) :: (T, oT) :: tl ∧ StrsAre vs [] ∧ LCg.Off1 a ((T, oT) :: tl)) := by
  have hf := fetch_of sh hT loT f0
  have hg1 := fun tk => get_of (tk := tk) sh hT loT m1 i1 l1 rfl f1
  obtain ⟨dS, R, t1, t2, h1, h2⟩ := sh
  clear f0 f1
  unfold Ctr
  k_fill
  w_top off
  k_with_none
  k_with "call9" => (
    (first | refine' ctr_use hf ?k1 ?k2 ?k3 ?k4 ?k5 ?k6 ?k7 ?k8 ?_ | refine' ctr_use (hg1 _) ?k1 ?k2 ?k3 ?k4 ?k5 ?k6 ?k7 ?k8 ?_)
    (case k1 => k_asm)
    (case k2 => k_asm)
    (case k3 => k_asm)
    (case k4 => k_asm)
    (case k5 => k_asm)
    (case k6 => first | exact rfl | assumption)
    (case k7 => ktr_room)
    (case k8 => ktr_units)
    rintro r9 news9 h9 tk9 ⟨rfl, rfl⟩ F9 N9
    (try dsimp only)
    (try k_fold))
  intro mean mg mb dp un gd cn cs a ccd cl outer A₀ base h₀ L m s Q E B F X N TT hk hdp hun hret
  refine wpAny_call ?_
  k_dflt cell_enter
  k_steps
  all_goals ((rename Fr h₀ L _ m => FF); (rename News h₀ L _ _ => NN); (rename (_ ∧ AllLt _ _) => AA); exact hret _ _ _ _ ⟨_, [], _, rfl, rfl, .nil, off1_lt AA⟩ FF NN)

theorem on_nil2_none {w : World} {S T : Addr} {oT : Obj} {kvs : List (Int × Value)} {tl : List (Addr × Obj)} {wv : Value} {d1 d2 : Addr} {o1 o2 : Obj} {dk1 dk2 : List (PySem.Str × Value)} {i : Int} {t : Tok} (sh : ShIn w S T tl) (hT : oT.IsDictOf (intKind PySem.Challenge.rw_og0171_01.row.prog w) kvs) (loT : (T == sysModules) = false)
    (f0 : FD w kvs tl wv (.ref d1)) (m1 : (d1, o1) ∈ tl) (i1 : o1.IsDictOf (PySem.strKind PySem.Challenge.rw_og0171_01.row.prog w) dk1) (l1 : (d1 == sysModules) = false)
    (f1 : FD w kvs tl ((valueAt dk1 (PySem.Str.ofString "AP")).getD .none) (.ref d2)) (m2 : (d2, o2) ∈ tl) (i2 : o2.IsDictOf (PySem.strKind PySem.Challenge.rw_og0171_01.row.prog w) dk2) (l2 : (d2 == sysModules) = false)
    (f2 : FD w kvs tl ((valueAt dk2 (PySem.Str.ofString "N")).getD .none) (Value.none)) :
    Ctr w 82 [.ref S, wv] 6 100 ((T, oT) :: tl) (fun r news' => ∃ a vs n, r = .ref a ∧ news' = (a, listOf vs.toArray n) :: (T, oT) :: tl ∧ StrsAre vs [] ∧ LCg.Off1 a ((T, oT) :: tl)) := by
  have hf := fetch_of sh hT loT f0
  have hg1 := fun tk => get_of (tk := tk) sh hT loT m1 i1 l1 rfl f1
  have hg2 := fun tk => get_of (tk := tk) sh hT loT m2 i2 l2 rfl f2
  obtain ⟨dS, R, t1, t2, h1, h2⟩ := sh
  clear f0 f1 f2
  unfold Ctr
  k_fill
  w_top off
  k_with_none
  k_with "call9" => (
    (first | refine' ctr_use hf ?k1 ?k2 ?k3 ?k4 ?k5 ?k6 ?k7 ?k8 ?_ | refine' ctr_use (hg1 _) ?k1 ?k2 ?k3 ?k4 ?k5 ?k6 ?k7 ?k8 ?_ | refine' ctr_use (hg2 _) ?k1 ?k2 ?k3 ?k4 ?k5 ?k6 ?k7 ?k8 ?_)
    (case k1 => k_asm)
    (case k2 => k_asm)
    (case k3 => k_asm)
    (case k4 => k_asm)
    (case k5 => k_asm)
    (case k6 => first | exact rfl | assumption)
    (case k7 => ktr_room)
    (case k8 => ktr_units)
    rintro r9 news9 h9 tk9 ⟨rfl, rfl⟩ F9 N9
    (try dsimp only)
    (try k_fold))
  intro mean mg mb dp un gd cn cs a ccd cl outer A₀ base h₀ L m s Q E B F X N TT hk hdp hun hret
  refine wpAny_call ?_
  k_dflt cell_enter
  k_steps
  all_goals ((rename Fr h₀ L _ m => FF); (rename News h₀ L _ _ => NN); (rename (_ ∧ AllLt _ _) => AA); exact hret _ _ _ _ ⟨_, [], _, rfl, rfl, .nil, off1_lt AA⟩ FF NN)

theorem on_nil2_int {w : World} {S T : Addr} {oT : Obj} {kvs : List (Int × Value)} {tl : List (Addr × Obj)} {wv : Value} {d1 d2 : Addr} {o1 o2 : Obj} {dk1 dk2 : List (PySem.Str × Value)} {i : Int} {t : Tok} (sh : ShIn w S T tl) (hT : oT.IsDictOf (intKind PySem.Challenge.rw_og0171_01.row.prog w) kvs) (loT : (T == sysModules) = false)
    (f0 : FD w kvs tl wv (.ref d1)) (m1 : (d1, o1) ∈ tl) (i1 : o1.IsDictOf (PySem.strKind PySem.Challenge.rw_og0171_01.row.prog w) dk1) (l1 : (d1 == sysModules) = false)
    (f1 : FD w kvs tl ((valueAt dk1 (PySem.Str.ofString "AP")).getD .none) (.ref d2)) (m2 : (d2, o2) ∈ tl) (i2 : o2.IsDictOf (PySem.strKind PySem.Challenge.rw_og0171_01.row.prog w) dk2) (l2 : (d2 == sysModules) = false)
    (f2 : FD w kvs tl ((valueAt dk2 (PySem.Str.ofString "N")).getD .none) (.int i t)) :
    Ctr w 82 [.ref S, wv] 6 100 ((T, oT) :: tl) (fun r news' => ∃ a vs n, r = .ref a ∧ news' = (a, listOf vs.toArray n) :: (T, oT) :: tl ∧ StrsAre vs [] ∧ LCg.Off1 a ((T, oT) :: tl)) := by
  have hf := fetch_of sh hT loT f0
  have hg1 := fun tk => get_of (tk := tk) sh hT loT m1 i1 l1 rfl f1
  have hg2 := fun tk => get_of (tk := tk) sh hT loT m2 i2 l2 rfl f2
  obtain ⟨dS, R, t1, t2, h1, h2⟩ := sh
  clear f0 f1 f2
  unfold Ctr
  k_fill
  w_top off
  k_with_none
  k_with "call9" => (
    (first | refine' ctr_use hf ?k1 ?k2 ?k3 ?k4 ?k5 ?k6 ?k7 ?k8 ?_ | refine' ctr_use (hg1 _) ?k1 ?k2 ?k3 ?k4 ?k5 ?k6 ?k7 ?k8 ?_ | refine' ctr_use (hg2 _) ?k1 ?k2 ?k3 ?k4 ?k5 ?k6 ?k7 ?k8 ?_)
    (case k1 => k_asm)
    (case k2 => k_asm)
    (case k3 => k_asm)
    (case k4 => k_asm)
    (case k5 => k_asm)
    (case k6 => first | exact rfl | assumption)
    (case k7 => ktr_room)
    (case k8 => ktr_units)
    rintro r9 news9 h9 tk9 ⟨rfl, rfl⟩ F9 N9
    (try dsimp only)
    (try k_fold))
  intro mean mg mb dp un gd cn cs a ccd cl outer A₀ base h₀ L m s Q E B F X N TT hk hdp hun hret
  refine wpAny_call ?_
  k_dflt cell_enter
  k_steps
  all_goals ((rename Fr h₀ L _ m => FF); (rename News h₀ L _ _ => NN); (rename (_ ∧ AllLt _ _) => AA); exact hret _ _ _ _ ⟨_, [], _, rfl, rfl, .nil, off1_lt AA⟩ FF NN)

theorem on_of {w : World} {S T : Addr} {oT : Obj} {kvs : List (Int × Value)} {tl : List (Addr × Obj)} {wv : Value} {known : List PySem.Str} (sh : ShIn w S T tl) (hT : oT.IsDictOf (intKind PySem.Challenge.rw_og0171_01.row.prog w) kvs) (loT : (T == sysModules) = false) (h : WD w kvs tl wv known) :
    Ctr w 82 [.ref S, wv] 6 100 ((T, oT) :: tl) (fun r news' => ∃ a vs n, r = .ref a ∧ news' = (a, listOf vs.toArray n) :: (T, oT) :: tl ∧ StrsAre vs known ∧ LCg.Off1 a ((T, oT) :: tl)) := by
  cases h with
  | mk f0 m1 i1 l1 f1 h1 =>
    cases h1 with
    | none => exact on_nil1_none (d2 := 0) (o2 := default) (dk2 := []) (i := 0) (t := 0) sh hT loT f0 m1 i1 l1 f1
    | int i t => exact on_nil1_int (d2 := 0) (o2 := default) (dk2 := []) sh hT loT f0 m1 i1 l1 f1
    | dict m2 i2 l2 f2 h2 =>
      cases h2 with
      | none => exact on_nil2_none (i := 0) (t := 0) sh hT loT f0 m1 i1 l1 f1 m2 i2 l2 f2
      | int i t => exact on_nil2_int sh hT loT f0 m1 i1 l1 f1 m2 i2 l2 f2
      | dict m3 i3 l3 h64 hk => exact on_dict2 sh hT loT f0 m1 i1 l1 f1 m2 i2 l2 f2 m3 i3 l3 h64 hk
/-- a Field object leaf of widgets W, kind and a head with 'Ff' -/
def LeafIn (w : World) (leaf W : Addr) (kind : PySem.Str) (fl : Int) (tl : List (Addr × Obj)) : Prop :=
  ∃ (dl H : Addr) (oH : Obj) (v1 v2 v3 : Value) (t1 t2 t3 t4 t5 t6 tk tf : Tok), (leaf, instObj 38 dl) ∈ tl ∧
    (dl, dictOf [{ hash := PyData.keyHash w.params (PySem.Str.ofString "name"), key := .str (PySem.Str.ofString "name") t1, val := v1 }, { hash := PyData.keyHash w.params (PySem.Str.ofString "reference"), key := .str (PySem.Str.ofString "reference") t2, val := v2 }, { hash := PyData.keyHash w.params (PySem.Str.ofString "above"), key := .str (PySem.Str.ofString "above") t3, val := v3 }, { hash := PyData.keyHash w.params (PySem.Str.ofString "widgets"), key := .str (PySem.Str.ofString "widgets") t4, val := .ref W }, { hash := PyData.keyHash w.params (PySem.Str.ofString "head"), key := .str (PySem.Str.ofString "head") t5, val := .ref H }, { hash := PyData.keyHash w.params (PySem.Str.ofString "kind"), key := .str (PySem.Str.ofString "kind") t6, val := .str kind tk }] 6) ∈ tl ∧
    (H, oH) ∈ tl ∧ oH.IsDictOf (PySem.strKind PySem.Challenge.rw_og0171_01.row.prog w) [(PySem.Str.ofString "Ff", .int fl tf)] ∧ (H == sysModules) = false
theorem LeafIn.mono {w : World} {leaf W : Addr} {kind : PySem.Str} {fl : Int} {tl tl' : List (Addr × Obj)} (h : LeafIn w leaf W kind fl tl) (hs : ∀ p ∈ tl, p ∈ tl') : LeafIn w leaf W kind fl tl' := by
  obtain ⟨dl, H, oH, v1, v2, v3, t1, t2, t3, t4, t5, t6, tk', tf, m1, m2, m3, i3, l3⟩ := h
  exact ⟨dl, H, oH, v1, v2, v3, t1, t2, t3, t4, t5, t6, tk', tf, hs _ m1, hs _ m2, hs _ m3, i3, l3⟩
theorem field_of (w : World) (W : Addr) (w0 : Value) (ws : List Value) (nW : Nat) (kind : PySem.Str) (tk : Tok) (fl : Int) (tf : Tok) (tl : List (Addr × Obj)) (hW : (W, listOf (w0 :: ws).toArray nW) ∈ tl) :
    Ctr w 447 [.ref W, .str kind tk, .int fl tf] 4 60 tl (fun r news' => ∃ leaf dl H o1 oH, r = .ref leaf ∧ news' = (leaf, instObj 38 dl) :: (dl, o1) :: (H, oH) :: tl ∧ LeafIn w leaf W kind fl [(leaf, instObj 38 dl), (dl, o1), (H, oH)] ∧ (∀ p ∈ tl, @LT.lt Nat _ p.1 H) ∧ @LT.lt Nat _ H dl ∧ @LT.lt Nat _ dl leaf) := by
  unfold Ctr
  k_fill
  w_top off
  k_with_none
  intro mean mg mb dp un gd cn cs a ccd cl outer A₀ base h₀ L m s Q E B F X N T hk hdp hun hret
  refine wpAny_call ?_
  k_dflt cell_enter
  k_steps
  all_goals (
    (rename Fr h₀ L _ m => FF); (rename News h₀ L _ _ => NN); (rename Obj.IsDictOf _ _ _ => DD); (rename (_ == sysModules) = false => LO); (rename (∀ p ∈ tl, Prod.fst p < _) => AA); (rename @LT.lt Nat _ _ _ ∧ AllLt _ tl => BB); (rename @LT.lt Nat _ _ _ => CC)
    exact hret _ _ _ _ ⟨_, _, _, _, _, rfl, rfl, ⟨_, _, _, _, _, _, _, _, _, _, _, _, _, _, .head _, .tail _ (.head _), .tail _ (.tail _ (.head _)), DD, LO⟩, AA, BB.1, CC⟩ FF NN)
theorem place_spec (w : World) (t : Tok) (tl : List (Addr × Obj)) :
    Ctr w 49 [.str (PySem.Str.ofString "in unison") t] 2 20 tl (fun r news' => ∃ t', r = .int 26 t' ∧ news' = tl) := by
  unfold Ctr
  k_fill
  w_top off
  k_with_none
  k_with "upd9" => (dsimp only; refine callWith_method1 ?_)
  intro mean mg mb dp un gd cn cs a ccd cl outer A₀ base h₀ L m s Q E B F X N T hk hdp hun hret
  refine wpAny_call ?_
  k_dflt cell_enter
  k_steps
  all_goals ((rename Fr h₀ L _ m => FF); (rename News h₀ L _ _ => NN); exact hret _ _ _ _ ⟨_, rfl, rfl⟩ FF (cb_drop NN fun p hp => List.Mem.tail _ (List.Mem.tail _ hp)))
theorem flag_bit {fl : Int} (h0 : 0 ≤ fl) (h1 : fl < 2 ^ 26) : (Builtin.bitAnd (fl.fdiv (2 ^ (26 - 1 : Int).toNat)) 1 == 1) = decide (2 ^ 25 ≤ fl) := by
  have e : (2 : Int) ^ ((26 : Int) - 1).toNat = 33554432 := by decide
  have e2 : (2 : Int) ^ 25 = 33554432 := by decide
  have e3 : (2 : Int) ^ 26 = 67108864 := by decide
  rw [e, e2]
  rw [e3] at h1
  rw [Int.fdiv_eq_ediv_of_nonneg _ (by decide)]
  by_cases h : 33554432 ≤ fl
  · have : fl / 33554432 = 1 := by omega
    rw [this, decide_eq_true h]
    decide
  · have : fl / 33554432 = 0 := by omega
    rw [this, decide_eq_false h]
    decide
theorem has_spec {w : World} {S T leaf W : Addr} {oT : Obj} {kvs : List (Int × Value)} {tl : List (Addr × Obj)} {kind : PySem.Str} {fl : Int} {tk : Tok} (sh : ShIn w S T tl) (hT : oT.IsDictOf (intKind PySem.Challenge.rw_og0171_01.row.prog w) kvs) (loT : (T == sysModules) = false)
    (lf : LeafIn w leaf W kind fl tl) (h0 : 0 ≤ fl) (h1 : fl < 2 ^ 26) :
    Ctr w 77 [.ref S, .ref leaf, .str (PySem.Str.ofString "in unison") tk] 8 100 ((T, oT) :: tl) (fun r news' => r = .bool (decide (2 ^ 25 ≤ fl)) ∧ news' = (T, oT) :: tl) := by
  obtain ⟨dl, H, oH, v1, v2, v3, t1, t2, t3, t4, t5, t6, tk', tf, m1, m2, m3, i3, l3⟩ := lf
  have hg := fun tk => get_of (key := PySem.Str.ofString "Ff") (v1 := some (.int fl tf)) (v' := .int fl tf) (tk := tk) sh hT loT m3 i3 l3 rfl (FD.int fl tf)
  have hp := fun t => place_spec w t ((T, oT) :: tl)
  obtain ⟨dS, R, u1, u2, s1, s2⟩ := sh
  unfold Ctr
  k_fill
  w_top off
  k_with_none
  k_with "call9" => (
    (first | refine' ctr_use (hg _) ?k1 ?k2 ?k3 ?k4 ?k5 ?k6 ?k7 ?k8 ?_ | refine' ctr_use (hp _) ?k1 ?k2 ?k3 ?k4 ?k5 ?k6 ?k7 ?k8 ?_)
    (case k1 => k_asm)
    (case k2 => k_asm)
    (case k3 => k_asm)
    (case k4 => k_asm)
    (case k5 => k_asm)
    (case k6 => first | exact rfl | assumption)
    (case k7 => ktr_room)
    (case k8 => ktr_units)
    (first | rintro r9 news9 h9 tk9 ⟨rfl, rfl⟩ F9 N9 | rintro r9 news9 h9 tk9 ⟨t9, rfl, rfl⟩ F9 N9)
    (try dsimp only)
    (try k_fold))
  intro mean mg mb dp un gd cn cs a ccd cl outer A₀ base h₀ L m s Q E B F X N TT hk hdp hun hret
  refine wpAny_call ?_
  k_dflt cell_enter
  k_steps
  all_goals ((rename Fr h₀ L _ m => FF); (rename News h₀ L _ _ => NN); exact hret _ _ _ _ ⟨congrArg Value.bool (flag_bit h0 h1), rfl⟩ FF NN)
section
variable {h₀ h : Heap} {L : Addr} {a0 a1 a2 a3 a4 a5 a6 a7 a8 a9 a10 a11 a12 a13 a14 a15 a16 a17 a18 a19 x : Addr × Obj} {l : List (Addr × Obj)}
theorem rot1 (N : News h₀ L h (a0 :: x :: l)) : News h₀ L h (x :: a0 :: l) := fun p hp => N p (by simp only [List.mem_cons] at hp ⊢; grind)
theorem rot2 (N : News h₀ L h (a0 :: a1 :: x :: l)) : News h₀ L h (x :: a0 :: a1 :: l) := fun p hp => N p (by simp only [List.mem_cons] at hp ⊢; grind)
theorem rot3 (N : News h₀ L h (a0 :: a1 :: a2 :: x :: l)) : News h₀ L h (x :: a0 :: a1 :: a2 :: l) := fun p hp => N p (by simp only [List.mem_cons] at hp ⊢; grind)
theorem rot4 (N : News h₀ L h (a0 :: a1 :: a2 :: a3 :: x :: l)) : News h₀ L h (x :: a0 :: a1 :: a2 :: a3 :: l) := fun p hp => N p (by simp only [List.mem_cons] at hp ⊢; grind)
theorem rot5 (N : News h₀ L h (a0 :: a1 :: a2 :: a3 :: a4 :: x :: l)) : News h₀ L h (x :: a0 :: a1 :: a2 :: a3 :: a4 :: l) := fun p hp => N p (by simp only [List.mem_cons] at hp ⊢; grind)
theorem rot6 (N : News h₀ L h (a0 :: a1 :: a2 :: a3 :: a4 :: a5 :: x :: l)) : News h₀ L h (x :: a0 :: a1 :: a2 :: a3 :: a4 :: a5 :: l) := fun p hp => N p (by simp only [List.mem_cons] at hp ⊢; grind)
theorem rot7 (N : News h₀ L h (a0 :: a1 :: a2 :: a3 :: a4 :: a5 :: a6 :: x :: l)) : News h₀ L h (x :: a0 :: a1 :: a2 :: a3 :: a4 :: a5 :: a6 :: l) := fun p hp => N p (by simp only [List.mem_cons] at hp ⊢; grind)
theorem rot8 (N : News h₀ L h (a0 :: a1 :: a2 :: a3 :: a4 :: a5 :: a6 :: a7 :: x :: l)) : News h₀ L h (x :: a0 :: a1 :: a2 :: a3 :: a4 :: a5 :: a6 :: a7 :: l) := fun p hp => N p (by simp only [List.mem_cons] at hp ⊢; grind)
theorem rot9 (N : News h₀ L h (a0 :: a1 :: a2 :: a3 :: a4 :: a5 :: a6 :: a7 :: a8 :: x :: l)) : News h₀ L h (x :: a0 :: a1 :: a2 :: a3 :: a4 :: a5 :: a6 :: a7 :: a8 :: l) := fun p hp => N p (by simp only [List.mem_cons] at hp ⊢; grind)
theorem rot10 (N : News h₀ L h (a0 :: a1 :: a2 :: a3 :: a4 :: a5 :: a6 :: a7 :: a8 :: a9 :: x :: l)) : News h₀ L h (x :: a0 :: a1 :: a2 :: a3 :: a4 :: a5 :: a6 :: a7 :: a8 :: a9 :: l) := fun p hp => N p (by simp only [List.mem_cons] at hp ⊢; grind)
theorem rot11 (N : News h₀ L h (a0 :: a1 :: a2 :: a3 :: a4 :: a5 :: a6 :: a7 :: a8 :: a9 :: a10 :: x :: l)) : News h₀ L h (x :: a0 :: a1 :: a2 :: a3 :: a4 :: a5 :: a6 :: a7 :: a8 :: a9 :: a10 :: l) := fun p hp => N p (by simp only [List.mem_cons] at hp ⊢; grind)
theorem rot12 (N : News h₀ L h (a0 :: a1 :: a2 :: a3 :: a4 :: a5 :: a6 :: a7 :: a8 :: a9 :: a10 :: a11 :: x :: l)) : News h₀ L h (x :: a0 :: a1 :: a2 :: a3 :: a4 :: a5 :: a6 :: a7 :: a8 :: a9 :: a10 :: a11 :: l) := fun p hp => N p (by simp only [List.mem_cons] at hp ⊢; grind)
theorem rot13 (N : News h₀ L h (a0 :: a1 :: a2 :: a3 :: a4 :: a5 :: a6 :: a7 :: a8 :: a9 :: a10 :: a11 :: a12 :: x :: l)) : News h₀ L h (x :: a0 :: a1 :: a2 :: a3 :: a4 :: a5 :: a6 :: a7 :: a8 :: a9 :: a10 :: a11 :: a12 :: l) := fun p hp => N p (by simp only [List.mem_cons] at hp ⊢; grind)
theorem rot14 (N : News h₀ L h (a0 :: a1 :: a2 :: a3 :: a4 :: a5 :: a6 :: a7 :: a8 :: a9 :: a10 :: a11 :: a12 :: a13 :: x :: l)) : News h₀ L h (x :: a0 :: a1 :: a2 :: a3 :: a4 :: a5 :: a6 :: a7 :: a8 :: a9 :: a10 :: a11 :: a12 :: a13 :: l) := fun p hp => N p (by simp only [List.mem_cons] at hp ⊢; grind)
theorem rot15 (N : News h₀ L h (a0 :: a1 :: a2 :: a3 :: a4 :: a5 :: a6 :: a7 :: a8 :: a9 :: a10 :: a11 :: a12 :: a13 :: a14 :: x :: l)) : News h₀ L h (x :: a0 :: a1 :: a2 :: a3 :: a4 :: a5 :: a6 :: a7 :: a8 :: a9 :: a10 :: a11 :: a12 :: a13 :: a14 :: l) := fun p hp => N p (by simp only [List.mem_cons] at hp ⊢; grind)
theorem rot16 (N : News h₀ L h (a0 :: a1 :: a2 :: a3 :: a4 :: a5 :: a6 :: a7 :: a8 :: a9 :: a10 :: a11 :: a12 :: a13 :: a14 :: a15 :: x :: l)) : News h₀ L h (x :: a0 :: a1 :: a2 :: a3 :: a4 :: a5 :: a6 :: a7 :: a8 :: a9 :: a10 :: a11 :: a12 :: a13 :: a14 :: a15 :: l) := fun p hp => N p (by simp only [List.mem_cons] at hp ⊢; grind)
theorem rot17 (N : News h₀ L h (a0 :: a1 :: a2 :: a3 :: a4 :: a5 :: a6 :: a7 :: a8 :: a9 :: a10 :: a11 :: a12 :: a13 :: a14 :: a15 :: a16 :: x :: l)) : News h₀ L h (x :: a0 :: a1 :: a2 :: a3 :: a4 :: a5 :: a6 :: a7 :: a8 :: a9 :: a10 :: a11 :: a12 :: a13 :: a14 :: a15 :: a16 :: l) := fun p hp => N p (by simp only [List.mem_cons] at hp ⊢; grind)
theorem rot18 (N : News h₀ L h (a0 :: a1 :: a2 :: a3 :: a4 :: a5 :: a6 :: a7 :: a8 :: a9 :: a10 :: a11 :: a12 :: a13 :: a14 :: a15 :: a16 :: a17 :: x :: l)) : News h₀ L h (x :: a0 :: a1 :: a2 :: a3 :: a4 :: a5 :: a6 :: a7 :: a8 :: a9 :: a10 :: a11 :: a12 :: a13 :: a14 :: a15 :: a16 :: a17 :: l) := fun p hp => N p (by simp only [List.mem_cons] at hp ⊢; grind)
theorem rot19 (N : News h₀ L h (a0 :: a1 :: a2 :: a3 :: a4 :: a5 :: a6 :: a7 :: a8 :: a9 :: a10 :: a11 :: a12 :: a13 :: a14 :: a15 :: a16 :: a17 :: a18 :: x :: l)) : News h₀ L h (x :: a0 :: a1 :: a2 :: a3 :: a4 :: a5 :: a6 :: a7 :: a8 :: a9 :: a10 :: a11 :: a12 :: a13 :: a14 :: a15 :: a16 :: a17 :: a18 :: l) := fun p hp => N p (by simp only [List.mem_cons] at hp ⊢; grind)
theorem rot20 (N : News h₀ L h (a0 :: a1 :: a2 :: a3 :: a4 :: a5 :: a6 :: a7 :: a8 :: a9 :: a10 :: a11 :: a12 :: a13 :: a14 :: a15 :: a16 :: a17 :: a18 :: a19 :: x :: l)) : News h₀ L h (x :: a0 :: a1 :: a2 :: a3 :: a4 :: a5 :: a6 :: a7 :: a8 :: a9 :: a10 :: a11 :: a12 :: a13 :: a14 :: a15 :: a16 :: a17 :: a18 :: a19 :: l) := fun p hp => N p (by simp only [List.mem_cons] at hp ⊢; grind)
end
/-- what stands in the ledger of the law's frame between two calls: the pool's list and the table first -/
structure KeysTo (kvs : List (Int × Value)) (n : Nat) : Prop where
  len : kvs.length = n
  keys : ∀ k : Int, (valueAt kvs k).isSome = decide (1 ≤ k ∧ k ≤ n)
theorem valueAt_snoc {K : Type} [DecidableEq K] (kvs : List (K × Value)) (k j : K) (v : Value) : valueAt (kvs ++ [(k, v)]) j = (valueAt kvs j).or (if k = j then some v else none) := by
  unfold valueAt
  rw [List.find?_append]
  cases h : kvs.find? (fun kv => decide (kv.1 = j)) with
  | some y => simp
  | none => by_cases e : k = j <;> simp [e]
theorem KeysTo.none {kvs : List (Int × Value)} {n : Nat} (h : KeysTo kvs n) : valueAt kvs ((n : Int) + 1) = Option.none := by
  have e := h.keys ((n : Int) + 1)
  rw [decide_eq_false (by omega)] at e
  cases q : valueAt kvs ((n : Int) + 1) with
  | none => rfl
  | some x => rw [q] at e; cases e
theorem KeysTo.put {kvs : List (Int × Value)} {n : Nat} (h : KeysTo kvs n) (v : Value) : KeysTo (stored kvs ((n : Int) + 1) v) (n + 1) := by
  rw [stored_absent h.none]
  refine ⟨by simp [h.len], fun k => ?_⟩
  rw [valueAt_snoc, Option.isSome_or, h.keys]
  by_cases e : (n : Int) + 1 = k
  · subst e
    rw [if_pos rfl, decide_eq_true (by omega : (1:Int) ≤ (n:Int) + 1 ∧ (n:Int) + 1 ≤ ((n + 1 : Nat) : Int))]
    simp
  · rw [if_neg e]
    simp only [Option.isSome_none, Bool.or_false]
    exact decide_eq_decide.mpr (by omega)
theorem KeysTo.at {kvs : List (Int × Value)} {n : Nat} (h : KeysTo kvs n) (v : Value) : valueAt (stored kvs ((n : Int) + 1) v) ((n : Int) + 1) = some v := by
  rw [stored_absent h.none, valueAt_snoc, h.none]
  simp
/-- b knows all that a knows -/
def Grows (a b : List (Int × Value)) : Prop := ∀ k v, valueAt a k = some v → valueAt b k = some v
theorem KeysTo.grows {kvs : List (Int × Value)} {n : Nat} (h : KeysTo kvs n) (v : Value) : Grows kvs (stored kvs ((n : Int) + 1) v) := by
  intro k u e
  rw [stored_absent h.none, valueAt_snoc, e]
  rfl
theorem Grows.trans {a b c : List (Int × Value)} (h : Grows a b) (g : Grows b c) : Grows a c := fun k v e => g k v (h k v e)
theorem Grows.rfl {a : List (Int × Value)} : Grows a a := fun _ _ e => e
theorem FD.mono {w : World} {kvs kvs' : List (Int × Value)} {tl tl' : List (Addr × Obj)} {v v' : Value} (h : FD w kvs tl v v') (g : Grows kvs kvs') (s : ∀ p ∈ tl, p ∈ tl') : FD w kvs' tl' v v' := by
  cases h with
  | int i t => exact .int i t
  | none => exact .none
  | dict a b => exact .dict (s _ a) b
  | ref a1 a2 a3 a4 a5 a6 => exact .ref (s _ a1) (s _ a2) (g _ _ a3) (s _ a4) (s _ a5) a6
theorem LD2.mono {w : World} {kvs kvs' : List (Int × Value)} {tl tl' : List (Addr × Obj)} {v : Value} {kn : List PySem.Str} (h : LD2 w kvs tl v kn) (s : ∀ p ∈ tl, p ∈ tl') : LD2 w kvs' tl' v kn := by
  cases h with
  | int i t => exact .int i t
  | none => exact .none
  | dict a b c d e => exact .dict (s _ a) b c d e
theorem LD1.mono {w : World} {kvs kvs' : List (Int × Value)} {tl tl' : List (Addr × Obj)} {v : Value} {kn : List PySem.Str} (h : LD1 w kvs tl v kn) (g : Grows kvs kvs') (s : ∀ p ∈ tl, p ∈ tl') : LD1 w kvs' tl' v kn := by
  cases h with
  | int i t => exact .int i t
  | none => exact .none
  | dict a b c d e => exact .dict (s _ a) b c (d.mono g s) (e.mono s)
theorem WD.mono {w : World} {kvs kvs' : List (Int × Value)} {tl tl' : List (Addr × Obj)} {v : Value} {kn : List PySem.Str} (h : WD w kvs tl v kn) (g : Grows kvs kvs') (s : ∀ p ∈ tl, p ∈ tl') : WD w kvs' tl' v kn := by
  cases h with
  | mk a b c d e f => exact .mk (a.mono g s) (s _ b) c d (e.mono g s) (f.mono g s)
theorem ShIn.mono {w : World} {S T : Addr} {tl tl' : List (Addr × Obj)} (h : ShIn w S T tl) (s : ∀ p ∈ tl, p ∈ tl') : ShIn w S T tl' := by
  obtain ⟨a, b, c, d, e, f⟩ := h
  exact ⟨a, b, c, d, s _ e, s _ f⟩
theorem add_of {w : World} {S T : Addr} {oT : Obj} {kvs : List (Int × Value)} {tl : List (Addr × Obj)} {v : Value} {n : Nat} (sh : ShIn w S T tl) (hT : oT.IsDictOf (intKind PySem.Challenge.rw_og0171_01.row.prog w) kvs) (loT : (T == sysModules) = false)
    (kk : KeysTo kvs n) (hn2 : n ≤ 900) (off : ∀ p ∈ tl, p.1 ≠ T) :
    Ctr w 390 [.ref S, v] 4 60 ((T, oT) :: tl) (fun r news' => ∃ ra dr tup oT' kvs' k t1 t2 t3 t4 t5 n0, r = .ref ra ∧ news' = (ra, instObj 310 dr) :: (dr, dictOf [{ hash := PyData.keyHash w.params (PySem.Str.ofString "number"), key := .str (PySem.Str.ofString "number") t1, val := .int k t2 }, { hash := PyData.keyHash w.params (PySem.Str.ofString "generation"), key := .str (PySem.Str.ofString "generation") t3, val := .int 0 t4 }] 2) :: (tup, ({ cls := .type "tuple", data := .seq [.int 0 t5, v].toArray n0 } : Obj)) :: (T, oT') :: tl ∧
      oT'.IsDictOf (intKind PySem.Challenge.rw_og0171_01.row.prog w) kvs' ∧ KeysTo kvs' (n + 1) ∧ Grows kvs kvs' ∧ valueAt kvs' k = some (.ref tup) ∧ (@LT.lt Nat _ T tup ∧ AllLt tup tl) ∧ @LT.lt Nat _ tup dr ∧ @LT.lt Nat _ dr ra) := by
  have hkv := kk.keys
  have hn : kvs.length ≤ 1000 := by rw [kk.len]; omega
  obtain ⟨dS, R, u1, u2, s1, s2⟩ := sh
  unfold Ctr
  k_fill
  w_top off
  k_with_none
  k_with "while9" => (
    (rename Fr _ _ _ _ => lF'); (rename News _ _ _ _ => lN')
    (with_unfolding_all refine' ksw_while (σ := Int × Tok) (fun _ => (T, oT) :: tl) (fun c => [(PySem.Str.ofString "number", .int c.1 c.2)]) (fun _ => True) [] (fun c => 1 ≤ c.1 ∧ c.1 ≤ (n : Int) + 1) (fun c => ((n : Int) + 1 - c.1).toNat) (1, _) lF' lN' trivial ?kk ?kp ?turn ?hE)
    (case kk => kst_all)
    (case kp => exact ⟨(by show (1:Int) ≤ 1; decide), (by show (1:Int) ≤ (n:Int)+1; omega)⟩)
    (case hE => passes_own)
    (case' turn =>
       rintro ⟨c9, tc9⟩ u9 h9 tk9 _ ⟨p9, q9⟩ F9 N9
       clear lF' lN'
       (try dsimp only at p9 q9)
       (try dsimp only)
       (try k_fold)))
  k_with "in9" => (
    (by_cases hc9 : c9 ≤ (n : Int))
    all_goals first
      | refine kda_in (knd := PySem.intKind _ _) (by k_asm) (by k_mem) (by k_asm) (by k_asm) (intKind_is _ _ _ _) true (by rw [hkv]; exact decide_eq_true ⟨p9, hc9⟩) ?_
      | refine kda_in (knd := PySem.intKind _ _) (by k_asm) (by k_mem) (by k_asm) (by k_asm) (intKind_is _ _ _ _) false (by rw [hkv]; exact decide_eq_false (fun z => hc9 z.2)) ?_)
  k_with "wend9" => (
    (rename Fr _ _ _ _ => lF'); (rename News _ _ _ _ => lN')
    (refine' ksw_end (c9 + 1, _) lF' lN' ?e1 trivial ?e2 ?e3 ⟨?e4, ?e5⟩ ?e6)
    (case e1 => exact fun p hp => hp)
    (case e2 => kst_all)
    (case e3 => (intro z h2 h3; have h2' := h2 _ (List.Mem.head _); simp [kstB, h2']))
    (case e4 => (show (1:Int) ≤ c9 + 1; omega))
    (case e5 => (show c9 + 1 ≤ (n:Int) + 1; omega))
    (case e6 => (show ((n:Int) + 1 - (c9 + 1)).toNat < ((n:Int) + 1 - c9).toNat; omega)))
  k_with "set9" => (
    (refine' kda_set (knd := PySem.intKind _ _) ?F ?N ?U ?d (intKind_is _ _ _ _) ?z ?_)
    (case F => k_asm)
    (case N => k_asm)
    (case U => k_updF)
    (case d => k_asm)
    (case z => (rw [sizeLine_eq]; omega))
    intro h' o' F' N' hd'
    (try dsimp only at N'))
  intro mean mg mb dp un gd cn cs a ccd cl outer A₀ base h₀ L m s Q E B F X N TT hk hdp hun hret
  refine wpAny_call ?_
  k_dflt cell_enter
  k_steps
  all_goals (
    have e9 : c9 = (n : Int) + 1 := by omega
    subst e9
    (rename Fr h₀ L _ m => FF); (rename News h₀ L _ _ => NN); (rename Obj.IsDictOf _ _ (stored _ _ _) => DD))
  · (rename @LT.lt Nat _ _ _ ∧ AllLt _ _ => a9); (rename @LT.lt Nat _ _ _ ∧ @LT.lt Nat _ _ _ ∧ AllLt _ _ => b9); (rename @LT.lt Nat _ _ _ => c9')
    exact hret _ _ _ _ ⟨_, _, _, _, _, _, _, _, _, _, _, _, rfl, rfl, DD, kk.put _, kk.grows _, kk.at _, a9, b9.1, c9'⟩ FF NN
section
open LCg LCt
variable {prog : Program} {w : World} {A : Around} {E : Value → Shared → Prop} {s : Shared} {h₀ : Heap} {L : Addr} {m : PySem.Str → Option Value} {env : Env}
abbrev tupO (its : Array Value) (k : Nat) : Obj := { cls := .type "tuple", data := .seq its k }
def TupIn (ax : Addr) (its : Array Value) (nw : List (Addr × Obj)) : Prop := ∃ k, (ax, tupO its k) ∈ nw
theorem tup_st {ax I : Addr} {its : Array Value} (i : Nat) (h h' : Heap) (o : Obj) (nw : List (Addr × Obj)) (st : h.IsTupleIter I ax i ∧ h.IsTuple ax its) (e : h.get? I = some o) (e' : h'.get? I = some o) (_ : ∀ b o, h₀.get? b = some o → h'.get? b = some o) (N : News h₀ L h' nw) (S : TupIn ax its nw) : h'.IsTupleIter I ax i ∧ h'.IsTuple ax its := by
  obtain ⟨o', q, r⟩ := st.1
  rw [e] at q
  cases q
  obtain ⟨k, hk⟩ := S
  exact ⟨⟨o, e', r⟩, ⟨_, (N _ hk).1, rfl, k, rfl⟩⟩
/-- the source of a comprehension is a tuple of the ledger (with a test) -/
def SrcTT (prog : Program) (w : World) (A : Around) (h₀ : Heap) (L : Addr) (m : PySem.Str → Option Value) (env : Env) (ct elt : PySem.Expr) (x : PySem.Str) (scope : Scope) (cl : List (PySem.Str × Addr)) (Fin : Shared → List Value → List (Addr × Obj) → Prop) (xv : Value) (s₁ : Shared) : Prop :=
  ∃ ax its k news, xv = .ref ax ∧ A.handled = none ∧ Fr h₀ L s₁.heap m ∧ News h₀ L s₁.heap news ∧ (ax, tupO its k) ∈ news ∧ its.size ≤ sizeLine ∧
    ∀ g : Heap, CompRestT prog w A h₀ L m env ct elt x scope cl { s₁ with heap := g } (TupIn ax its) (fun i v => its[i]? = some v) (Fin { s₁ with heap := g }) its.size 0 [] news
/-- the same without a test -/
def SrcTU (prog : Program) (w : World) (A : Around) (h₀ : Heap) (L : Addr) (m : PySem.Str → Option Value) (env : Env) (elt : PySem.Expr) (x : PySem.Str) (scope : Scope) (cl : List (PySem.Str × Addr)) (Fin : Shared → List Value → List (Addr × Obj) → Prop) (xv : Value) (s₁ : Shared) : Prop :=
  ∃ ax its k news, xv = .ref ax ∧ A.handled = none ∧ Fr h₀ L s₁.heap m ∧ News h₀ L s₁.heap news ∧ (ax, tupO its k) ∈ news ∧ its.size ≤ sizeLine ∧
    ∀ g : Heap, CompRest prog w A h₀ L m env elt x scope cl { s₁ with heap := g } (TupIn ax its) (fun i v => its[i]? = some v) (Fin { s₁ with heap := g }) its.size 0 [] news

theorem assign_fin {y : PySem.Str} {py : Pos} {s₁ s₂ : Shared} {C D : Addr} {Q : Flow → Shared → Prop} {h' : Heap} {tk : Nat} {m' : PySem.Str → Option Value} {ys : List Value} {news' : List (Addr × Obj)} (hLe : env.locals = L) (hy : env.kindOf y = some .local) (hp : (env.scope.kind == .class || (env.scope.kind == .module && env.locals != env.globals)) = false)
    (F' : Fr h₀ L h' m) (N' : News h₀ L h' ((D, lst ys) :: news')) (o1 : Off1 D news') (hn : h'.Ns C m') (hC₀ : h₀.get? C = none) (hCL : C ≠ L) (hCD : C ≠ D) (offC : ∀ p ∈ news', p.1 ≠ C) (fin : FinA h₀ L m s₂ y Q ys news') (hs : s₁ = s₂) :
    compPost (model prog w) A E (some (assign (.Name y py) env)) (fun _ s' => Q .next s') (.ref D) C (.ok .next) { s₁ with heap := h', toks := tk } := by
  subst hLe; subst hs
  show wpAny _ A (assign (.Name y py) env (.ref D)) _ _ _
  refine wpAny_assign_Name (wpAny_storeName_local hy F'.ns (fun h₂ hn₂ hs₂ => ?_) hp)
  have hL₀ : h₀.get? env.locals = none := Heap.get?_none_of_le F'.above
  have F₂ : Fr h₀ env.locals h₂ (fun z => if z = y then some (.ref D) else m z) := ⟨hn₂, fun b o e => hs₂.extBut b o (fun q => by rw [q, hL₀] at e; cases e) (F'.keep b o e), F'.above⟩
  refine ⟨m', hn.sameBut hs₂ hCL, fun h'' hs'' => fin D h'' _ (F₂.change hs'' hCL hC₀) (fun p hp => ?_) o1⟩
  have z : h₂.get? p.1 = some p.2 := hs₂.extBut _ _ (N' p hp).2.1 (N' p hp).1
  refine ⟨hs''.extBut _ _ ?_ z, (N' p hp).2⟩
  rcases List.mem_cons.mp hp with rfl | hp
  · exact Ne.symm hCD
  · exact offC p hp

theorem comp_tupT {ct elt iter : PySem.Expr} {x y : PySem.Str} {px py : Pos} {scope : Scope} {cl : List (PySem.Str × Addr)} {pos spos : Pos} {Q : Flow → Shared → Prop} (_F₀ : Fr h₀ L s.heap m) (hLe : env.locals = L)
    (hsw : swapsWith (.ListComp elt [⟨.Name x px, iter, [ct], 0⟩] scope pos) (some (.Name y py)) spos.line env = pure true)
    (hclos : closureFor scope env = pure cl) (hcell : ∀ z ∈ scope.names, z.2 ≠ .cell) (hkind : scope.kind = .function)
    (hnames : ∀ z ∈ scope.names, z.2 = .local → scope.names.lookup z.1 = some .local) (hx : scope.names.lookup x = some .local)
    (hy : env.kindOf y = some .local) (hp : (env.scope.kind == .class || (env.scope.kind == .module && env.locals != env.globals)) = false)
    (h : wpAny (model prog w) A (eval iter env) (SrcTT prog w A h₀ L m env ct elt x scope cl (fun s₂ => FinA h₀ L m s₂ y Q)) E s)
    (hs : ∀ x, foldedSetIterable iter env x = pure x := by intro _; rfl) :
    wpAny (model prog w) A (exec (.Assign [.Name y py] (.ListComp elt [⟨.Name x px, iter, [ct], 0⟩] scope pos) spos) env) Q E s := by
  rw [exec_Assign_Name_used _ _ _ _ hsw]
  refine wpAny_bind (wpAny_standAt (wpAny_bind ?_))
  show wpAny _ A (do let _ ← comprehension (.ListComp elt [⟨.Name x px, iter, [ct], 0⟩] scope pos) scope env _ (newList []) false (eval iter env) (some (assign (.Name y py) env))) _ _ s
  refine wpAny_bind (wpAny_mono (wpAny_comprehension_free (use := some (assign (.Name y py) env)) (Q := fun _ s' => Q .next s') rfl hs hclos hkind hnames
    (wpAny_mono h (fun xv s₁ h₁ => ?_) fun _ _ e => e)) (fun _ s' hq => wpAny_pure (wpAny_pure hq)) fun _ _ e => e)
  obtain ⟨ax, its, k, news, rfl, hh, F, N, hm, hsz, R⟩ := h₁
  have hl : s₁.heap.IsTuple ax its := ⟨_, (N _ hm).1, rfl, k, rfl⟩
  have hlt : ax < s₁.heap.objs.size := Heap.lt_size (N _ hm).1
  refine wpAny_pyIter_tuple hl ?_
  have up : ∀ b o, s₁.heap.get? b = some o → (s₁.heap.push { cls := .type "tuple_iterator", data := .fields #[.ref ax, .int 0 0] }).get? b = some o := fun b o e => Heap.get?_push_of_some _ e
  refine block_T (Walks.tuple hh s₁.heap.objs.size ax (Nat.ne_of_lt hlt) its) hsz (fun i h st => by obtain ⟨o, e, _⟩ := st.1; exact ⟨o, e⟩) tup_st hcell hkind hx ⟨⟨_, Heap.get?_push_size _ rfl, rfl, rfl⟩, ⟨_, up _ _ (N _ hm).1, rfl, k, rfl⟩⟩ (fun b hb => ?_)
    (F.keeps up) (N.grown up) (Nat.ne_of_lt F.ns.lt) (next_is_new F) (fun p hp => Nat.ne_of_lt (Heap.lt_size (N p hp).1)) ⟨k, hm⟩ (R _) ?_
  · show b < (s₁.heap.push _).objs.size
    rw [Heap.size_push]
    rcases List.mem_cons.mp hb with rfl | hb
    · exact Nat.lt_succ_self _
    · rw [List.mem_singleton.mp hb]; exact Nat.lt_succ_of_lt hlt
  · intro D C h' tk m' ys news' F' N' o1 hn hC₀ hD₀ hCL hDL hCD offC fin
    exact assign_fin hLe hy hp F' N' o1 hn hC₀ hCL hCD offC fin rfl

theorem comp_tupU {elt iter : PySem.Expr} {x y : PySem.Str} {px py : Pos} {scope : Scope} {cl : List (PySem.Str × Addr)} {pos spos : Pos} {Q : Flow → Shared → Prop} (_F₀ : Fr h₀ L s.heap m) (hLe : env.locals = L)
    (hsw : swapsWith (.ListComp elt [⟨.Name x px, iter, [], 0⟩] scope pos) (some (.Name y py)) spos.line env = pure true)
    (hclos : closureFor scope env = pure cl) (hcell : ∀ z ∈ scope.names, z.2 ≠ .cell) (hkind : scope.kind = .function)
    (hnames : ∀ z ∈ scope.names, z.2 = .local → scope.names.lookup z.1 = some .local) (hx : scope.names.lookup x = some .local)
    (hy : env.kindOf y = some .local) (hp : (env.scope.kind == .class || (env.scope.kind == .module && env.locals != env.globals)) = false)
    (h : wpAny (model prog w) A (eval iter env) (SrcTU prog w A h₀ L m env elt x scope cl (fun s₂ => FinA h₀ L m s₂ y Q)) E s)
    (hs : ∀ x, foldedSetIterable iter env x = pure x := by intro _; rfl) :
    wpAny (model prog w) A (exec (.Assign [.Name y py] (.ListComp elt [⟨.Name x px, iter, [], 0⟩] scope pos) spos) env) Q E s := by
  rw [exec_Assign_Name_used _ _ _ _ hsw]
  refine wpAny_bind (wpAny_standAt (wpAny_bind ?_))
  show wpAny _ A (do let _ ← comprehension (.ListComp elt [⟨.Name x px, iter, [], 0⟩] scope pos) scope env _ (newList []) false (eval iter env) (some (assign (.Name y py) env))) _ _ s
  refine wpAny_bind (wpAny_mono (wpAny_comprehension_free (use := some (assign (.Name y py) env)) (Q := fun _ s' => Q .next s') rfl hs hclos hkind hnames
    (wpAny_mono h (fun xv s₁ h₁ => ?_) fun _ _ e => e)) (fun _ s' hq => wpAny_pure (wpAny_pure hq)) fun _ _ e => e)
  obtain ⟨ax, its, k, news, rfl, hh, F, N, hm, hsz, R⟩ := h₁
  have hl : s₁.heap.IsTuple ax its := ⟨_, (N _ hm).1, rfl, k, rfl⟩
  have hlt : ax < s₁.heap.objs.size := Heap.lt_size (N _ hm).1
  refine wpAny_pyIter_tuple hl ?_
  have up : ∀ b o, s₁.heap.get? b = some o → (s₁.heap.push { cls := .type "tuple_iterator", data := .fields #[.ref ax, .int 0 0] }).get? b = some o := fun b o e => Heap.get?_push_of_some _ e
  refine block_U (Walks.tuple hh s₁.heap.objs.size ax (Nat.ne_of_lt hlt) its) hsz (fun i h st => by obtain ⟨o, e, _⟩ := st.1; exact ⟨o, e⟩) tup_st hcell hkind hx ⟨⟨_, Heap.get?_push_size _ rfl, rfl, rfl⟩, ⟨_, up _ _ (N _ hm).1, rfl, k, rfl⟩⟩ (fun b hb => ?_)
    (F.keeps up) (N.grown up) (Nat.ne_of_lt F.ns.lt) (next_is_new F) (fun p hp => Nat.ne_of_lt (Heap.lt_size (N p hp).1)) ⟨k, hm⟩ (R _) ?_
  · show b < (s₁.heap.push _).objs.size
    rw [Heap.size_push]
    rcases List.mem_cons.mp hb with rfl | hb
    · exact Nat.lt_succ_self _
    · rw [List.mem_singleton.mp hb]; exact Nat.lt_succ_of_lt hlt
  · intro D C h' tk m' ys news' F' N' o1 hn hC₀ hD₀ hCL hDL hCD offC fin
    exact assign_fin hLe hy hp F' N' o1 hn hC₀ hCL hCD offC fin rfl
end
theorem keys_miss_list : typeLookup (.type "list") (PySem.Str.ofString "keys") = pure none := am_miss_of_fast (by decide +kernel)
theorem getAttr_keys_list {prog : Program} {w : World} {A : Around} {E : Value → Shared → Prop} {s : Shared} {a : Addr} {xs : Array Value} {k : Nat} {sl : Array (Option Value)} {Q : Option Value → Shared → Prop}
    (hx : s.heap.get? a = some { cls := .type "list", dict := none, data := .seq xs k, slots := sl }) (hA : A.handled = none)
    (h : ∀ h' tk, (∀ b o, s.heap.get? b = some o → h'.get? b = some o) → Q none { s with heap := h', toks := tk }) :
    wpAny (model prog w) A (getAttr? (.ref a) (PySem.Str.ofString "keys")) Q E s := by
  obtain ⟨hp, g, d, tk, os⟩ := s
  have hT : ∀ tk', (⟨hp, g, d, tk', os⟩ : Shared).TypeIs (.ref a) "list" := fun _ => ⟨_, hx, rfl⟩
  have f1 := sub_AttributeError
  have f3 := PySem.F.slot_list_getattribute.lookup
  have f4 := PySem.F.slot_list_getattribute.bind (.ref a)
  have f5 := am_list_getattr_none
  unfold getAttr? getAttrBy? getAttrBy
  repeat (any_goals (first | assumption | exact hT _ | ((with_reducible show wpAny _ _ (call (Value.builtin "list.__getattribute__") _ _) _ _ _); refine call_meets PySem.F.slot_list_getattribute (hT _) am_entry_list_getattribute (PySem.F.args_list_getattribute_2 _ _) (meets_getattribute_miss_list a xs k sl _ _ keys_miss_list (by decide) (by decide)) ⟨hx, hA, fun h' tk' e hx' => ?_⟩) | wp_step))
  obtain ⟨t', u', he⟩ := hx'.there
  show wpAny _ _ (getattributeRaised _ _ _ _ _ _ _) _ _ _
  unfold getattributeRaised
  repeat (any_goals (first | assumption | wp_step))
  exact h _ _ hx'.keeps
theorem entry_update_loop : entryFor table "dict.update.loop" = some Builtin.«dict.update.loop» := entryFor_of_tree (by kernel_rfl)
theorem plain_update_loop : plainId "dict.update.loop" = true := by decide +kernel
section
variable {prog : Program} {w : World} {K : Type} [DecidableEq K] {knd : KeyKind prog w K} {A : Around} {E : Value → Shared → Prop} {s : Shared}
theorem dictOf_at {h h' : Heap} {a : Addr} {kvs : List (K × Value)} (hm : h.DictOf knd a kvs) (e : ∀ o, h.get? a = some o → h'.get? a = some o) : h'.DictOf knd a kvs := let ⟨o, es, ep, ho, r⟩ := hm; ⟨o, es, ep, e _ ho, r⟩
/-- an item of the list: a pair of the ledger -/
def PairAt (knd : KeyKind prog w K) (h : Heap) (u : Value) (p : K × Value) : Prop := ∃ t key n, u = .ref t ∧ h.get? t = some (tupO #[key, p.2] n) ∧ knd.is p.1 key = true
theorem update_loop {R : Result → Shared → Prop} (hh : A.handled = none) {I ax D : Addr} {items : Array Value} {kvs : List (K × Value)} (hne : ax ≠ I) (hDI : D ≠ I) (hDx : D ≠ ax) (hlen : kvs.length = items.size) (hsz : kvs.length ≤ sizeLine) (hn : (kvs.map (·.1)).Nodup)
    (hp : ∀ (i : Nat) u p, items[i]? = some u → kvs[i]? = some p → ∃ t key n, u = .ref t ∧ t ≠ I ∧ t ≠ D ∧ s.heap.get? t = some (tupO #[key, p.2] n) ∧ knd.is p.1 key = true)
    (hR : ∀ h' tk, h'.DictOf knd D kvs → (∀ b o, b ≠ I → b ≠ D → s.heap.get? b = some o → h'.get? b = some o) → R (.ok (.ret .none)) { s with heap := h', toks := tk }) :
    ∀ (k i : Nat) (h : Heap) (tk : Nat) (ti : Tok), items.size - i = k → i ≤ items.size → (h.IsListIter I ax i ∧ h.IsList ax items) → h.DictOf knd D (kvs.take i) → (∀ b o, b ≠ I → b ≠ D → s.heap.get? b = some o → h.get? b = some o) →
      codeAny (model prog w) A (.builtin "dict.update.loop" ⟨[.ref D, .ref I, .int (i : Int) ti, .none], []⟩) R { s with heap := h, toks := tk } := by
  have W := Walks.list (prog := prog) (w := w) (A := A.in1) (by simpa using hh) I ax hne items
  intro k
  induction k with
  | zero =>
    intro i h tk ti hk hi hst hD hkeep
    have hin : i = items.size := by omega
    subst hin
    refine codeAny_builtin entry_update_loop ?_
    rw [Around.under_plainId plain_update_loop _]
    show wpAny _ A.in1 (pyNext (.ref I) >>= _) _ _ _
    refine wpAny_bind (W.done _ _ _ hst fun h' tk' hm => ?_)
    show wpAny _ A.in1 (Builtin.Dict.addKeywords D [] >>= _) _ _ _
    refine wpAny_bind (wpAny_pure ?_)
    refine wpAny_pure (hR h' tk' ?_ fun b o hb hb2 e => hm b o (by simpa using hb) (hkeep b o hb hb2 e))
    rw [List.take_of_length_le (by omega)] at hD
    exact dictOf_at hD fun o e => hm D o (by simpa using hDI) e
  | succ k ih =>
    intro i h tk ti hk hi hst hD hkeep
    have hlt : i < items.size := by omega
    refine codeAny_builtin entry_update_loop ?_
    rw [Around.under_plainId plain_update_loop _]
    show wpAny _ A.in1 (pyNext (.ref I) >>= _) _ _ _
    refine wpAny_bind (W.item i _ _ _ hlt hst fun v h' tk' hP hst' hm => ?_)
    have hkv : kvs[i]? = some kvs[i] := List.getElem?_eq_getElem (by omega)
    obtain ⟨t, key, n, rfl, htI, htD, ht, hkey⟩ := hp i v _ hP hkv
    have ht' : h'.get? t = some (tupO #[key, (kvs[i]).2] n) := hm t _ (by simpa using htI) (hkeep t _ htI htD ht)
    have hD' : h'.DictOf knd D (kvs.take i) := dictOf_at hD fun o e => hm D o (by simpa using hDI) e
    have hT : (⟨h', s.gens, s.drawn, tk', s.os⟩ : Shared).TypeIs (.ref t) "tuple" := ⟨_, ht', rfl⟩
    show wpAny _ A.in1 (holding [Value.ref t] _ >>= _) _ _ _
    refine wpAny_bind (wpAny_holding ?_)
    refine wpAny_bind ?_
    refine wpAny_tryCatch ?_
    unfold Builtin.Dict.pairItems
    refine wpAny_bind (wpAny_typeOf hT ?_)
    rw [if_pos (by decide)]
    refine wpAny_bind (wpAny_seqItems ht' rfl ?_)
    refine wpAny_pure ?_
    show wpAny _ A.in1 (holding [key, (kvs[i]).2] (dictSet D key (kvs[i]).2)) _ _ _
    have hnx : (kvs[i]).1 ∉ (kvs.take i).map (·.1) := by
      intro hm'
      have e1 : kvs = kvs.take i ++ kvs[i] :: kvs.drop (i + 1) := by simp
      rw [e1, List.map_append, List.map_cons] at hn
      exact (List.nodup_append.mp hn).2.2 _ hm' _ (List.mem_cons_self) rfl
    refine wpAny_holding (wpAny_dictSet_pairs (knd := knd) hkey hD' (fun h₃ hD₃ hs₃ => ?_) (by simp; omega))
    have hst₃ : stored (kvs.take i) (kvs[i]).1 (kvs[i]).2 = kvs.take (i + 1) := by
      rw [stored_absent (valueAt_none_of_not_mem hnx), List.take_add_one, hkv]
      rfl
    rw [hst₃] at hD₃
    refine wpAny_pure ⟨plainId_quiet plain_update_loop _, ?_⟩
    exact ih (i + 1) h₃ _ _ (by omega) hlt (W.frame _ _ _ hst' fun b hb o e => hs₃.extBut b o (by rcases List.mem_cons.mp hb with rfl | hb; exact Ne.symm hDI; rw [List.mem_singleton.mp hb]; exact Ne.symm hDx) e) hD₃
      fun b o hb hb2 e => hs₃.extBut b o hb2 (hm b o (by simpa using hb) (hkeep b o hb hb2 e))
end
section
variable {prog : Program} {w : World} {K : Type} [DecidableEq K] {knd : KeyKind prog w K} {A : Around} {E : Value → Shared → Prop} {s : Shared}
theorem call_dict_pairs {l : Addr} {tups : Array Value} {nl : Nat} {kvs : List (K × Value)} {Q : Value → Shared → Prop} (hh : A.handled = none) (ho : s.heap.get? l = some ({ cls := .type "list", data := .seq tups nl } : Obj)) (hlen : kvs.length = tups.size) (hsz : kvs.length ≤ sizeLine) (hn : (kvs.map (·.1)).Nodup)
    (hp : ∀ (i : Nat) u p, tups[i]? = some u → kvs[i]? = some p → ∃ t key n, u = .ref t ∧ s.heap.get? t = some (tupO #[key, p.2] n) ∧ knd.is p.1 key = true)
    (h : ∀ h' tk, h'.DictOf knd s.heap.objs.size kvs → (∀ b o, s.heap.get? b = some o → h'.get? b = some o) → Q (.ref s.heap.objs.size) { s with heap := h', toks := tk }) :
    wpAny (model prog w) A (call (.type "dict") [.ref l]) Q E s := by
  refine callType_codes (Q₁ := fun obj s₁ => obj = .ref s.heap.objs.size ∧ s₁ = { s with heap := s.heap.push { cls := .type "dict", data := .dict #[] } }) PySem.F.kt_called_dict (PySem.F.kt_typeCall_dict_1 _) PySem.F.entry_dict_init (kt_code_dict_new _ ⟨rfl, rfl⟩) ?_
  rintro obj s₁ ⟨rfl, rfl⟩
  have hnew : (s.heap.push { cls := .type "dict", data := .dict #[] }).DictOf knd s.heap.objs.size [] := Heap.DictOf.new s.heap
  have hlt : l < s.heap.objs.size := Heap.lt_size ho
  have ho' : (s.heap.push { cls := .type "dict", data := .dict #[] }).get? l = some ({ cls := .type "list", data := .seq tups nl } : Obj) := Heap.get?_push_of_some _ ho
  have hT : ({ s with heap := s.heap.push { cls := .type "dict", data := .dict #[] } } : Shared).TypeIs (.ref l) "list" := ⟨_, ho', rfl⟩
  have hA1 : A.in1.handled = none := by simpa using hh
  refine ⟨hnew.typeIs, PySem.F.args_dict_init_2 _ _, ?_⟩
  unfold Builtin.«dict.__init__»
  refine wpAny_bind ?_
  unfold Builtin.Dict.selfAndRest
  refine wpAny_bind (wpAny_notOrdered_dict hnew.typeIs ?_)
  show wpAny _ _ (pure (s.heap.objs.size, [Value.ref l])) _ _ _
  refine wpAny_pure ?_
  show wpAny _ _ (Builtin.Dict.updateFrom "dict.__init__" s.heap.objs.size (.ref l) [] .none) _ _ _
  unfold Builtin.Dict.updateFrom
  refine wpAny_bind (wpAny_typeOf hT ?_)
  rw [if_pos (by decide)]
  refine wpAny_bind (getAttr_keys_list ho' hA1 fun h₁ tk₁ hk₁ => ?_)
  have ho₁ := hk₁ _ _ ho'
  have hnew₁ : h₁.DictOf knd s.heap.objs.size [] := dictOf_at hnew fun o e => hk₁ _ _ e
  have hl₁ : h₁.IsList l tups := ⟨_, ho₁, rfl, nl, rfl⟩
  have hup : ∀ b o, s.heap.get? b = some o → h₁.get? b = some o := fun b o e => hk₁ _ _ (Heap.get?_push_of_some _ e)
  have hgt : s.heap.objs.size < h₁.objs.size := by obtain ⟨_, _, _, e, _⟩ := hnew₁; exact Heap.lt_size e
  show wpAny _ _ (rule _ >>= _) _ _ _
  refine wpAny_bind (wpAny_rule ?_)
  refine wpAny_bind (wpAny_pyIter_list hl₁ ?_)
  refine wpAny_pure ⟨plainId_quiet plain_update_loop _, ?_⟩
  have hl₂ : (h₁.push { cls := .type "list_iterator", data := .fields #[.ref l, .int 0 0] }).IsList l tups := ⟨_, Heap.get?_push_of_some _ ho₁, rfl, nl, rfl⟩
  refine update_loop (s := { s with heap := h₁.push { cls := .type "list_iterator", data := .fields #[.ref l, .int 0 0] }, toks := tk₁ }) (knd := knd) (kvs := kvs) (items := tups) (ax := l) hA1 ?n1 ?n2 ?n3 hlen hsz hn ?hp ?hR (tups.size - 0) 0 _ _ 0 rfl (Nat.zero_le _) ⟨⟨_, Heap.get?_push_size _ rfl, rfl, rfl⟩, hl₂⟩ ?hd (fun _ _ _ _ e => e)
  case n1 => exact Nat.ne_of_lt (Heap.lt_size ho₁)
  case n2 => exact Nat.ne_of_lt hgt
  case n3 => exact Nat.ne_of_gt hlt
  case hd => exact dictOf_at hnew₁ fun o e => Heap.get?_push_of_some _ e
  case hp =>
    intro i u p h1 h2
    obtain ⟨t, key, n, rfl, ht, hkey⟩ := hp i u p h1 h2
    have hlt' := Heap.lt_size ht
    exact ⟨t, key, n, rfl, Nat.ne_of_lt (Nat.lt_trans hlt' hgt), Nat.ne_of_lt hlt', Heap.get?_push_of_some _ (hup _ _ ht), hkey⟩
  case hR =>
    intro h' tk' hd' hk'
    refine ⟨rfl, h h' tk' hd' fun b o e => ?_⟩
    have hb := Heap.lt_size e
    exact hk' b o (Nat.ne_of_lt (Nat.lt_trans hb hgt)) (Nat.ne_of_lt hb) (Heap.get?_push_of_some _ (hup _ _ e))
theorem dict_pairs {h₀ : Heap} {L : Addr} {m : PySem.Str → Option Value} {news : List (Addr × Obj)} {l : Addr} {tups : Array Value} {nl : Nat} {kvs : List (K × Value)} {Q : Value → Shared → Prop} (hh : A.handled = none) (F : Fr h₀ L s.heap m) (N : News h₀ L s.heap news) (hbig : h₀.NoLimit) (hm : (l, ({ cls := .type "list", data := .seq tups nl } : Obj)) ∈ news) (hlen : kvs.length = tups.size) (hsz : kvs.length ≤ sizeLine) (hn : (kvs.map (·.1)).Nodup)
    (hp : ∀ (i : Nat) u p, tups[i]? = some u → kvs[i]? = some p → ∃ t key n, u = .ref t ∧ (t, tupO #[key, p.2] n) ∈ news ∧ knd.is p.1 key = true)
    (h : ∀ D h' tk o, Fr h₀ L h' m → News h₀ L h' ((D, o) :: news) → (∀ q ∈ news, q.1 < D) → (D == sysModules) = false → o.IsDictOf knd kvs → Q (.ref D) { s with heap := h', toks := tk }) :
    wpAny (model prog w) A (call (.type "dict") [.ref l]) Q E s := by
  refine call_dict_pairs (knd := knd) (kvs := kvs) hh (N _ hm).1 hlen hsz hn (fun i u p h1 h2 => ?_) fun h' tk hd hk => ?_
  · obtain ⟨t, key, n, e, ht, hkey⟩ := hp i u p h1 h2
    exact ⟨t, key, n, e, (N _ ht).1, hkey⟩
  · obtain ⟨o, ho, hd'⟩ := Heap.dictOf_iff.mp hd
    have hL : h₀.get? s.heap.objs.size = none := Heap.get?_none_of_le (by
      have h1 := F.above
      have h2 := F.ns.lt
      exact Nat.le_of_lt (Nat.lt_of_le_of_lt h1 h2))
    refine h _ h' tk o (F.keeps hk) (fun q hq => ?_) (fun q hq => Heap.lt_size (N q hq).1) (F.notModules (modules_low hbig)) hd'
    rcases List.mem_cons.mp hq with rfl | hq
    · exact ⟨ho, Ne.symm (Nat.ne_of_lt F.ns.lt), hL⟩
    · exact ⟨hk _ _ (N q hq).1, (N q hq).2⟩
end
theorem AllLt.mono {c d : Nat} : ∀ {l : List (Addr × Obj)}, AllLt c l → c ≤ d → AllLt d l
  | [], _, _ => trivial
  | _ :: _, h, hc => ⟨Nat.lt_of_lt_of_le h.1 hc, AllLt.mono h.2 hc⟩
section
open LCg LCt
variable {prog : Program} {w : World} {A : Around} {E : Value → Shared → Prop} {s : Shared} {h₀ : Heap} {L : Addr} {m : PySem.Str → Option Value} {env : Env}
/-- a comprehension with a test over a tuple, whose turns change the pool's list alone -/
theorem srcT_pool {ct elt : PySem.Expr} {x : PySem.Str} {scope : Scope} {cl : List (PySem.Str × Addr)} {Fin : Shared → List Value → List (Addr × Obj) → Prop} {t P : Addr} {its : Array Value} {k : Nat} {vs : List Value} {ns : List Int} {np : Nat} {rest : List (Addr × Obj)}
    (hh : A.handled = none) (F : Fr h₀ L s.heap m) (N : News h₀ L s.heap ((t, tupO its k) :: (P, listOf vs.toArray np) :: rest)) (hsz : its.size ≤ sizeLine) (hi : IntsAre vs ns) (hl : ns.length ≤ 63) (G : Nat → List Value → Prop) (g0 : G 0 [])
    (fin : ∀ (g : Heap) ys vs ns np, IntsAre vs ns → ns.length ≤ 63 → G its.size ys → Fin { s with heap := g } ys ((t, tupO its k) :: (P, listOf vs.toArray np) :: rest))
    (turn : ∀ (g : Heap) i ys v vs ns np I oI C oC D m₂ h tk (E' : Value → Shared → Prop), IntsAre vs ns → ns.length ≤ 63 → G i ys → its[i]? = some v → NsObj oC m₂ → m₂ x = some v → Fr h₀ L h m → News h₀ L h ((I, oI) :: (C, oC) :: (D, lst ys) :: (t, tupO its k) :: (P, listOf vs.toArray np) :: rest) →
      Off3 I C D ((t, tupO its k) :: (P, listOf vs.toArray np) :: rest) → ((@Ne Nat I C) ∧ (@Ne Nat I D) ∧ (@Ne Nat C D)) →
      wpAny (model prog w) A (isTrue ct (compEnvC scope cl C env) (eval ct (compEnvC scope cl C env))) (fun ok s' => if ok = true then
        wpAny (model prog w) A (eval elt (compEnvC scope cl C env)) (CompEnd h₀ L m { s with heap := h, toks := tk } I oI C oC D (lst ys) (TupIn t its) (fun y news' => ∃ vs' ns' np', news' = (t, tupO its k) :: (P, listOf vs'.toArray np') :: rest ∧ IntsAre vs' ns' ∧ ns'.length ≤ 63 ∧ G (i + 1) (ys ++ [y]))) E' s'
        else CompEnd h₀ L m { s with heap := h, toks := tk } I oI C oC D (lst ys) (TupIn t its) (fun _ news' => ∃ vs' ns' np', news' = (t, tupO its k) :: (P, listOf vs'.toArray np') :: rest ∧ IntsAre vs' ns' ∧ ns'.length ≤ 63 ∧ G (i + 1) ys) Value.none s') E' { s with heap := h, toks := tk }) :
    SrcTT prog w A h₀ L m env ct elt x scope cl Fin (.ref t) s := by
  refine ⟨t, its, k, _, rfl, hh, F, N, .head _, hsz, fun g => ?_⟩
  refine restT_ind (s := { s with heap := g }) (fun i ys news => ∃ vs ns np, news = (t, tupO its k) :: (P, listOf vs.toArray np) :: rest ∧ IntsAre vs ns ∧ ns.length ≤ 63 ∧ G i ys) _ ?_ ?_ _ 0 [] _ (Nat.zero_add _) ⟨vs, ns, np, rfl, hi, hl, g0⟩
  · rintro ys _ ⟨vs', ns', np', rfl, a, b, c⟩
    exact fin g ys vs' ns' np' a b c
  · rintro i ys _ v I oI C oC D m₂ h tk E' ⟨vs', ns', np', rfl, a, b, c⟩ e1 e2 e3 F' N' off ne
    exact turn g i ys v vs' ns' np' I oI C oC D m₂ h tk E' a b c e1 e2 e3 F' N' off ne
theorem unrot4 {h : Heap} {a b c d x : Addr × Obj} {l : List (Addr × Obj)} (N : News h₀ L h (x :: a :: b :: c :: d :: l)) : News h₀ L h (a :: b :: c :: d :: x :: l) := fun p hp => N p (by simp only [List.mem_cons] at hp ⊢; grind)
theorem unrot3 {h : Heap} {a b c x : Addr × Obj} {l : List (Addr × Obj)} (N : News h₀ L h (x :: a :: b :: c :: l)) : News h₀ L h (a :: b :: c :: x :: l) := fun p hp => N p (by simp only [List.mem_cons] at hp ⊢; grind)
end
section
open LCg LCt
variable {prog : Program} {w : World} {A : Around} {E : Value → Shared → Prop} {s : Shared} {h₀ : Heap} {L : Addr} {m : PySem.Str → Option Value} {env : Env}
/-- the pairs (text, 0) of the texts, as items of a list and as entries of a dict -/
def PairsOf (ys : List Value) (kvs : List (PySem.Str × Value)) (ss : List PySem.Str) (ext : List (Addr × Obj)) : Prop :=
  kvs.map (·.1) = ss ∧ ys.length = kvs.length ∧ ∀ (j : Nat) u p, ys[j]? = some u → kvs[j]? = some p → ∃ t tk n, u = .ref t ∧ (t, tupO #[.str p.1 tk, p.2] n) ∈ ext
theorem PairsOf.snoc {ys : List Value} {kvs : List (PySem.Str × Value)} {ss : List PySem.Str} {ext : List (Addr × Obj)} (h : PairsOf ys kvs ss ext) (x : PySem.Str) (t0 tz : Tok) (tp : Addr) (n : Nat) :
    PairsOf (ys ++ [.ref tp]) (kvs ++ [(x, .int 0 tz)]) (ss ++ [x]) ((tp, tupO #[.str x t0, .int 0 tz] n) :: ext) := by
  obtain ⟨a, b, c⟩ := h
  refine ⟨by simp [a], by simp [b], fun j u p h1 h2 => ?_⟩
  rw [List.getElem?_append] at h1 h2
  by_cases hj : j < ys.length
  · rw [if_pos hj] at h1
    rw [if_pos (by omega)] at h2
    obtain ⟨t, tk, n', e, hm⟩ := c j u p h1 h2
    exact ⟨t, tk, n', e, .tail _ hm⟩
  · rw [if_neg hj] at h1
    rw [if_neg (by omega)] at h2
    have e1 : j - ys.length = 0 := by
      rcases Nat.eq_zero_or_pos (j - ys.length) with h | h
      · exact h
      · rw [List.getElem?_eq_none (by simp; omega)] at h1; cases h1
    rw [e1] at h1
    rw [show j - kvs.length = 0 by omega] at h2
    simp at h1 h2
    subst h1 h2
    exact ⟨tp, t0, n, rfl, .head _⟩
/-- [(x, 0) for x in texts] -/
theorem srcU_pairs {elt : PySem.Expr} {x : PySem.Str} {scope : Scope} {cl : List (PySem.Str × Addr)} {Fin : Shared → List Value → List (Addr × Obj) → Prop} {ax : Addr} {vs : List Value} {ss : List PySem.Str} {k : Nat} {base : List (Addr × Obj)}
    (hh : A.handled = none) (F : Fr h₀ L s.heap m) (N : News h₀ L s.heap base) (hm : (ax, listOf vs.toArray k) ∈ base) (hS : StrsAre vs ss) (hsz : vs.length ≤ sizeLine)
    (fin : ∀ (g : Heap) ys ext kvs, PairsOf ys kvs ss ext → Fin { s with heap := g } ys (ext ++ base))
    (turn : ∀ (g : Heap) ys x' t' ext I oI C oC D m₂ h tk (E' : Value → Shared → Prop), NsObj oC m₂ → m₂ x = some (.str x' t') → Fr h₀ L h m → News h₀ L h ((I, oI) :: (C, oC) :: (D, lst ys) :: (ext ++ base)) → Off3 I C D (ext ++ base) → ((@Ne Nat I C) ∧ (@Ne Nat I D) ∧ (@Ne Nat C D)) →
      wpAny (model prog w) A (eval elt (compEnvC scope cl C env)) (CompEnd h₀ L m { s with heap := h, toks := tk } I oI C oC D (lst ys) (SrcAt h₀ ax vs.toArray) (fun y news' => ∃ tp t0 tz n, y = .ref tp ∧ news' = (tp, tupO #[.str x' t0, .int 0 tz] n) :: (ext ++ base))) E' { s with heap := h, toks := tk }) :
    CompSrc prog w A h₀ L m env elt x scope cl Fin (.ref ax) s := by
  refine CompSrc.ledger hh F N hm (by simpa using hsz) fun g => ?_
  refine rest_ind (s := { s with heap := g }) (fun i ys news => ∃ ext kvs, news = ext ++ base ∧ PairsOf ys kvs (ss.take i) ext) _ ?_ ?_ _ 0 [] _ (Nat.zero_add _) ⟨[], [], rfl, rfl, rfl, fun j u p h1 _ => by simp at h1⟩
  · rintro ys _ ⟨ext, kvs, rfl, a⟩
    rw [List.size_toArray, hS.length, List.take_length] at a
    exact fin g ys ext kvs a
  · rintro i ys _ v I oI C oC D m₂ h tk E' ⟨ext, kvs, rfl, a⟩ e1 e2 e3 F' N' off ne
    obtain ⟨x', t', hx, rfl⟩ := strs_at hS e1
    refine wpAny_mono (turn g ys x' t' ext I oI C oC D m₂ h tk E' e2 e3 F' N' off ne) (fun y s₂ z => cend_mono z fun news' z => ?_) fun _ _ q => q
    obtain ⟨tp, t0, tz, n, rfl, rfl⟩ := z
    refine ⟨(tp, tupO #[.str x' t0, .int 0 tz] n) :: ext, kvs ++ [(x', .int 0 tz)], rfl, ?_⟩
    have e : ss.take (i + 1) = ss.take i ++ [x'] := by rw [List.take_add_one, hx]; rfl
    rw [e]
    exact a.snoc x' t0 tz tp n
/-- [x for x in texts if p] -/
theorem srcT_filter {ct elt : PySem.Expr} {x : PySem.Str} {scope : Scope} {cl : List (PySem.Str × Addr)} {Fin : Shared → List Value → List (Addr × Obj) → Prop} {ax : Addr} {vs : List Value} {ss : List PySem.Str} {k : Nat} {base : List (Addr × Obj)} (p : PySem.Str → Bool)
    (hh : A.handled = none) (F : Fr h₀ L s.heap m) (N : News h₀ L s.heap base) (hm : (ax, listOf vs.toArray k) ∈ base) (hS : StrsAre vs ss) (hsz : vs.length ≤ sizeLine)
    (fin : ∀ (g : Heap) ys, StrsAre ys (ss.filter p) → Fin { s with heap := g } ys base)
    (turn : ∀ (g : Heap) ys x' t' I oI C oC D m₂ h tk (E' : Value → Shared → Prop), NsObj oC m₂ → m₂ x = some (.str x' t') → Fr h₀ L h m → News h₀ L h ((I, oI) :: (C, oC) :: (D, lst ys) :: base) → Off3 I C D base → ((@Ne Nat I C) ∧ (@Ne Nat I D) ∧ (@Ne Nat C D)) →
      wpAny (model prog w) A (isTrue ct (compEnvC scope cl C env) (eval ct (compEnvC scope cl C env))) (fun ok s' => if ok = true then
        wpAny (model prog w) A (eval elt (compEnvC scope cl C env)) (CompEnd h₀ L m { s with heap := h, toks := tk } I oI C oC D (lst ys) (SrcAt h₀ ax vs.toArray) (fun y news' => news' = base ∧ p x' = true ∧ ∃ t, y = .str x' t)) E' s'
        else CompEnd h₀ L m { s with heap := h, toks := tk } I oI C oC D (lst ys) (SrcAt h₀ ax vs.toArray) (fun _ news' => news' = base ∧ p x' = false) Value.none s') E' { s with heap := h, toks := tk }) :
    CompSrcT prog w A h₀ L m env ct elt x scope cl Fin (.ref ax) s := by
  refine CompSrcT.ledger hh F N hm (by simpa using hsz) fun g => ?_
  refine restT_ind (s := { s with heap := g }) (fun i ys news => news = base ∧ StrsAre ys ((ss.take i).filter p)) _ ?_ ?_ _ 0 [] _ (Nat.zero_add _) ⟨rfl, StrsAre.nil⟩
  · rintro ys _ ⟨rfl, a⟩
    rw [List.size_toArray, hS.length, List.take_length] at a
    exact fin g ys a
  · rintro i ys _ v I oI C oC D m₂ h tk E' ⟨rfl, a⟩ e1 e2 e3 F' N' off ne
    obtain ⟨x', t', hx, rfl⟩ := strs_at hS e1
    refine wpAny_mono (turn g ys x' t' I oI C oC D m₂ h tk E' e2 e3 F' N' off ne) (fun ok s' z => ?_) fun _ _ q => q
    cases ok with
    | true =>
      simp only [if_true] at z ⊢
      refine wpAny_mono z (fun y s₂ z => cend_mono z fun news' z => ?_) fun _ _ q => q
      obtain ⟨rfl, hp, t, rfl⟩ := z
      exact ⟨rfl, strs_yes a hx hp t⟩
    | false =>
      simp only [Bool.false_eq_true, if_false] at z ⊢
      exact cend_mono z fun news' z => ⟨z.1, strs_no a hx z.2⟩
end
theorem g_yes {ss names : List PySem.Str} {i : Nat} {x : PySem.Str} (h : ss.Sublist (names.take i)) (e : names[i]? = some x) : (ss ++ [x]).Sublist (names.take (i + 1)) := by
  rw [List.take_add_one, e]
  exact h.append (List.Sublist.refl _)
theorem g_no {ss names : List PySem.Str} {i : Nat} (h : ss.Sublist (names.take i)) : ss.Sublist (names.take (i + 1)) := by
  rw [List.take_add_one]
  exact h.trans (List.sublist_append_left _ _)
def theStates : List PySem.Str := [PySem.Str.ofString "y", PySem.Str.ofString "Off", PySem.Str.ofString "x", PySem.Str.ofString "z"]
def StSt (i : Nat) (ys : List Value) : Prop := ∃ ss, StrsAre ys ss ∧ ss.Sublist (theStates.take i)
theorem StSt.yes {i : Nat} {ys : List Value} {x : PySem.Str} (h : StSt i ys) (e : theStates[i]? = some x) (t : Tok) : StSt (i + 1) (ys ++ [.str x t]) := by
  obtain ⟨ss, a, b⟩ := h
  exact ⟨_, strs_snoc a x t, g_yes b e⟩
theorem StSt.no {i : Nat} {ys : List Value} (h : StSt i ys) : StSt (i + 1) ys := by
  obtain ⟨ss, a, b⟩ := h
  exact ⟨_, a, g_no b⟩
theorem theStates_nodup : theStates.Nodup := by decide
theorem dict_of_pairs {prog : Program} {w : World} {A : Around} {E : Value → Shared → Prop} {s : Shared} {h₀ : Heap} {L : Addr} {m : PySem.Str → Option Value} {D8 : Addr} {ys : List Value} {kvs : List (PySem.Str × Value)} {ss : List PySem.Str} {ext base : List (Addr × Obj)} {Q : Value → Shared → Prop} (hh : A.handled = none) (F : Fr h₀ L s.heap m) (N : News h₀ L s.heap ((D8, LCg.lst ys) :: (ext ++ base))) (hbig : h₀.NoLimit) (hp : PairsOf ys kvs ss ext) (hn : ss.Nodup) (hl : ss.length ≤ 64)
    (h : ∀ D h' tk o, Fr h₀ L h' m → News h₀ L h' ((D, o) :: base) → (∀ q ∈ base, q.1 < D) → (D == sysModules) = false → o.IsDictOf (PySem.strKind prog w) kvs → Q (.ref D) { s with heap := h', toks := tk }) :
    wpAny (model prog w) A (call (.type "dict") [.ref D8]) Q E s := by
  obtain ⟨a, b, c⟩ := hp
  have hlen : kvs.length = ss.length := by rw [← a]; simp
  refine dict_pairs (knd := PySem.strKind prog w) (kvs := kvs) hh F N hbig (.head _) (by rw [List.size_toArray, b]) (by rw [sizeLine_eq]; omega) (by rw [a]; exact hn) (fun i u p h1 h2 => ?_) fun D h' tk o F' N' l1 lo hd => h D h' tk o F' (cb_drop N' ?_) (fun q hq => l1 q (.tail _ (List.mem_append_right _ hq))) lo hd
  · obtain ⟨t, tk, n, e, hm⟩ := c i u p (by simpa using h1) h2
    exact ⟨t, _, n, e, .tail _ (List.mem_append_left _ hm), strKind_is _ _ _ _⟩
  · intro q hq
    rcases List.mem_cons.mp hq with rfl | hq
    · exact .head _
    · exact .tail _ (.tail _ (List.mem_append_right _ hq))
section
variable {prog : Program} {w : World} {A : Around} {E : Value → Shared → Prop} {s : Shared} {env : Env} {h₀ : Heap} {x : PySem.Str} {body : List Stmt} {Q : Flow → Shared → Prop}
/-- a for over a list of the ledger that the body leaves alone: any items, an invariant -/
theorem iter_vals {l : Addr} {vs : List Value} {nn : Nat} {m₀ : PySem.Str → Option Value} {news : List (Addr × Obj)} (J : Nat → (PySem.Str → Option Value) → List (Addr × Obj) → Prop)
    (hh : A.handled = none) (hJl : ∀ i m nx, J i m nx → (l, listOf vs.toArray nn) ∈ nx) (F : Fr h₀ env.locals s.heap m₀) (N : News h₀ env.locals s.heap news) (hj : J 0 m₀ news)
    (turn : ∀ i v m₁ news₁ h tk own, vs[i]? = some v → news₁.map (·.1) = news.map (·.1) → OwnOff own (news.map (·.1)) → J i m₁ news₁ → Fr h₀ env.locals h (fun y => if y = x then some v else m₁ y) → News h₀ env.locals h (news₁ ++ own) →
      wpAny (model prog w) A (execs body env) (InvPostN h₀ env.locals (J (i + 1)) own (news.map (·.1)) { s with heap := h, toks := tk } Q) E { s with heap := h, toks := tk })
    (done : ∀ m₁ news₁ h tk, J vs.length m₁ news₁ → Fr h₀ env.locals h m₁ → News h₀ env.locals h news₁ → Q .next { s with heap := h, toks := tk }) :
    wpAny (model prog w) A (pyIter (.ref l)) (fun it s₂ => LoopAtV prog w A h₀ env x body Q E it s₂) E s := by
  have hl := hJl _ _ _ hj
  have hol : s.heap.get? l = some (listOf vs.toArray nn) := (N _ hl).1
  have hls : s.heap.IsList l vs.toArray := ⟨_, hol, rfl, nn, rfl⟩
  have hne : l ≠ s.heap.objs.size := Nat.ne_of_lt (Heap.lt_size hol)
  refine wpAny_pyIter_list hls ?_
  have W := Walks.list (prog := prog) (w := w) hh s.heap.objs.size l hne vs.toArray
  rw [List.size_toArray] at W
  refine ⟨_, _, _, vs.length, _, _, m₀, news, (fun i m nx => nx.map (·.1) = news.map (·.1) ∧ J i m nx), rfl, W, ?_, ?_, ?_, ⟨⟨_, Heap.get?_push_size _ rfl, rfl, rfl⟩, hls.at fun o e => Heap.get?_push_of_some _ e⟩, F.push _, (fun p hp => ⟨Heap.get?_push_of_some _ (N p hp).1, (N p hp).2⟩), ⟨rfl, hj⟩, ?_, ?_⟩
  · intro hm
    rcases List.mem_cons.mp hm with e | hm
    · exact absurd F.ns.lt (e ▸ Nat.lt_irrefl _)
    · exact (N _ hl).2.1 ((List.mem_singleton.mp hm).symm)
  · intro b hb
    rw [List.mem_singleton.mp hb]
    exact next_is_new F
  · intro p hp hI
    exact absurd (Heap.lt_size (N p hp).1) ((List.mem_singleton.mp hI) ▸ Nat.lt_irrefl _)
  · rintro i v m₁ news₁ s₁ own ⟨hh', tk', rfl⟩ hin hP ⟨hadr, hJ⟩ hoff hown hget hfp _ F₁ N₁
    have hl₁ := hJl _ _ _ hJ
    have hsep : OwnOff (own.filter fun p => decide (p.1 = s.heap.objs.size)) (news.map (·.1)) := by
      intro p hp b hb e
      obtain ⟨q, hq, rfl⟩ := List.mem_map.mp hb
      have h1 : p.1 = s.heap.objs.size := by simpa using (List.mem_filter.mp hp).2
      exact absurd (Heap.lt_size (N q hq).1) (by rw [← e, h1]; exact Nat.lt_irrefl _)
    have N₂ : News h₀ env.locals hh' (news₁ ++ own.filter fun p => decide (p.1 = s.heap.objs.size)) := fun p hp => N₁ p ((List.mem_append.mp hp).elim (fun h => List.mem_append.mpr (.inr h)) fun h => List.mem_append.mpr (.inl ((List.mem_filter.mp h).1)))
    have hlo : hh'.get? l = some (listOf vs.toArray nn) := (N₁ _ (List.mem_append.mpr (.inr hl₁))).1
    refine wpAny_mono (turn i v m₁ news₁ hh' tk' _ (by simpa using hP) hadr hsep hJ F₁ N₂) (fun f s₂ p => ?_) fun _ _ e => e
    have fin : InvEndN h₀ env.locals (J (i + 1)) (own.filter fun p => decide (p.1 = s.heap.objs.size)) (news.map (·.1)) { s with heap := hh', toks := tk' } s₂ →
        LoopStepU h₀ env.locals [s.heap.objs.size] own (fun m nx => nx.map (·.1) = news.map (·.1) ∧ J (i + 1) m nx) { s with heap := hh', toks := tk' } .next s₂ := by
      rintro ⟨h', tk, m', news', nx, e, F', N', hn, ho, ha, hm⟩
      refine ⟨rfl, h', tk, m', nx, e, F', fun p hp => ?_, fun p hp => ?_, ha, hm⟩
      · rcases List.mem_append.mp hp with h | h
        · by_cases hI : p.1 = s.heap.objs.size
          · exact N' p (ho p (List.mem_filter.mpr ⟨h, by simpa using hI⟩))
          · have h1 : p.1 = l := by
              rcases List.mem_cons.mp (hown p h) with h2 | h2
              · exact absurd h2 hI
              · exact List.mem_singleton.mp h2
            have h2 : hh'.get? p.1 = some p.2 := hget p h
            rw [h1, hlo] at h2
            have h3 : p = (l, listOf vs.toArray nn) := Prod.ext h1 (Option.some.inj h2).symm
            rw [h3]
            exact N' _ (hn _ (hJl _ _ _ hm))
        · exact N' p (hn p h)
      · have h1 : p.1 ∈ nx.map (·.1) := List.mem_map.mpr ⟨p, hp, rfl⟩
        rw [ha] at h1
        obtain ⟨q, hq, e⟩ := List.mem_map.mp h1
        intro hI
        exact absurd (Heap.lt_size (N q hq).1) (by rw [e, List.mem_singleton.mp hI]; exact Nat.lt_irrefl _)
    cases f with
    | ret v => exact .ret p
    | brk => exact .brk p
    | next => exact .next (fin p)
    | cont => exact .cont (fin p)
  · rintro h' tk m' news' F' N' _ ⟨_, hJ⟩
    exact done m' news' h' tk hJ F' N'

/-- the same, in the words of a letter c: the ledger Led c, the names ps c -/
theorem vals_led {σ : Type} {l : Addr} {vs : List Value} {nn : Nat} {m₀ : PySem.Str → Option Value} (Led : σ → List (Addr × Obj)) (ps : σ → List (PySem.Str × Value)) (stored : List PySem.Str) (P : Nat → σ → Prop) (c₀ : σ)
    (hh : A.handled = none) (hl : ∀ c, (l, listOf vs.toArray nn) ∈ Led c) (F : Fr h₀ env.locals s.heap m₀) (N : News h₀ env.locals s.heap (Led c₀)) (hk : ∀ p ∈ ps c₀, m₀ p.1 = some p.2) (hp : P 0 c₀)
    (turn : ∀ (c : σ) i v (u : PySem.Str → Option Value) h tk own, vs[i]? = some v → OwnOff own ((Led c₀).map (·.1)) → P i c →
      Fr h₀ env.locals h (fun y => if y = x then some v else kstB (fun z => if stored.contains z then u z else m₀ z) (ps c) y) → News h₀ env.locals h (Led c ++ own) →
      wpAny (model prog w) A (execs body env) (InvPostN h₀ env.locals (fun m nx => ∃ c : σ, nx = Led c ∧ (∀ p ∈ ps c, m p.1 = some p.2) ∧ (∀ z, z ≠ x → (∀ p ∈ ps c, z ≠ p.1) → stored.contains z = false → m z = m₀ z) ∧ P (i + 1) c) own ((Led c₀).map (·.1)) { s with heap := h, toks := tk } Q) E { s with heap := h, toks := tk })
    (done : ∀ (c : σ) (u : PySem.Str → Option Value) h tk, P vs.length c → Fr h₀ env.locals h (fun y => if y = x then u y else kstB (fun z => if stored.contains z then u z else m₀ z) (ps c) y) → News h₀ env.locals h (Led c) → Q .next { s with heap := h, toks := tk }) :
    wpAny (model prog w) A (pyIter (.ref l)) (fun it s₂ => LoopAtV prog w A h₀ env x body Q E it s₂) E s := by
  refine iter_vals (vs := vs) (nn := nn) (fun i m nx => ∃ c : σ, nx = Led c ∧ (∀ p ∈ ps c, m p.1 = some p.2) ∧ (∀ z, z ≠ x → (∀ p ∈ ps c, z ≠ p.1) → stored.contains z = false → m z = m₀ z) ∧ P i c) hh ?_ F N ⟨c₀, rfl, hk, fun _ _ _ _ => rfl, hp⟩ ?_ ?_
  · rintro i m nx ⟨c, rfl, _⟩
    exact hl c
  · rintro i v m₁ nx h tk own hv _ hoff ⟨c, rfl, h1, h2, hp'⟩ F₁ N₁
    exact turn c i v m₁ h tk own hv hoff hp' (kst_fr h1 h2 F₁) N₁
  · rintro m₁ nx h tk ⟨c, rfl, h1, h2, hp'⟩ F₁ N₁
    exact done c m₁ h tk hp' (kst_frOut h1 h2 F₁) N₁
end
section
variable {prog : Program} {w : World} {A : Around} {E : Value → Shared → Prop} {s : Shared} {env : Env} {h₀ : Heap} {x : PySem.Str} {body : List Stmt} {Q : Flow → Shared → Prop}
/-- for x in items: .. found.append(text) -/
theorem found_loop {K : Type} {W : Addr} {ws : List Value} {nW : Nat} {Fd : Addr} {n0 : Nat} {rest : List (Addr × Obj)} {m₀ : PySem.Str → Option Value} (stored : List PySem.Str) (ks : List K) (R : Value → K → Prop) (step : List PySem.Str → K → List PySem.Str)
    (hh : A.handled = none) (hW : (W, listOf ws.toArray nW) ∈ rest) (F : Fr h₀ env.locals s.heap m₀) (N : News h₀ env.locals s.heap ((Fd, listOf ([] : List Value).toArray n0) :: rest))
    (hR : ∀ (i : Nat) v, ws[i]? = some v → ∃ k, ks[i]? = some k ∧ R v k) (hlen : ws.length = ks.length) (hstep : ∀ ss k, (step ss k).length = ss.length + 1)
    (turn : ∀ fs ss n' v k (u : PySem.Str → Option Value) h tk own, R v k → StrsAre fs ss → ss.length < ks.length → OwnOff own (Fd :: rest.map (·.1)) →
      Fr h₀ env.locals h (fun y => if y = x then some v else (fun z => if stored.contains z then u z else m₀ z) y) → News h₀ env.locals h (((Fd, listOf fs.toArray n') :: rest) ++ own) →
      wpAny (model prog w) A (execs body env) (InvPostN h₀ env.locals (fun m nx => ∃ fs' n'', nx = (Fd, listOf fs'.toArray n'') :: rest ∧ StrsAre fs' (step ss k) ∧ ∀ z, z ≠ x → stored.contains z = false → m z = m₀ z) own (Fd :: rest.map (·.1)) { s with heap := h, toks := tk } Q) E { s with heap := h, toks := tk })
    (done : ∀ fs n' (u : PySem.Str → Option Value) h tk, StrsAre fs (ks.foldl step []) → Fr h₀ env.locals h (fun y => if y = x then u y else (fun z => if stored.contains z then u z else m₀ z) y) → News h₀ env.locals h ((Fd, listOf fs.toArray n') :: rest) → Q .next { s with heap := h, toks := tk }) :
    wpAny (model prog w) A (pyIter (.ref W)) (fun it s₂ => LoopAtV prog w A h₀ env x body Q E it s₂) E s := by
  have hlf : ∀ (l : List K) (ss : List PySem.Str), (l.foldl step ss).length = ss.length + l.length := by
    intro l
    induction l with
    | nil => intro ss; rfl
    | cons a r ih => intro ss; rw [List.foldl_cons, ih, hstep, List.length_cons]; omega
  refine vals_led (σ := List Value × List PySem.Str × Nat) (nn := nW) (vs := ws) (fun c => (Fd, listOf c.1.toArray c.2.2) :: rest) (fun _ => []) stored (fun i c => StrsAre c.1 c.2.1 ∧ c.2.1 = (ks.take i).foldl step []) ([], [], n0) hh (fun c => .tail _ hW) F N (fun p hp => nomatch hp) ⟨.nil, rfl⟩ ?_ ?_
  · rintro ⟨fs, ss, n'⟩ i v u h tk own hv hoff ⟨hS, hss⟩ F₁ N₁
    obtain ⟨k, hk, r⟩ := hR i v hv
    dsimp only at hS hss N₁ F₁
    have hi : i < ks.length := by
      rcases Nat.lt_or_ge i ks.length with h | h
      · exact h
      · rw [List.getElem?_eq_none h] at hk; cases hk
    have hsl : ss.length < ks.length := by rw [hss, hlf, List.length_take, List.length_nil]; omega
    refine wpAny_mono (turn fs ss n' v k u h tk own r hS hsl hoff F₁ N₁) (fun f s₂ p => ?_) fun _ _ e => e
    have up : InvEndN h₀ env.locals (fun m nx => ∃ fs' n'', nx = (Fd, listOf fs'.toArray n'') :: rest ∧ StrsAre fs' (step ss k) ∧ ∀ z, z ≠ x → stored.contains z = false → m z = m₀ z) own (Fd :: rest.map (·.1)) { s with heap := h, toks := tk } s₂ →
        InvEndN h₀ env.locals (fun m nx => ∃ c : List Value × List PySem.Str × Nat, nx = (Fd, listOf c.1.toArray c.2.2) :: rest ∧ (∀ p ∈ ([] : List (PySem.Str × Value)), m p.1 = some p.2) ∧ (∀ z, z ≠ x → (∀ p ∈ ([] : List (PySem.Str × Value)), z ≠ p.1) → stored.contains z = false → m z = m₀ z) ∧ StrsAre c.1 c.2.1 ∧ c.2.1 = (ks.take (i + 1)).foldl step []) own (Fd :: rest.map (·.1)) { s with heap := h, toks := tk } s₂ := by
      rintro ⟨h', tk', m', news', nx, e, F', N', hn', ho', ha, fs', n'', rfl, hS', hz⟩
      refine ⟨h', tk', m', news', _, e, F', N', hn', ho', ha, ⟨fs', step ss k, n''⟩, rfl, (fun p hp => nomatch hp), (fun z h1 _ h3 => hz z h1 h3), hS', ?_⟩
      show step ss k = _
      rw [List.take_add_one, hk, List.foldl_append, ← hss]
      rfl
    cases f with
    | ret v => exact p
    | brk => exact p
    | next => exact up p
    | cont => exact up p
  · rintro ⟨fs, ss, n'⟩ u h tk ⟨hS, hss⟩ F₁ N₁
    dsimp only at hS hss N₁
    rw [hlen, List.take_length] at hss
    subst hss
    exact done fs n' u h tk hS F₁ N₁
end
def shownStep (lone : Bool) (st : PySem.Str) (found known : List PySem.Str) : List PySem.Str :=
  found ++ [if known.any (· == st) && !(lone && found.any (· == st)) then st else PySem.Str.ofString "Off"]
def shown (lone : Bool) (st : PySem.Str) (ks : List (List PySem.Str)) : List PySem.Str := ks.foldl (shownStep lone st) []
theorem shownStep_length (lone : Bool) (st : PySem.Str) (ss k : List PySem.Str) : (shownStep lone st ss k).length = ss.length + 1 := by simp [shownStep]
theorem strs_step {fs : List Value} {ss k : List PySem.Str} {lone : Bool} {st y : PySem.Str} (h : StrsAre fs ss) (t : Tok) (e : (if k.any (· == st) && !(lone && ss.any (· == st)) then st else PySem.Str.ofString "Off") = y) : StrsAre (fs ++ [.str y t]) (shownStep lone st ss k) := by
  unfold shownStep
  rw [e]
  exact strs_snoc h y t
theorem my_append {prog : Program} {w : World} {A : Around} {E : Value → Shared → Prop} {s : Shared} {h₀ : Heap} {L D : Addr} {m : PySem.Str → Option Value} {news news' : List (Addr × Obj)} {fs : List Value} {n : Nat} {x : Value} {Q : Value → Shared → Prop} (F : Fr h₀ L s.heap m) (N : News h₀ L s.heap news) (U : Upd D (listOf fs.toArray n) (listOf (fs ++ [x]).toArray (n + 1)) news news')
    (hsz : fs.length ≤ sizeLine) (h : ∀ h', Fr h₀ L h' m → News h₀ L h' news' → Q .none { s with heap := h' }) : wpAny (model prog w) A (call (.builtin "list.append") [.ref D, x]) Q E s := by
  rw [← List.push_toArray] at U
  exact append_K F N U h (by simpa using hsz)
theorem ctr_any {w : World} {f : Addr} {args : List Value} {d u : Nat} {n1 n2 : List (Addr × Obj)} {Post Post' : Value → List (Addr × Obj) → Prop} (C : Ctr w f args d u n1 Post) (h : ∀ p ∈ n1, p ∈ n2) (hp : ∀ r n', Post r n' → ∃ n'', Post' r n'' ∧ ∀ p ∈ n'', p ∈ n') : Ctr w f args d u n2 Post' := by
  intro mean mg mb dp un gd cn cs a ccd cl outer A₀ base h₀ L m s Q E B F X N T hk hdp hun hret
  refine C mean mg mb dp un gd cn cs a ccd cl outer A₀ base h₀ L m s Q E B F X (fun p hp => N p (h p hp)) T hk hdp hun fun r n' h' tk' q F' N' => ?_
  obtain ⟨n'', q', hs⟩ := hp r n' q
  exact hret r n'' h' tk' q' F' (fun p hp => N' p (hs p hp))
theorem off1_mem {a : Nat} : ∀ {l : List (Addr × Obj)}, LCg.Off1 a l → ∀ p ∈ l, @Ne Nat p.1 a
  | [], _, _, hp => nomatch hp
  | q :: r, h, p, hp => by
    rcases List.mem_cons.mp hp with rfl | hp
    · exact h.1
    · exact off1_mem h.2 p hp
theorem off1_of {a : Nat} : ∀ {l : List (Addr × Obj)}, (∀ p ∈ l, @Ne Nat p.1 a) → LCg.Off1 a l
  | [], _ => trivial
  | _ :: _, h => ⟨h _ (.head _), off1_of fun p hp => h p (.tail _ hp)⟩
theorem on_any {w : World} {S T : Addr} {oT : Obj} {kvs : List (Int × Value)} {news : List (Addr × Obj)} {wv : Value} {known : List PySem.Str} (hTm : (T, oT) ∈ news) (sh : ShIn w S T news) (hT : oT.IsDictOf (intKind PySem.Challenge.rw_og0171_01.row.prog w) kvs) (loT : (T == sysModules) = false) (h : WD w kvs news wv known) :
    Ctr w 82 [.ref S, wv] 6 100 news (fun r news' => ∃ a vs n, r = .ref a ∧ news' = (a, listOf vs.toArray n) :: news ∧ StrsAre vs known ∧ LCg.Off1 a news) := by
  refine ctr_any (on_of sh hT loT h) (fun p hp => (List.mem_cons.mp hp).elim (fun e => e ▸ hTm) id) ?_
  rintro r _ ⟨a, vs, n, rfl, rfl, hS, o⟩
  exact ⟨_, ⟨a, vs, n, rfl, rfl, hS, o.2⟩, fun p hp => (List.mem_cons.mp hp).elim (fun e => e ▸ .head _) fun hp => .tail _ (.tail _ hp)⟩
theorem my_in {prog : Program} {w : World} {A : Around} {E : Value → Shared → Prop} {s : Shared} {h₀ : Heap} {L l : Addr} {news : List (Addr × Obj)} {vs : List Value} {ys : List PySem.Str} {n : Nat} {k : PySem.Str} {t : Tok} {Q : Value → Shared → Prop} (N : News h₀ L s.heap news) (hm : (l, listOf vs.toArray n) ∈ news) (hi : StrsAre vs ys) (h : Q (.bool (ys.any (· == k))) s) : wpAny (model prog w) A (compareOp .In (.str k t) (.ref l)) Q E s :=
  in_list_strs (PySem.IsL.isList (n := n) (N _ hm).1) hi h
theorem step_off1 {ss k : List PySem.Str} {lone : Bool} {st : PySem.Str} (h : k.any (· == st) = false) : (if k.any (· == st) && !(lone && ss.any (· == st)) then st else PySem.Str.ofString "Off") = PySem.Str.ofString "Off" := by simp only [h, Bool.false_and, Bool.false_eq_true, if_false]
theorem step_off2 {ss k : List PySem.Str} {lone : Bool} {st : PySem.Str} (hl : lone = true) (h : ss.any (· == st) = true) : (if k.any (· == st) && !(lone && ss.any (· == st)) then st else PySem.Str.ofString "Off") = PySem.Str.ofString "Off" := by simp only [h, hl, Bool.and_true, Bool.not_true, Bool.and_false, Bool.false_eq_true, if_false]
theorem step_on1 {ss k : List PySem.Str} {lone : Bool} {st : PySem.Str} (h : k.any (· == st) = true) (hl : lone = false) : (if k.any (· == st) && !(lone && ss.any (· == st)) then st else PySem.Str.ofString "Off") = st := by simp only [h, hl, Bool.false_and, Bool.not_false, Bool.and_true, if_true]
theorem step_on2 {ss k : List PySem.Str} {lone : Bool} {st : PySem.Str} (h : k.any (· == st) = true) (h2 : ss.any (· == st) = false) : (if k.any (· == st) && !(lone && ss.any (· == st)) then st else PySem.Str.ofString "Off") = st := by simp only [h, h2, Bool.and_false, Bool.not_false, Bool.and_true, if_true]
theorem lone_no {kind r : PySem.Str} {fl : Int} (h : (kind == r) = false) : (kind == r && !decide ((2:Int) ^ 25 ≤ fl)) = false := by rw [h]; rfl
theorem lone_no2 {kind r : PySem.Str} {fl : Int} (h : (2:Int) ^ 25 ≤ fl) : (kind == r && !decide ((2:Int) ^ 25 ≤ fl)) = false := by rw [decide_eq_true h]; simp
theorem lone_yes {kind r : PySem.Str} {fl : Int} (h : (kind == r) = true) (h2 : ¬ (2:Int) ^ 25 ≤ fl) : (kind == r && !decide ((2:Int) ^ 25 ≤ fl)) = true := by rw [h, decide_eq_false h2]; rfl
theorem shown_of {w : World} {S T leaf W : Addr} {oT : Obj} {kvs : List (Int × Value)} {tl : List (Addr × Obj)} {kind st : PySem.Str} {fl : Int} {tk : Tok} {ws : List Value} {nW : Nat} {ks : List (List PySem.Str)} (hTm : (T, oT) ∈ tl) (sh : ShIn w S T tl) (hT : oT.IsDictOf (intKind PySem.Challenge.rw_og0171_01.row.prog w) kvs) (loT : (T == sysModules) = false)
    (lf : LeafIn w leaf W kind fl tl) (h0 : 0 ≤ fl) (h1 : fl < 2 ^ 26) (hW : (W, listOf ws.toArray nW) ∈ tl) (hR : ∀ (i : Nat) v, ws[i]? = some v → ∃ k, ks[i]? = some k ∧ WD w kvs tl v k) (hlen : ws.length = ks.length) (h64 : ks.length ≤ 64) :
    Ctr w 89 [.ref S, .ref leaf, .str st tk] 12 200 tl (fun r news' => ∃ a vs n, r = .ref a ∧ news' = (a, listOf vs.toArray n) :: tl ∧ StrsAre vs (shown (kind == PySem.Str.ofString "radio" && !decide (2 ^ 25 ≤ fl)) st ks) ∧ ∀ p ∈ tl, @LT.lt Nat _ p.1 a) := by
  have hon := fun (news : List (Addr × Obj)) (v : Value) (k : List PySem.Str) (hs : ∀ p ∈ tl, p ∈ news) (hv : WD w kvs tl v k) => on_any (hs _ hTm) (sh.mono hs) hT loT (hv.mono Grows.rfl hs)
  have hhas := fun (news : List (Addr × Obj)) (tk : Tok) (hs : ∀ p ∈ tl, p ∈ news) => ctr_any (n2 := news) (Post' := fun r news' => r = .bool (decide (2 ^ 25 ≤ fl)) ∧ news' = news) (has_spec (tk := tk) (sh.mono hs) hT loT (by obtain ⟨dl, H, oH, v1, v2, v3, t1, t2, t3, t4, t5, t6, tk', tf, m1, m2, m3, i3, l3⟩ := lf; exact ⟨dl, H, oH, v1, v2, v3, t1, t2, t3, t4, t5, t6, tk', tf, hs _ m1, hs _ m2, hs _ m3, i3, l3⟩) h0 h1) (fun p hp => (List.mem_cons.mp hp).elim (fun e => e ▸ hs _ hTm) id) (fun r n' q => ⟨news, ⟨q.1, rfl⟩, fun p hp => by rw [q.2]; exact .tail _ hp⟩)
  obtain ⟨dl, H, oH, v1, v2, v3, t1, t2, t3, t4, t5, t6, tk', tf, m1, m2, m3, i3, l3⟩ := lf
  unfold Ctr
  k_fill
  w_top off
  k_with_none
  k_with "call9" => (
    (first | refine' ctr_use (hhas _ _ ?sb) ?k1 ?k2 ?k3 ?k4 ?k5 ?k6 ?k7 ?k8 ?_ | refine' ctr_use (hon _ _ _ ?sb r9) ?k1 ?k2 ?k3 ?k4 ?k5 ?k6 ?k7 ?k8 ?_)
    (case k1 => k_asm)
    (case k2 => k_asm)
    (case k3 => k_asm)
    (case k4 => k_asm)
    (case k5 => k_asm)
    (case k6 => first | exact rfl | assumption)
    (case k7 => ktr_room)
    (case k8 => ktr_units)
    (case sb => (intro p hp; simp only [List.mem_cons, List.mem_append]; simp only [hp, or_true, true_or]))
    (first | rintro r8 news8 h8 tk8 ⟨rfl, rfl⟩ F8 N8 | rintro r8 news8 h8 tk8 ⟨a8, vs8, n8, rfl, rfl, hS8, o8⟩ F8 N8)
    (try simp only [LCg.Off1] at o8)
    (try dsimp only)
    (try k_fold))
  k_with "iter9" => (
    (rename Fr _ _ _ _ => lF'); (rename News _ _ _ _ => lN')
    (with_unfolding_all refine' found_loop [PySem.Str.ofString "is_on"] ks (fun v k => WD w kvs tl v k) (shownStep (kind == PySem.Str.ofString "radio" && !decide ((2:Int) ^ 25 ≤ fl)) st) rfl hW lF' lN' hR hlen (shownStep_length _ _) ?_ ?_)
    all_goals first
      | (intro fs9 ss9 n9 v9 k9 u9 h9 tk9 own9 r9 hS9 hl9 hoff9 F9 N9
         clear lF' lN'
         (try simp only [List.cons_append] at N9)
         (try dsimp only)
         (try k_fold))
      | (intro fs9 n9 u9 h9 tk9 hS9 F9 N9
         clear lF' lN'
         (try dsimp only)
         (try k_fold)))
  k_with "ins9" => (
    (refine' my_in (by k_asm) (by k_mem) (by assumption) ?_))
  k_with "app9" => (
    (refine' my_append ?F ?N ?U ?z ?_)
    (case F => k_asm)
    (case N => k_asm)
    (case U => (refine Upd.tail (fun e => o8.1 e.symm) (Upd.head fun p hp => (List.mem_append.mp hp).elim (fun hp => off_lt (by assumption) (Nat.le_refl _) p hp) (fun hp => hoff9 p hp _ (.head _)))))
    (case z => (rw [hS9.length, sizeLine_eq]; omega))
    intro h' F' N')
  k_with "end9" => (
    (refine' InvEndN.intro ?F ?N ⟨_, _, rfl, ?S, ?z⟩ rfl ?n ?o)
    (case F => k_asm)
    (case N => k_asm)
    (case n => exact List.forall_mem_cons.mpr ⟨by k_mem, fun p hp => by simp only [List.mem_cons, List.mem_append, hp, or_true, true_or]⟩)
    (case o => exact fun p hp => by simp only [List.mem_cons, List.mem_append, hp, or_true])
    (case S => first
      | exact strs_step hS9 _ (step_off1 (by assumption))
      | exact strs_step hS9 _ (step_off2 (lone_yes (by assumption) (by assumption)) (by assumption))
      | exact strs_step hS9 _ (step_on1 (by assumption) (by first | exact lone_no (by assumption) | exact lone_no2 (by assumption)))
      | exact strs_step hS9 _ (step_on2 (by assumption) (by assumption)))
    (case z => (intro z h2 h3; simp only [List.contains_cons, List.contains_nil, Bool.or_false, beq_eq_false_iff_ne, ne_eq] at h3; simp [h2, h3])))
  intro mean mg mb dp un gd cn cs a ccd cl outer A₀ base h₀ L m s Q E B F X N TT hk hdp hun hret
  refine wpAny_call ?_
  k_dflt cell_enter
  k_steps
  all_goals ((rename Fr h₀ L _ m => FF); (rename News h₀ L _ _ => NN); (rename (∀ p ∈ tl, Prod.fst p < _) => AA); exact hret _ _ _ _ ⟨_, _, _, rfl, rfl, hS9, AA⟩ FF NN)
/-- a row: a list of texts of the ledger -/
def RowD (tl : List (Addr × Obj)) (v : Value) (k : List PySem.Str) : Prop := ∃ ka us nk, v = .ref ka ∧ (ka, listOf us.toArray nk) ∈ tl ∧ StrsAre us k
theorem due_of {w : World} {W : Addr} {tl : List (Addr × Obj)} {st : PySem.Str} {lone : Bool} {tk : Tok} {ws : List Value} {nW : Nat} {ks : List (List PySem.Str)} (hW : (W, listOf ws.toArray nW) ∈ tl) (hR : ∀ (i : Nat) v, ws[i]? = some v → ∃ k, ks[i]? = some k ∧ RowD tl v k) (hlen : ws.length = ks.length) (h64 : ks.length ≤ 64) :
    Ctr w 440 [.ref W, .str st tk, .bool lone] 6 100 tl (fun r news' => ∃ a vs n, r = .ref a ∧ news' = (a, listOf vs.toArray n) :: tl ∧ StrsAre vs (shown lone st ks) ∧ ∀ p ∈ tl, @LT.lt Nat _ p.1 a) := by
  unfold Ctr
  k_fill
  w_top off
  k_with_none
  k_with "for9" => (
    (rename Fr _ _ _ _ => lF')
    (with_unfolding_all refine' For_invVF lF' ?k1 ?k2 ?_; (case k1 => exact rfl); (case k2 => exact rfl); k_whole))
  k_with "iter9" => (
    (rename Fr _ _ _ _ => lF'); (rename News _ _ _ _ => lN')
    (with_unfolding_all refine' found_loop [] ks (fun v k => RowD tl v k) (shownStep lone st) rfl hW lF' lN' hR hlen (shownStep_length _ _) ?_ ?_)
    all_goals first
      | (rintro fs9 ss9 n9 _ k9 u9 h9 tk9 own9 ⟨ka9, us9, nk9, rfl, hm9, hk9⟩ hS9 hl9 hoff9 F9 N9
         clear lF' lN'
         (try simp only [List.cons_append] at N9)
         (try dsimp only)
         (try k_fold))
      | (intro fs9 n9 u9 h9 tk9 hS9 F9 N9
         clear lF' lN'
         (try dsimp only)
         (try k_fold)))
  k_with "ins9" => (
    (refine' my_in (by k_asm) (by k_mem) (by assumption) ?_))
  k_with "app9" => (
    (refine' my_append ?F ?N ?U ?z ?_)
    (case F => k_asm)
    (case N => k_asm)
    (case U => (refine Upd.head fun p hp => (List.mem_append.mp hp).elim (fun hp => off_lt (by assumption) (Nat.le_refl _) p hp) (fun hp => hoff9 p hp _ (.head _))))
    (case z => (rw [hS9.length, sizeLine_eq]; omega))
    intro h' F' N')
  k_with "end9" => (
    (refine' InvEndN.intro ?F ?N ⟨_, _, rfl, ?S, ?z⟩ rfl ?n ?o)
    (case F => k_asm)
    (case N => k_asm)
    (case n => exact List.forall_mem_cons.mpr ⟨by k_mem, fun p hp => by simp only [List.mem_cons, List.mem_append, hp, or_true, true_or]⟩)
    (case o => exact fun p hp => by simp only [List.mem_cons, List.mem_append, hp, or_true])
    (case S => first
      | exact strs_step hS9 _ (step_off1 (by assumption))
      | exact strs_step hS9 _ (step_off2 (by assumption) (by assumption))
      | exact strs_step hS9 _ (step_on1 (by assumption) (by assumption))
      | exact strs_step hS9 _ (step_on2 (by assumption) (by assumption)))
    (case z => (intro z h2 h3; simp only [List.contains_cons, List.contains_nil, Bool.or_false, beq_eq_false_iff_ne, ne_eq] at h3; simp [h2, h3])))
  intro mean mg mb dp un gd cn cs a ccd cl outer A₀ base h₀ L m s Q E B F X N TT hk hdp hun hret
  refine wpAny_call ?_
  k_dflt cell_enter
  k_steps
  all_goals ((rename Fr h₀ L _ m => FF); (rename News h₀ L _ _ => NN); (rename (∀ p ∈ tl, Prod.fst p < _) => AA); exact hret _ _ _ _ ⟨_, _, _, rfl, rfl, hS9, AA⟩ FF NN)
theorem allLt_all {c : Nat} : ∀ {l : List (Addr × Obj)}, AllLt c l → ∀ p ∈ l, @LT.lt Nat _ p.1 c
  | [], _, _, hp => nomatch hp
  | q :: r, h, p, hp => by
    rcases List.mem_cons.mp hp with rfl | hp
    · exact h.1
    · exact allLt_all h.2 p hp
theorem news_tl {h₀ h : Heap} {L : Addr} {x : Addr × Obj} {l : List (Addr × Obj)} (N : News h₀ L h (x :: l)) : News h₀ L h l := fun p hp => N p (.tail _ hp)
/-- the entries at address B and above -/
def newFrom (B : Nat) (l : List (Addr × Obj)) : List (Addr × Obj) := l.filter fun q => decide (@LE.le Nat _ B q.1)
theorem mem_new {B : Nat} {l : List (Addr × Obj)} {q : Addr × Obj} (h : q ∈ l) (hb : @LE.le Nat _ B q.1) : q ∈ newFrom B l := List.mem_filter.mpr ⟨h, decide_eq_true hb⟩
theorem of_new {B : Nat} {l : List (Addr × Obj)} {q : Addr × Obj} (h : q ∈ newFrom B l) : q ∈ l ∧ @LE.le Nat _ B q.1 := ⟨(List.mem_filter.mp h).1, of_decide_eq_true (List.mem_filter.mp h).2⟩
/-- what a call of _law_widget leaves: a pair (widget, known states) -/
def WPost (w : World) (P T : Addr) (n : Nat) (kvs : List (Int × Value)) (tl : List (Addr × Obj)) (r : Value) (vs' : List Value) (oT' : Obj) (rest : List (Addr × Obj)) : Prop :=
  ∃ (tp : Addr) (wv : Value) (ks : Addr) (us : List Value) (nk : Nat) (known : List PySem.Str) (ns' : List Int) (kvs' : List (Int × Value)) (n' nt B : Nat), r = .ref tp ∧ IntsAre vs' ns' ∧ ns'.length ≤ 63 ∧ oT'.IsDictOf (intKind PySem.Challenge.rw_og0171_01.row.prog w) kvs' ∧ KeysTo kvs' n' ∧ n' ≤ n + 3 ∧ Grows kvs kvs' ∧
    (tp, tupO #[wv, .ref ks] nt) ∈ newFrom B rest ∧ (ks, listOf us.toArray nk) ∈ newFrom B rest ∧ StrsAre us known ∧ (∀ x ∈ known, x ∈ theStates) ∧ WD w kvs' (newFrom B rest) wv known ∧ (∀ p ∈ tl, p ∈ rest) ∧ (∀ p ∈ tl, @LT.lt Nat _ p.1 B) ∧ @LT.lt Nat _ P B ∧ @LT.lt Nat _ T B ∧ (∀ q ∈ rest, q ∈ tl ∨ @LE.le Nat _ B q.1)
theorem wid_spec (w : World) (S P T : Addr) (oT : Obj) (kvs : List (Int × Value)) (n : Nat) (vs : List Value) (ns : List Int) (np : Nat) (tl : List (Addr × Obj)) (hi : IntsAre vs ns) (hl : ns.length ≤ 63) (sh : ShIn w S T tl) (hT : oT.IsDictOf (intKind PySem.Challenge.rw_og0171_01.row.prog w) kvs) (loT : (T == sysModules) = false) (kk : KeysTo kvs n) (n1 : n ≤ 800) (hPT : @Ne Nat T P) (offP : ∀ p ∈ tl, p.1 ≠ P) (offT : ∀ p ∈ tl, p.1 ≠ T) :
    Ctr w 433 [.ref P, .ref S] 8 200 ((P, listOf vs.toArray np) :: (T, oT) :: tl) (fun r news' => ∃ vs' np' oT' rest, news' = (P, listOf vs'.toArray np') :: (T, oT') :: rest ∧ WPost w P T n kvs tl r vs' oT' rest) := by
  have hadd := fun (tl' : List (Addr × Obj)) (oT : Obj) (kvs : List (Int × Value)) (n : Nat) (v : Value) (s : ∀ p ∈ tl, p ∈ tl') (hT : oT.IsDictOf (intKind PySem.Challenge.rw_og0171_01.row.prog w) kvs) (kk : KeysTo kvs n) (hn : n ≤ 900) (o : ∀ p ∈ tl', p.1 ≠ T) => add_of (v := v) (ShIn.mono sh s) hT loT kk hn o
  obtain ⟨dS, R, u1, u2, s1, s2⟩ := sh
  unfold Ctr
  k_fill
  w_top off
  k_with_none
  k_with "call9" => (
    (refine' ctr_use (take_spec w P _ _ _ _ _ _ ?hi ?hl ?a1 ?a2 ?sep) ?k1 ?k2 ?k3 ?k4 ?k5 ?k6 ?k7 ?k8 ?_)
    (case k4 => first | k_asm | exact rot1 (by k_asm) | exact rot2 (by k_asm) | exact rot3 (by k_asm) | exact rot4 (by k_asm) | exact rot5 (by k_asm) | exact rot6 (by k_asm) | exact rot7 (by k_asm))
    (case hi => assumption)
    (case hl => omega)
    (case a1 => decide)
    (case a2 => decide)
    (case sep => k_all)
    (case k1 => k_asm)
    (case k2 => k_asm)
    (case k3 => k_asm)
    (case k5 => k_asm)
    (case k6 => first | exact rfl | assumption)
    (case k7 => ktr_room)
    (case k8 => ktr_units)
    rintro r9 news9 h9 tk9 ⟨d9, td9, vs9, ns9, np9, rfl, d0, d1, hi9, hl9, rfl⟩ F9 N9
    (try dsimp only)
    (try k_fold))
  k_with "call9" => (
    (refine' ctr_use (hadd _ _ _ _ _ ?sb ?hT ?kk ?hn ?sep) ?k1 ?k2 ?k3 ?k4 ?k5 ?k6 ?k7 ?k8 ?_)
    (case k4 => first | k_asm | exact rot1 (by k_asm) | exact rot2 (by k_asm) | exact rot3 (by k_asm) | exact rot4 (by k_asm) | exact rot5 (by k_asm) | exact rot6 (by k_asm) | exact rot7 (by k_asm))
    (case sb => (intro p hp; simp only [List.mem_cons]; simp only [hp, or_true]))
    (case hT => assumption)
    (case kk => assumption)
    (case hn => omega)
    (case sep => k_all)
    (case k1 => k_asm)
    (case k2 => k_asm)
    (case k3 => k_asm)
    (case k5 => k_asm)
    (case k6 => first | exact rfl | assumption)
    (case k7 => ktr_room)
    (case k8 => ktr_units)
    rintro r9 news9 h9 tk9 ⟨ra9, dr9, tup9, oT9, kvs9, kn9, t1, t2, t3, t4, t5, n09, rfl, rfl, iT9, kk9, gr9, va9, la9, lb9, lc9⟩ F9 N9
    (try simp only [AllLt] at la9)
    (try dsimp only)
    (try k_fold))
  k_with "acomp9" => (
    refine comp_tupT (_F₀ := by k_asm) (by rfl) (by with_unfolding_all rfl) (by with_unfolding_all rfl) (by decide) (by rfl) (by decide) (by rfl) (by rfl) (by rfl) ?_)
  k_with "csrc9" => (
    (refine' srcT_pool rfl ?F ?N ?sz ?hi ?hl (fun i ys => StSt i ys) ⟨[], .nil, List.nil_sublist _⟩ ?_ ?_)
    (case F => k_asm)
    (case N => k_asm)
    (case sz => exact Nat.le_of_ble_eq_true rfl)
    (case hi => assumption)
    (case hl => omega)
    all_goals first
      | (rintro g9 ys9 vs9 ns9 np9 hi9 hl9 ⟨ss9, hS9, hsub9⟩
         have hsub8 : ss9.Sublist theStates := hsub9
         have hlen9 : ss9.length ≤ 4 := hsub8.length_le
         have hnd9 : ss9.Nodup := hsub8.nodup theStates_nodup
         have hys9 : ys9.length ≤ 4 := by rw [hS9.length]; exact hlen9
         unfold LCg.FinA
         intro D8 h8 tk8 F8 N8 o8
         simp only [LCg.Off1] at o8)
      | (intro g9 i9 ys9 v9 vs9 ns9 np9 I9 oI9 C9 oC9 D9 m9 h9 tk9 E9 hi9 hl9 hG9 hP9 hC9 hx9 F9 N9 off9 ne9
         have off8 := off9
         simp only [LCg.Off3] at off8
         obtain ⟨x9, t9, hxi9, rfl⟩ := strs_at (StrsAre.cons _ _ (.cons _ _ (.cons _ _ (.cons _ _ .nil)))) hP9))
  k_with "cend9" => (
    (refine' LCg.CompEnd.intro ?F (unrot4 ?N) _ (fun p hp => hp) ?off ⟨_, .head _⟩ ?r)
    (case F => k_asm)
    (case N => k_asm)
    (case off => exact off9)
    (case r => first | exact ⟨_, _, _, rfl, by assumption, by omega, StSt.yes hG9 hxi9 _⟩ | exact ⟨_, _, _, rfl, by assumption, by omega, StSt.no hG9⟩))
  k_with "comp9" => (
    (with_reducible show wpAny _ _ (eval (PySem.Expr.ListComp _ [⟨PySem.Expr.Name _ _, _, [_], 0⟩] _ _) _) _ _ _)
    (refine' LCt.ListComp_T (F₀ := by k_asm) ?a1 ?a2 ?a3 ?a4 ?a5 ?_)
    (case a1 => with_unfolding_all rfl)
    (case a2 => decide)
    (case a3 => rfl)
    (case a4 => decide)
    (case a5 => rfl))
  k_with "comp9" => (
    (with_reducible show wpAny _ _ (eval (PySem.Expr.ListComp _ [⟨PySem.Expr.Name _ _, _, [], 0⟩] _ _) _) _ _ _)
    (refine' LCg.ListComp_U (F₀ := by k_asm) ?a1 ?a2 ?a3 ?a4 ?a5 ?_)
    (case a1 => with_unfolding_all rfl)
    (case a2 => decide)
    (case a3 => rfl)
    (case a4 => decide)
    (case a5 => rfl))
  k_with "csrc9" => (
    (refine' srcU_pairs rfl ?F ?N ?m ?S ?sz ?_ ?_)
    (case F => k_asm)
    (case N => k_asm)
    (case m => k_mem)
    (case S => assumption)
    (case sz => rw [sizeLine_eq]; omega)
    all_goals first
      | (intro g9 ys8 ext8 kvs8 hp8
         unfold LCg.FinE
         intro D7 h7 tk7 F7 N7 o7)
      | (intro g9 ys8 x8 t8 ext8 I9 oI9 C9 oC9 D9 m9 h9 tk9 E9 hC9 hx9 F9 N9 off9 ne9))
  k_with "cend9" => (
    (refine' LCg.CompEnd.intro ?F (unrot3 ?N) _ (fun p hp => hp) ⟨⟨?o1, ?o2, ?o3⟩, off9⟩ (Or.inr ⟨_, List.Mem.tail _ (List.mem_append_right _ ?m), ?c1, _, ?c2⟩) ⟨_, _, _, _, rfl, rfl⟩)
    (case F => k_asm)
    (case N => k_asm)
    (case m => k_mem)
    (case c1 => rfl)
    (case c2 => rfl)
    (case o1 => omega)
    (case o2 => omega)
    (case o3 => omega))
  k_with "dict9" => (
    (refine' dict_of_pairs rfl ?F ?N (Top.nolimit (by k_asm)) hp8 hnd9 ?l ?_)
    (case F => k_asm)
    (case N => k_asm)
    (case l => omega)
    k_whole
    intro D6 h6 tk6 o6 F6 N6 l6 lo6 id6
    (k_lt l6)
    (try dsimp only)
    (try k_fold))
  k_with "csrc9" => (
    (refine' srcT_filter (fun x => !(x == PySem.Str.ofString "Off")) rfl ?F ?N ?m ?S ?sz ?_ ?_)
    (case F => k_asm)
    (case N => k_asm)
    (case m => k_mem)
    (case S => assumption)
    (case sz => rw [sizeLine_eq]; omega)
    all_goals first
      | (intro g9 ys5 hS5
         unfold LCg.FinE
         intro D5 h5 tk5 F5 N5 o5
         simp only [LCg.Off1] at o5)
      | (intro g9 ys5 x5 t5 I9 oI9 C9 oC9 D9 m9 h9 tk9 E9 hC9 hx9 F9 N9 off9 ne9))
  k_with "cend9" => (
    (refine' LCg.CompEnd.intro ?F ?N _ (fun p hp => hp) off9 (Or.inr ⟨_, ?m, ?c1, _, ?c2⟩) ?r)
    (case F => k_asm)
    (case N => k_asm)
    (case r => first | exact ⟨rfl, by assumption, _, rfl⟩ | exact ⟨rfl, by assumption⟩)
    (case m => k_mem)
    (case c1 => rfl)
    (case c2 => rfl))
  k_with "sorted9" => (
    (refine' sorted_list ?F ?N (.head _) hS5 ?l ?_)
    (case F => k_asm)
    (case N => k_asm)
    (case l => have := List.length_filter_le (fun x => !(x == PySem.Str.ofString "Off")) ss9; omega)
    intro D4 h4 vs4 ss4 n4 F4 N4 l4 hS4 hp4 hs4
    (k_lt l4)
    (try dsimp only)
    (try k_fold))
  k_with "item9" => (
    (with_reducible show wpAny _ _ (subscriptTail _ _ (Value.ref _) (Value.int d9 _)) _ _ _)
    (have hd3 : d9 < 3 := by assumption)
    (rcases (by omega : d9 = 0 ∨ d9 = 1 ∨ d9 = 2) with h9 | h9 | h9)
    all_goals subst h9)
  k_with "fd9" => (first
    | exact FD.none
    | exact FD.int _ _
    | exact FD.dict (mem_new (by k_mem) (by omega)) (by assumption)
    | ((refine' FD.ref ?fa ?fb ?fc ?fd ?fe ?ff); (case fa => exact mem_new (by k_mem) (by omega)); (case fb => exact mem_new (by k_mem) (by omega)); (case fc => first | assumption | exact (by assumption : Grows _ _) _ _ (by assumption)); (case fd => exact mem_new (by k_mem) (by omega)); (case fe => exact mem_new (by k_mem) (by omega)); (case ff => assumption)))
  intro mean mg mb dp un gd cn cs a ccd cl outer A₀ base h₀ L m s Q E B F X N TT hk hdp hun hret
  have fin9 : ∀ (r : Value) (vs' : List Value) (np' : Nat) (oT' : Obj) (rest : List (Addr × Obj)) (h' : Heap) (tk' : Nat), WPost w P T n kvs tl r vs' oT' rest → Fr h₀ L h' m → News h₀ L h' ((P, listOf vs'.toArray np') :: (T, oT') :: rest) → Q r { s with heap := h', toks := tk' } :=
    fun r vs' np' oT' rest h' tk' p F' N' => hret _ _ _ _ ⟨_, _, _, _, rfl, p⟩ F' N'
  refine wpAny_call ?_
  k_dflt cell_enter
  k_steps
  try any_goals (exfalso; (rename d9 = 4 => e4); (rename d9 = 3 => e3); rw [e4] at e3; exact absurd e3 (by decide))
  all_goals (
    (rename Fr h₀ L _ m => FF); (rename News h₀ L _ _ => NN); (rename @LT.lt Nat _ P _ ∧ @LT.lt Nat _ T _ ∧ AllLt _ tl => LL)
    first
    | (have Na : News h₀ L _ ((D5, _) :: _) := rot2 NN
       replace NN := news_tl Na
       clear Na)
    | skip
    first
    | (have Na : News h₀ L _ ((D8, _) :: _) := rot4 NN
       replace NN := news_tl Na
       clear Na)
    | (have Na : News h₀ L _ ((D8, _) :: _) := rot5 NN
       replace NN := news_tl Na
       clear Na)
    | (have Na : News h₀ L _ ((D8, _) :: _) := rot6 NN
       replace NN := news_tl Na
       clear Na)
    | (have Na : News h₀ L _ ((D8, _) :: _) := rot7 NN
       replace NN := news_tl Na
       clear Na)
    | (have Na : News h₀ L _ ((D8, _) :: _) := rot8 NN
       replace NN := news_tl Na
       clear Na)
    | (have Na : News h₀ L _ ((D8, _) :: _) := rot9 NN
       replace NN := news_tl Na
       clear Na)
    | (have Na : News h₀ L _ ((D8, _) :: _) := rot10 NN
       replace NN := news_tl Na
       clear Na)
    | (have Na : News h₀ L _ ((D8, _) :: _) := rot11 NN
       replace NN := news_tl Na
       clear Na)
    | (have Na : News h₀ L _ ((D8, _) :: _) := rot12 NN
       replace NN := news_tl Na
       clear Na)
    | (have Na : News h₀ L _ ((D8, _) :: _) := rot13 NN
       replace NN := news_tl Na
       clear Na)
    | (have Na : News h₀ L _ ((D8, _) :: _) := rot14 NN
       replace NN := news_tl Na
       clear Na)
    | (have Na : News h₀ L _ ((D8, _) :: _) := rot15 NN
       replace NN := news_tl Na
       clear Na)
    | skip
    first
    | (have N1 : News h₀ L _ ((T, _) :: _) := rot3 NN)
    | (have N1 : News h₀ L _ ((T, _) :: _) := rot4 NN)
    | (have N1 : News h₀ L _ ((T, _) :: _) := rot5 NN)
    | (have N1 : News h₀ L _ ((T, _) :: _) := rot6 NN)
    | (have N1 : News h₀ L _ ((T, _) :: _) := rot7 NN)
    | (have N1 : News h₀ L _ ((T, _) :: _) := rot8 NN)
    | (have N1 : News h₀ L _ ((T, _) :: _) := rot9 NN)
    first
    | (have N2 : News h₀ L _ ((P, _) :: _) := rot5 N1)
    | (have N2 : News h₀ L _ ((P, _) :: _) := rot6 N1)
    | (have N2 : News h₀ L _ ((P, _) :: _) := rot7 N1)
    | (have N2 : News h₀ L _ ((P, _) :: _) := rot8 N1)
    | (have N2 : News h₀ L _ ((P, _) :: _) := rot9 N1)
    | (have N2 : News h₀ L _ ((P, _) :: _) := rot10 N1)
    | (have N2 : News h₀ L _ ((P, _) :: _) := rot11 N1)
    | (have N2 : News h₀ L _ ((P, _) :: _) := rot12 N1)
    | (have N2 : News h₀ L _ ((P, _) :: _) := rot13 N1)
    | (have N2 : News h₀ L _ ((P, _) :: _) := rot14 N1)
    | (have N2 : News h₀ L _ ((P, _) :: _) := rot15 N1)
    | (have N2 : News h₀ L _ ((P, _) :: _) := rot16 N1)
    | (have N2 : News h₀ L _ ((P, _) :: _) := rot17 N1)
    | (have N2 : News h₀ L _ ((P, _) :: _) := rot18 N1)
    | (have N2 : News h₀ L _ ((P, _) :: _) := rot19 N1))
  all_goals (
    (refine' fin9 _ _ _ _ _ _ _ ⟨_, _, _, _, _, _, _, _, _, _, _, rfl, ?i1, ?i2, ?i3, ?i4, ?i5, ?i6, ?i7, ?i8, ?i9, ?i10, ?wd, ?sb, allLt_all LL.2.2, LL.1, LL.2.1, ?fr⟩ FF N2)
    (case i1 => assumption)
    (case i2 => omega)
    (case i3 => assumption)
    (case i4 => assumption)
    (case i5 => omega)
    (case i6 => first | assumption | exact Grows.trans (by assumption) (by assumption))
    (case i7 => exact mem_new (by k_mem) (by omega))
    (case i8 => exact mem_new (by k_mem) (by omega))
    (case i9 => first | assumption | exact .nil)
    (case i10 => first | exact (fun x hx => hsub8.subset (List.mem_filter.mp (hp4.subset hx)).1) | (intro x hx; cases hx))
    (case sb => (intro p hp; simp only [List.mem_cons]; simp only [hp, or_true]))
    (case wd =>
      (refine' WD.mk ?w0 ?w1 ?w2 ?w3 ?w4 ?w5)
      (case w0 => k_extra "fd9")
      (case w1 => exact mem_new (by k_mem) (by omega))
      (case w2 => assumption)
      (case w3 => assumption)
      (case w4 => k_extra "fd9")
      (case w5 => first
        | exact LD1.none
        | exact LD1.int _ _
        | ((refine' LD1.dict ?x1 ?x2 ?x3 ?x4 ?x5)
           (case x1 => exact mem_new (by k_mem) (by omega))
           (case x2 => assumption)
           (case x3 => assumption)
           (case x4 => k_extra "fd9")
           (case x5 => first
             | exact LD2.none
             | exact LD2.int _ _
             | ((refine' LD2.dict ?y1 ?y2 ?y3 ?y4 ?y5)
                (case y1 => exact mem_new (by k_mem) (by omega))
                (case y2 => assumption)
                (case y3 => assumption)
                (case y4 => (have e := congrArg List.length hp8.1; rw [List.length_map] at e; omega))
                (case y5 => exact ⟨by rw [hp8.1]; exact hp4, hs4⟩))))))
    (case fr => ((repeat (refine List.forall_mem_cons.mpr ⟨Or.inr (by omega), ?_⟩)); exact fun q hq => Or.inl hq)))
section
variable {prog : Program} {w : World} {A : Around} {E : Value → Shared → Prop} {s : Shared} {env : Env} {h₀ : Heap} {target : PySem.Expr} {body : List Stmt} {Q : Flow → Shared → Prop}
/-- a for over a tuple of the ledger that the body leaves alone: any target, an invariant -/
theorem turns_tup {ax : Addr} {its : Array Value} {k : Nat} {m₀ : PySem.Str → Option Value} {news : List (Addr × Obj)} (J : Nat → (PySem.Str → Option Value) → List (Addr × Obj) → Prop)
    (hh : A.handled = none) (hJl : ∀ i m nx, J i m nx → (ax, tupO its k) ∈ nx) (F : Fr h₀ env.locals s.heap m₀) (N : News h₀ env.locals s.heap news) (hj : J 0 m₀ news)
    (turn : ∀ i v m₁ news₁ h tk own, its[i]? = some v → news₁.map (·.1) = news.map (·.1) → OwnOff own (news.map (·.1)) → J i m₁ news₁ → Fr h₀ env.locals h m₁ → News h₀ env.locals h (news₁ ++ own) →
      wpAny (model prog w) A (assign target env v) (fun _ s₃ => wpAny (model prog w) A (execs body env) (InvPostN h₀ env.locals (J (i + 1)) own (news.map (·.1)) { s with heap := h, toks := tk } Q) E s₃) E { s with heap := h, toks := tk })
    (done : ∀ m₁ news₁ h tk, J its.size m₁ news₁ → Fr h₀ env.locals h m₁ → News h₀ env.locals h news₁ → Q .next { s with heap := h, toks := tk }) :
    wpAny (model prog w) A (pyIter (.ref ax)) (fun it s₂ => TurnsAt prog w A h₀ env target body Q E it s₂) E s := by
  have hl := hJl _ _ _ hj
  have hol : s.heap.get? ax = some (tupO its k) := (N _ hl).1
  have hls : s.heap.IsTuple ax its := ⟨_, hol, rfl, k, rfl⟩
  have hne : ax ≠ s.heap.objs.size := Nat.ne_of_lt (Heap.lt_size hol)
  refine wpAny_pyIter_tuple hls ?_
  refine ⟨_, _, _, its.size, _, _, _, m₀, news, (fun i m nx => nx.map (·.1) = news.map (·.1) ∧ J i m nx), rfl, KTurns.ofWalks (Walks.tuple hh s.heap.objs.size ax hne its) (fun i v s Q E st q => letGo_tupleiter st.1 q), ?_, ?_, ?_, ⟨⟨_, Heap.get?_push_size _ rfl, rfl, rfl⟩, hls.at fun o e => Heap.get?_push_of_some _ e⟩, F.push _, (fun p hp => ⟨Heap.get?_push_of_some _ (N p hp).1, (N p hp).2⟩), ⟨rfl, hj⟩, ?_, ?_⟩
  · intro hm
    rcases List.mem_cons.mp hm with e | hm
    · exact absurd F.ns.lt (e ▸ Nat.lt_irrefl _)
    · exact (N _ hl).2.1 ((List.mem_singleton.mp hm).symm)
  · intro b hb
    rw [List.mem_singleton.mp hb]
    exact next_is_new F
  · intro p hp hI
    exact absurd (Heap.lt_size (N p hp).1) ((List.mem_singleton.mp hI) ▸ Nat.lt_irrefl _)
  · rintro i v m₁ news₁ hh' tk' own hin hP ⟨hadr, hJ⟩ hoff hown hget hfp _ F₁ N₁
    have hl₁ := hJl _ _ _ hJ
    have hsep : OwnOff (own.filter fun p => decide (p.1 = s.heap.objs.size)) (news.map (·.1)) := by
      intro p hp b hb e
      obtain ⟨q, hq, rfl⟩ := List.mem_map.mp hb
      have h1 : p.1 = s.heap.objs.size := by simpa using (List.mem_filter.mp hp).2
      exact absurd (Heap.lt_size (N q hq).1) (by rw [← e, h1]; exact Nat.lt_irrefl _)
    have N₂ : News h₀ env.locals hh' (news₁ ++ own.filter fun p => decide (p.1 = s.heap.objs.size)) := fun p hp => N₁ p ((List.mem_append.mp hp).elim (fun h => List.mem_append.mpr (.inr h)) fun h => List.mem_append.mpr (.inl ((List.mem_filter.mp h).1)))
    have hlo : hh'.get? ax = some (tupO its k) := (N₁ _ (List.mem_append.mpr (.inr hl₁))).1
    refine wpAny_mono (turn i v m₁ news₁ hh' tk' _ hP hadr hsep hJ F₁ N₂) (fun _ s₃ q => wpAny_mono q (fun f s₂ p => ?_) fun _ _ e => e) fun _ _ e => e
    have fin : InvEndN h₀ env.locals (J (i + 1)) (own.filter fun p => decide (p.1 = s.heap.objs.size)) (news.map (·.1)) { s with heap := hh', toks := tk' } s₂ →
        LoopStepU h₀ env.locals [s.heap.objs.size] own (fun m nx => nx.map (·.1) = news.map (·.1) ∧ J (i + 1) m nx) { s with heap := hh', toks := tk' } .next s₂ := by
      rintro ⟨h', tk, m', news', nx, e, F', N', hn, ho, ha, hm⟩
      refine ⟨rfl, h', tk, m', nx, e, F', fun p hp => ?_, fun p hp => ?_, ha, hm⟩
      · rcases List.mem_append.mp hp with h | h
        · by_cases hI : p.1 = s.heap.objs.size
          · exact N' p (ho p (List.mem_filter.mpr ⟨h, by simpa using hI⟩))
          · have h1 : p.1 = ax := by
              rcases List.mem_cons.mp (hown p h) with h2 | h2
              · exact absurd h2 hI
              · exact List.mem_singleton.mp h2
            have h2 : hh'.get? p.1 = some p.2 := hget p h
            rw [h1, hlo] at h2
            have h3 : p = (ax, tupO its k) := Prod.ext h1 (Option.some.inj h2).symm
            rw [h3]
            exact N' _ (hn _ (hJl _ _ _ hm))
        · exact N' p (hn p h)
      · have h1 : p.1 ∈ nx.map (·.1) := List.mem_map.mpr ⟨p, hp, rfl⟩
        rw [ha] at h1
        obtain ⟨q, hq, e⟩ := List.mem_map.mp h1
        intro hI
        exact absurd (Heap.lt_size (N q hq).1) (by rw [e, List.mem_singleton.mp hI]; exact Nat.lt_irrefl _)
    cases f with
    | ret v => exact .ret p
    | brk => exact .brk p
    | next => exact .next (fin p)
    | cont => exact .cont (fin p)
  · rintro h' tk m' news' F' N' _ ⟨_, hJ⟩
    exact done m' news' h' tk hJ F' N'
/-- the same: one entry of the ledger turns (a cell), some names -/
theorem turns_cell {ax : Addr} {its : Array Value} {k : Nat} {m₀ : PySem.Str → Option Value} (Led : Obj → List (Addr × Obj)) (C : Obj → Prop) (c₀ : Obj) (stored : List PySem.Str) (Pv : Value → Prop)
    (hh : A.handled = none) (hJl : ∀ c, (ax, tupO its k) ∈ Led c) (F : Fr h₀ env.locals s.heap m₀) (N : News h₀ env.locals s.heap (Led c₀)) (hc : C c₀) (hv : ∀ (i : Nat) v, its[i]? = some v → Pv v)
    (turn : ∀ v c (u : PySem.Str → Option Value) h tk own, Pv v → OwnOff own ((Led c₀).map (·.1)) → C c → Fr h₀ env.locals h (fun z => if stored.contains z then u z else m₀ z) → News h₀ env.locals h (Led c ++ own) →
      wpAny (model prog w) A (assign target env v) (fun _ s₃ => wpAny (model prog w) A (execs body env) (InvPostN h₀ env.locals (fun m nx => ∃ c, nx = Led c ∧ C c ∧ ∀ z, stored.contains z = false → m z = m₀ z) own ((Led c₀).map (·.1)) { s with heap := h, toks := tk } Q) E s₃) E { s with heap := h, toks := tk })
    (done : ∀ c (u : PySem.Str → Option Value) h tk, C c → Fr h₀ env.locals h (fun z => if stored.contains z then u z else m₀ z) → News h₀ env.locals h (Led c) → Q .next { s with heap := h, toks := tk }) :
    wpAny (model prog w) A (pyIter (.ref ax)) (fun it s₂ => TurnsAt prog w A h₀ env target body Q E it s₂) E s := by
  have fr : ∀ {h : Heap} {m : PySem.Str → Option Value}, (∀ z, stored.contains z = false → m z = m₀ z) → Fr h₀ env.locals h m → Fr h₀ env.locals h (fun z => if stored.contains z then m z else m₀ z) := by
    intro h m hz F'
    have e : (fun z => if stored.contains z then m z else m₀ z) = m := by
      funext z
      by_cases q : stored.contains z = true
      · rw [if_pos q]
      · rw [if_neg q]
        exact (hz z (by simpa using q)).symm
    rw [e]
    exact F'
  refine turns_tup (its := its) (k := k) (fun _ m nx => ∃ c, nx = Led c ∧ C c ∧ ∀ z, stored.contains z = false → m z = m₀ z) hh ?_ F N ⟨c₀, rfl, hc, fun _ _ => rfl⟩ ?_ ?_
  · rintro i m nx ⟨c, rfl, _⟩
    exact hJl c
  · rintro i v m₁ nx h tk own hv' _ hoff ⟨c, rfl, h1, h2⟩ F₁ N₁
    exact turn v c m₁ h tk own (hv i v hv') hoff h1 (fr h2 F₁) N₁
  · rintro m₁ nx h tk ⟨c, rfl, h1, h2⟩ F₁ N₁
    exact done c m₁ h tk h1 (fr h2 F₁) N₁
end
section
variable {prog : Program} {w : World} {A : Around} {E : Value → Shared → Prop} {s : Shared} {env : Env} {h₀ : Heap} {target : PySem.Expr} {body : List Stmt} {Q : Flow → Shared → Prop}
theorem turns_cellU {ax cc : Addr} {its : Array Value} {k : Nat} {c₀ : Obj} {news : List (Addr × Obj)} {g : Obj → List (Addr × Obj)} {m₀ : PySem.Str → Option Value} (stored : List PySem.Str) (Pv : Value → Prop) (x : PySem.Str)
    (hh : A.handled = none) (_ : env.cells.lookup x = some cc) (U : UpdF cc c₀ news g) (hm : (ax, tupO its k) ∈ news) (hne : ax ≠ cc) (F : Fr h₀ env.locals s.heap m₀) (N : News h₀ env.locals s.heap news) (hc : ∃ v, c₀.data = .cell v) (hv : ∀ (i : Nat) v, its[i]? = some v → Pv v)
    (turn : ∀ v c cv (u : PySem.Str → Option Value) h tk own, Pv v → OwnOff own (news.map (·.1)) → c.data = .cell cv → Fr h₀ env.locals h (fun z => if stored.contains z then u z else m₀ z) → News h₀ env.locals h (g c ++ own) →
      wpAny (model prog w) A (assign target env v) (fun _ s₃ => wpAny (model prog w) A (execs body env) (InvPostN h₀ env.locals (fun m nx => ∃ c, nx = g c ∧ (∃ v, c.data = .cell v) ∧ ∀ z, stored.contains z = false → m z = m₀ z) own (news.map (·.1)) { s with heap := h, toks := tk } Q) E s₃) E { s with heap := h, toks := tk })
    (done : ∀ c cv (u : PySem.Str → Option Value) h tk, c.data = .cell cv → Fr h₀ env.locals h (fun z => if stored.contains z then u z else m₀ z) → News h₀ env.locals h (g c) → Q .next { s with heap := h, toks := tk }) :
    wpAny (model prog w) A (pyIter (.ref ax)) (fun it s₂ => TurnsAt prog w A h₀ env target body Q E it s₂) E s := by
  obtain ⟨pre, post, e1, e2, h1, h2⟩ := U.split
  have e3 : g c₀ = news := by rw [e1, e2]
  refine turns_cell (its := its) (k := k) g (fun c => ∃ v, c.data = .cell v) c₀ stored Pv hh (fun c => ?_) F (e3 ▸ N) hc hv ?_ ?_
  · rw [e2]
    rw [e1] at hm
    rcases List.mem_append.mp hm with h | h
    · exact List.mem_append_left _ h
    · rcases List.mem_cons.mp h with h | h
      · exact absurd (congrArg Prod.fst h) hne
      · exact List.mem_append_right _ (List.mem_cons_of_mem _ h)
  · rintro v c u h tk own hp hoff ⟨cv, hcv⟩ F' N'
    rw [e3] at hoff ⊢
    exact turn v c cv u h tk own hp hoff hcv F' N'
  · rintro c u h tk ⟨cv, hcv⟩ F' N'
    exact done c cv u h tk hcv F' N'
end
def mark (st : PySem.Str) (k : List PySem.Str) : PySem.Str := if k.any (· == st) then st else PySem.Str.ofString "Off"
theorem foldl_false (st : PySem.Str) : ∀ (ks : List (List PySem.Str)) (found : List PySem.Str), ks.foldl (shownStep false st) found = found ++ ks.map (mark st)
  | [], found => by simp
  | k :: r, found => by
    rw [List.foldl_cons, foldl_false st r]
    simp [shownStep, mark]
theorem shown_false (st : PySem.Str) (ks : List (List PySem.Str)) : shown false st ks = ks.map (mark st) := by
  unfold shown
  rw [foldl_false]
  rfl
theorem shown_one (lone : Bool) (st : PySem.Str) (k : List PySem.Str) : shown lone st [k] = [mark st k] := by
  unfold shown
  simp [shownStep, mark]
theorem shown_length (lone : Bool) (st : PySem.Str) : ∀ (ks : List (List PySem.Str)) (found : List PySem.Str), (ks.foldl (shownStep lone st) found).length = found.length + ks.length
  | [], _ => rfl
  | k :: r, found => by
    rw [List.foldl_cons, shown_length lone st r, shownStep_length, List.length_cons]
    omega
def notOff (x : PySem.Str) : Bool := !(x == PySem.Str.ofString "Off")
theorem lone_fold (st : PySem.Str) : ∀ (ks : List (List PySem.Str)) (found : List PySem.Str), (found.filter notOff).length ≤ 1 → ((found.filter notOff).length = 1 → found.any (· == st) = true) →
    ((ks.foldl (shownStep true st) found).filter notOff).length ≤ 1
  | [], _, h, _ => h
  | k :: r, found, h, h2 => by
    rw [List.foldl_cons]
    refine lone_fold st r _ ?_ ?_
    · unfold shownStep
      rw [List.filter_append, List.length_append]
      by_cases a : found.any (· == st) = true
      · rw [a]
        simp [notOff]
        simpa [notOff] using h
      · have h3 : (found.filter notOff).length = 0 := by
          rcases Nat.lt_or_ge (found.filter notOff).length 1 with q | q
          · omega
          · exact absurd (h2 (by omega)) a
        rw [h3]
        have h4 := List.length_filter_le notOff [if (k.any (· == st) && !(true && found.any (· == st))) = true then st else PySem.Str.ofString "Off"]
        simpa using h4
    · intro h5
      unfold shownStep at h5 ⊢
      rw [List.any_append]
      by_cases a : found.any (· == st) = true
      · rw [a]; rfl
      · have h3 : (found.filter notOff).length = 0 := by
          rcases Nat.lt_or_ge (found.filter notOff).length 1 with q | q
          · omega
          · exact absurd (h2 (by omega)) a
        rw [List.filter_append, List.length_append, h3] at h5
        have a' : found.any (· == st) = false := by cases q : found.any (· == st) with | true => exact absurd q a | false => rfl
        rw [a'] at h5 ⊢
        cases hk : k.any (· == st) with
        | true => simp
        | false => rw [hk] at h5; simp [notOff] at h5
theorem lone_filter (st : PySem.Str) (ks : List (List PySem.Str)) : ((shown true st ks).filter notOff).length ≤ 1 := lone_fold st ks [] (by simp) (by simp)
theorem foldl_mem {p : PySem.Str → Prop} (lone : Bool) (st : PySem.Str) (h1 : p st) (h2 : p (PySem.Str.ofString "Off")) : ∀ (ks : List (List PySem.Str)) (found : List PySem.Str), (∀ x ∈ found, p x) → ∀ x ∈ ks.foldl (shownStep lone st) found, p x
  | [], _, h => h
  | k :: r, found, h => by
    rw [List.foldl_cons]
    refine foldl_mem lone st h1 h2 r _ fun x hx => ?_
    unfold shownStep at hx
    rcases List.mem_append.mp hx with hx | hx
    · exact h x hx
    · rw [List.mem_singleton.mp hx]
      split
      · exact h1
      · exact h2
theorem shown_ok {lone : Bool} {st : PySem.Str} {ks : List (List PySem.Str)} (h : PyData.strOk st = true) : ∀ x ∈ shown lone st ks, PyData.strOk x = true := foldl_mem lone st h (by decide +kernel) ks [] (fun _ hx => nomatch hx)

theorem eqv_strs : ∀ ss : List PySem.Str, PyData.eqvAll (ss.map PyData.str) (ss.map PyData.str) = true
  | [] => by simp [PyData.eqvAll]
  | x :: r => by simp [PyData.eqvAll, PyData.eqv, eqv_strs r]
def rowP (ss : List PySem.Str) : PyData := .list (ss.map PyData.str)
theorem eqv_rows : ∀ ks : List (List PySem.Str), PyData.eqvAll (ks.map rowP) (ks.map rowP) = true
  | [] => by simp [PyData.eqvAll]
  | x :: r => by simp [PyData.eqvAll, PyData.eqv, rowP, eqv_strs, eqv_rows r]
theorem lay_strs : ∀ {ss : List PySem.Str}, (∀ x ∈ ss, PyData.strOk x = true) → PyData.canLayAll0 (ss.map PyData.str) = true
  | [], _ => by simp [PyData.canLayAll0]
  | x :: r, h => by simp [PyData.canLayAll0, PyData.canLay0, h x (.head _), lay_strs fun y hy => h y (.tail _ hy)]
theorem depth_strs : ∀ ss : List PySem.Str, PyData.depthAll (ss.map PyData.str) = 0
  | [] => by simp [PyData.depthAll]
  | x :: r => by simp [PyData.depthAll, PyData.depth, depth_strs r]
theorem lay_rows : ∀ {ks : List (List PySem.Str)}, (∀ k ∈ ks, ∀ x ∈ k, PyData.strOk x = true) → PyData.canLayAll0 (ks.map rowP) = true
  | [], _ => by simp [PyData.canLayAll0]
  | x :: r, h => by simp [PyData.canLayAll0, PyData.canLay0, rowP, lay_strs (h x (.head _)), lay_rows fun y hy => h y (.tail _ hy)]
theorem depth_rows : ∀ ks : List (List PySem.Str), PyData.depthAll (ks.map rowP) ≤ 1
  | [] => by simp [PyData.depthAll]
  | x :: r => by
    have h := depth_rows r
    simp only [List.map_cons, PyData.depthAll, PyData.depth, rowP, depth_strs]
    omega
theorem shaped_strs {ss : List PySem.Str} (h : ∀ x ∈ ss, PyData.strOk x = true) : SeqAt.shaped (.list (ss.map PyData.str)) = true := by
  unfold SeqAt.shaped
  simp [PyData.canLay0, PyData.depth, lay_strs h, depth_strs]
theorem shaped_rows {ks : List (List PySem.Str)} (h : ∀ k ∈ ks, ∀ x ∈ k, PyData.strOk x = true) : SeqAt.shaped (.list (ks.map rowP)) = true := by
  unfold SeqAt.shaped
  have := depth_rows ks
  simp only [PyData.canLay0, PyData.depth, lay_rows h, Bool.true_and]
  exact decide_eq_true (by omega)
section
variable {prog : Program} {w : World} {A : Around} {E : Value → Shared → Prop} {s : Shared} {h₀ : Heap} {L a b : Addr} {news : List (Addr × Obj)} {vs us : List Value} {n k : Nat} {Q : Value → Shared → Prop}
theorem ne_strs {ss ts : List PySem.Str} (N : News h₀ L s.heap news) (m1 : (a, listOf vs.toArray n) ∈ news) (m2 : (b, listOf us.toArray k) ∈ news) (S1 : StrsAre vs ss) (S2 : StrsAre us ts) (e : ss = ts) (ok : ∀ x ∈ ss, PyData.strOk x = true) (hu : A.units + 64 < cLine) (h : Q (.bool false) s) :
    wpAny (model prog w) A (compareOp .NotEq (.ref a) (.ref b)) Q E s := by
  subst e
  refine ne_dataH (reads_list_at (N _ m1).1 rfl rfl (by simpa using strs_readAll s.heap S1)) (reads_list_at (N _ m2).1 rfl rfl (by simpa using strs_readAll s.heap S2)) (shaped_strs ok) (shaped_strs ok) hu ?_
  simp only [PyData.eqv, eqv_strs, Bool.not_true]
  exact h
theorem eq_strs {ss ts : List PySem.Str} (N : News h₀ L s.heap news) (m1 : (a, listOf vs.toArray n) ∈ news) (m2 : (b, listOf us.toArray k) ∈ news) (S1 : StrsAre vs ss) (S2 : StrsAre us ts) (e : ss = ts) (ok : ∀ x ∈ ss, PyData.strOk x = true) (hu : A.units + 64 < cLine) (h : Q (.bool true) s) :
    wpAny (model prog w) A (compareOp .Eq (.ref a) (.ref b)) Q E s := by
  subst e
  refine eq_dataH (reads_list_at (N _ m1).1 rfl rfl (by simpa using strs_readAll s.heap S1)) (reads_list_at (N _ m2).1 rfl rfl (by simpa using strs_readAll s.heap S2)) (shaped_strs ok) (shaped_strs ok) hu ?_
  simp only [PyData.eqv, eqv_strs]
  exact h
theorem rows_readAll {h : Heap} (N : News h₀ L h news) : ∀ (vs : List Value) (ks : List (List PySem.Str)), vs.length = ks.length → (∀ (i : Nat) v, vs[i]? = some v → ∃ k, ks[i]? = some k ∧ RowD news v k) → ∃ as, ReadsAll h vs (ks.map rowP) as
  | [], [], _, _ => ⟨_, .nil⟩
  | [], _ :: _, e, _ => by simp at e
  | _ :: _, [], e, _ => by simp at e
  | v :: r, k :: q, e, hR => by
    obtain ⟨k', e1, ka, us, nk, rfl, hm, hS⟩ := hR 0 v rfl
    simp at e1
    subst e1
    obtain ⟨as, ih⟩ := rows_readAll N r q (by simpa using e) fun i u hu => hR (i + 1) u (by simpa using hu)
    exact ⟨_, .cons (reads_list_at (N _ hm).1 rfl rfl (by simpa using strs_readAll h hS)) ih⟩
theorem ne_rows {ks : List (List PySem.Str)} (N : News h₀ L s.heap news) (m1 : (a, listOf vs.toArray n) ∈ news) (m2 : (b, listOf us.toArray k) ∈ news) (l1 : vs.length = ks.length) (S1 : ∀ (i : Nat) v, vs[i]? = some v → ∃ k, ks[i]? = some k ∧ RowD news v k) (l2 : us.length = ks.length) (S2 : ∀ (i : Nat) v, us[i]? = some v → ∃ k, ks[i]? = some k ∧ RowD news v k) (ok : ∀ k ∈ ks, ∀ x ∈ k, PyData.strOk x = true) (hu : A.units + 64 < cLine) (h : Q (.bool false) s) :
    wpAny (model prog w) A (compareOp .NotEq (.ref a) (.ref b)) Q E s := by
  obtain ⟨as, r1⟩ := rows_readAll N vs ks l1 S1
  obtain ⟨bs, r2⟩ := rows_readAll N us ks l2 S2
  refine ne_dataH (reads_list_at (N _ m1).1 rfl rfl (by simpa using r1)) (reads_list_at (N _ m2).1 rfl rfl (by simpa using r2)) (shaped_rows ok) (shaped_rows ok) hu ?_
  simp only [PyData.eqv, eqv_rows, Bool.not_true]
  exact h
end
section
open LCg LCt
variable {prog : Program} {w : World} {A : Around} {E : Value → Shared → Prop} {s : Shared} {h₀ : Heap} {L : Addr} {m : PySem.Str → Option Value} {env : Env}
/-- [f(x) for x in items]: each item's word goes over, the ledger stays -/
theorem srcU_map {K : Type} {Rin Rout : Value → K → Prop} {elt : PySem.Expr} {x : PySem.Str} {scope : Scope} {cl : List (PySem.Str × Addr)} {Fin : Shared → List Value → List (Addr × Obj) → Prop} {ax : Addr} {vs : List Value} {ks : List K} {k : Nat} {base : List (Addr × Obj)}
    (hh : A.handled = none) (F : Fr h₀ L s.heap m) (N : News h₀ L s.heap base) (hm : (ax, listOf vs.toArray k) ∈ base) (hR : ∀ (i : Nat) v, vs[i]? = some v → ∃ k, ks[i]? = some k ∧ Rin v k) (hlen : vs.length = ks.length) (hsz : vs.length ≤ sizeLine)
    (fin : ∀ (g : Heap) ys, ys.length = ks.length → (∀ (i : Nat) v, ys[i]? = some v → ∃ k, ks[i]? = some k ∧ Rout v k) → Fin { s with heap := g } ys base)
    (turn : ∀ (g : Heap) ys v k I oI C oC D m₂ h tk (E' : Value → Shared → Prop), Rin v k → NsObj oC m₂ → m₂ x = some v → Fr h₀ L h m → News h₀ L h ((I, oI) :: (C, oC) :: (D, lst ys) :: base) → Off3 I C D base → ((@Ne Nat I C) ∧ (@Ne Nat I D) ∧ (@Ne Nat C D)) →
      wpAny (model prog w) A (eval elt (compEnvC scope cl C env)) (CompEnd h₀ L m { s with heap := h, toks := tk } I oI C oC D (lst ys) (SrcAt h₀ ax vs.toArray) (fun y news' => news' = base ∧ Rout y k)) E' { s with heap := h, toks := tk }) :
    CompSrc prog w A h₀ L m env elt x scope cl Fin (.ref ax) s := by
  refine CompSrc.ledger hh F N hm (by simpa using hsz) fun g => ?_
  refine rest_ind (s := { s with heap := g }) (fun i ys news => news = base ∧ ys.length = i ∧ ∀ (j : Nat) v, ys[j]? = some v → ∃ k, ks[j]? = some k ∧ Rout v k) _ ?_ ?_ _ 0 [] _ (Nat.zero_add _) ⟨rfl, rfl, fun j u h1 => by simp at h1⟩
  · rintro ys _ ⟨rfl, a, b⟩
    rw [List.size_toArray, hlen] at a
    exact fin g ys a b
  · rintro i ys _ v I oI C oC D m₂ h tk E' ⟨rfl, a, b⟩ e1 e2 e3 F' N' off ne
    obtain ⟨k', hk, r⟩ := hR i v (by simpa using e1)
    refine wpAny_mono (turn g ys v k' I oI C oC D m₂ h tk E' r e2 e3 F' N' off ne) (fun y s₂ z => cend_mono z fun news' z => ?_) fun _ _ q => q
    obtain ⟨rfl, ro⟩ := z
    refine ⟨rfl, by simp [a], fun j u h1 => ?_⟩
    rw [List.getElem?_append] at h1
    by_cases hj : j < ys.length
    · rw [if_pos hj] at h1
      exact b j u h1
    · rw [if_neg hj] at h1
      have e : j - ys.length = 0 := by
        rcases Nat.eq_zero_or_pos (j - ys.length) with h | h
        · exact h
        · rw [List.getElem?_eq_none (by simp; omega)] at h1; cases h1
      rw [e] at h1
      simp at h1
      subst h1
      have e2 : j = i := by omega
      subst e2
      exact ⟨k', hk, ro⟩
/-- the same, each item leaving one entry in the ledger -/
theorem srcU_grow {K : Type} {Rin : Value → K → Prop} {Rout : List (Addr × Obj) → Value → K → Prop} (mono : ∀ {l l' : List (Addr × Obj)} {v : Value} {k : K}, (∀ p ∈ l, p ∈ l') → Rout l v k → Rout l' v k) {elt : PySem.Expr} {x : PySem.Str} {scope : Scope} {cl : List (PySem.Str × Addr)} {Fin : Shared → List Value → List (Addr × Obj) → Prop} {ax : Addr} {vs : List Value} {ks : List K} {k : Nat} {base : List (Addr × Obj)}
    (hh : A.handled = none) (F : Fr h₀ L s.heap m) (N : News h₀ L s.heap base) (hm : (ax, listOf vs.toArray k) ∈ base) (hR : ∀ (i : Nat) v, vs[i]? = some v → ∃ k, ks[i]? = some k ∧ Rin v k) (hlen : vs.length = ks.length) (hsz : vs.length ≤ sizeLine)
    (fin : ∀ (g : Heap) ys ext, ys.length = ks.length → (∀ (i : Nat) v, ys[i]? = some v → ∃ k, ks[i]? = some k ∧ Rout ext v k) → Fin { s with heap := g } ys (base ++ ext))
    (turn : ∀ (g : Heap) ys ext v k I oI C oC D m₂ h tk (E' : Value → Shared → Prop), Rin v k → NsObj oC m₂ → m₂ x = some v → Fr h₀ L h m → News h₀ L h ((I, oI) :: (C, oC) :: (D, lst ys) :: (base ++ ext)) → Off3 I C D (base ++ ext) → ((@Ne Nat I C) ∧ (@Ne Nat I D) ∧ (@Ne Nat C D)) →
      wpAny (model prog w) A (eval elt (compEnvC scope cl C env)) (CompEnd h₀ L m { s with heap := h, toks := tk } I oI C oC D (lst ys) (SrcAt h₀ ax vs.toArray) (fun y news' => ∃ p, news' = base ++ (p :: ext) ∧ Rout (p :: ext) y k)) E' { s with heap := h, toks := tk }) :
    CompSrc prog w A h₀ L m env elt x scope cl Fin (.ref ax) s := by
  refine CompSrc.ledger hh F N hm (by simpa using hsz) fun g => ?_
  refine rest_ind (s := { s with heap := g }) (fun i ys news => ∃ ext, news = base ++ ext ∧ ys.length = i ∧ ∀ (j : Nat) v, ys[j]? = some v → ∃ k, ks[j]? = some k ∧ Rout ext v k) _ ?_ ?_ _ 0 [] _ (Nat.zero_add _) ⟨[], by simp, rfl, fun j u h1 => by simp at h1⟩
  · rintro ys _ ⟨ext, rfl, a, b⟩
    rw [List.size_toArray, hlen] at a
    exact fin g ys ext a b
  · rintro i ys _ v I oI C oC D m₂ h tk E' ⟨ext, rfl, a, b⟩ e1 e2 e3 F' N' off ne
    obtain ⟨k', hk, r⟩ := hR i v (by simpa using e1)
    refine wpAny_mono (turn g ys ext v k' I oI C oC D m₂ h tk E' r e2 e3 F' N' off ne) (fun y s₂ z => cend_mono z fun news' z => ?_) fun _ _ q => q
    obtain ⟨p, rfl, ro⟩ := z
    refine ⟨p :: ext, rfl, by simp [a], fun j u h1 => ?_⟩
    rw [List.getElem?_append] at h1
    by_cases hj : j < ys.length
    · rw [if_pos hj] at h1
      obtain ⟨k'', h2, h3⟩ := b j u h1
      exact ⟨k'', h2, mono (fun q hq => .tail _ hq) h3⟩
    · rw [if_neg hj] at h1
      have e : j - ys.length = 0 := by
        rcases Nat.eq_zero_or_pos (j - ys.length) with h | h
        · exact h
        · rw [List.getElem?_eq_none (by simp; omega)] at h1; cases h1
      rw [e] at h1
      simp at h1
      subst h1
      have e2 : j = i := by omega
      subst e2
      exact ⟨k', hk, ro⟩
end
theorem RowD.mono {l l' : List (Addr × Obj)} {v : Value} {k : List PySem.Str} (h : ∀ p ∈ l, p ∈ l') (r : RowD l v k) : RowD l' v k := by
  obtain ⟨ka, us, nk, e, hm, hS⟩ := r
  exact ⟨ka, us, nk, e, h _ hm, hS⟩
theorem strs_of_marks {ys : List Value} {ks : List (List PySem.Str)} {f : List PySem.Str → PySem.Str} (hl : ys.length = ks.length) (h : ∀ (i : Nat) v, ys[i]? = some v → ∃ k, ks[i]? = some k ∧ ∃ t, v = .str (f k) t) : StrsAre ys (ks.map f) :=
  strsAre_of (by simp [hl]) fun j v hj => by
    obtain ⟨k, hk, t, e⟩ := h j v hj
    exact ⟨f k, t, by simp [hk], e⟩
/-- an item of the law's drawn: a pair (widget, its known states) -/
def PairD (w : World) (kvs : List (Int × Value)) (l : List (Addr × Obj)) (v : Value) (k : List PySem.Str) : Prop :=
  ∃ tp wv ka us nk nt, v = .ref tp ∧ (tp, tupO #[wv, .ref ka] nt) ∈ l ∧ (ka, listOf us.toArray nk) ∈ l ∧ StrsAre us k ∧ WD w kvs l wv k ∧ ∀ x ∈ k, x ∈ theStates
theorem PairD.mono {w : World} {kvs kvs' : List (Int × Value)} {l l' : List (Addr × Obj)} {v : Value} {k : List PySem.Str} (h : PairD w kvs l v k) (g : Grows kvs kvs') (hs : ∀ p ∈ l, p ∈ l') : PairD w kvs' l' v k := by
  obtain ⟨tp, wv, ka, us, nk, nt, e, h1, h2, h3, h4, h5⟩ := h
  exact ⟨tp, wv, ka, us, nk, nt, e, hs _ h1, hs _ h2, h3, h4.mono g hs, h5⟩
/-- what stands between two turns of the drawing -/
def DInv (w : World) (P T : Addr) (base : List (Addr × Obj)) (i : Nat) (ys : List Value) (news : List (Addr × Obj)) : Prop :=
  ∃ (vs : List Value) (ns : List Int) (np : Nat) (oT : Obj) (kvs : List (Int × Value)) (nT : Nat) (ext : List (Addr × Obj)) (ks : List (List PySem.Str)), news = (P, listOf vs.toArray np) :: (T, oT) :: (base ++ ext) ∧ IntsAre vs ns ∧ ns.length ≤ 63 ∧ oT.IsDictOf (intKind PySem.Challenge.rw_og0171_01.row.prog w) kvs ∧ KeysTo kvs nT ∧ nT ≤ 3 * i ∧
    OwnOff ext (P :: T :: base.map (·.1)) ∧ ks.length = i ∧ ys.length = i ∧ ∀ (j : Nat) v, ys[j]? = some v → ∃ k, ks[j]? = some k ∧ PairD w kvs ext v k
theorem off3_of {I C D : Addr} {l : List (Addr × Obj)} (h : ∀ p ∈ l, (@Ne Nat p.1 I) ∧ (@Ne Nat p.1 C) ∧ (@Ne Nat p.1 D)) : LCg.Off3 I C D l := LCg.Off3.of h
theorem drawn_next {w : World} {P T : Addr} {base ext : List (Addr × Obj)} {i : Nat} {ys : List Value} {ks : List (List PySem.Str)} {kvs : List (Int × Value)} {nT : Nat} {h₀ h9 : Heap} {L I C D : Addr} {m : PySem.Str → Option Value} {s₁ : Shared} {tk9 : Nat} {oI oC oD oT oT' oP : Obj} {r : Value} {vs' : List Value} {np' : Nat} {rest9 : List (Addr × Obj)}
    (hx : OwnOff ext (P :: T :: base.map (·.1))) (hn : nT ≤ 3 * i) (hk : ks.length = i) (hy : ys.length = i) (hR : ∀ (j : Nat) v, ys[j]? = some v → ∃ k, ks[j]? = some k ∧ PairD w kvs ext v k)
    (off : LCg.Off3 I C D ((P, oP) :: (T, oT) :: (base ++ ext))) (F : Fr h₀ L h9 m) (N : News h₀ L h9 ((P, listOf vs'.toArray np') :: (T, oT') :: rest9))
    (wp : WPost w P T nT kvs ((I, oI) :: (C, oC) :: (D, oD) :: (base ++ ext)) r vs' oT' rest9) :
    LCg.CompEnd h₀ L m s₁ I oI C oC D oD (fun _ => True) (fun y news' => DInv w P T base (i + 1) (ys ++ [y]) news') r { s₁ with heap := h9, toks := tk9 } := by
  obtain ⟨tp, wv, ka, us, nk, known, ns', kvs', n', nt, B, rfl, hi, hl, hT, kk, hn', gr, m1, m2, hS, hst, hwd, hsub, hlt, hPB, hTB, _⟩ := wp
  have hB : ∀ q ∈ newFrom B rest9, @LE.le Nat _ B q.1 := fun q hq => (of_new hq).2
  have hI := hlt (I, oI) (.head _)
  have hC := hlt (C, oC) (.tail _ (.head _))
  have hD := hlt (D, oD) (.tail _ (.tail _ (.head _)))
  dsimp only at hI hC hD
  have off' := off.mem
  refine LCg.CompEnd.intro F N ((P, listOf vs'.toArray np') :: (T, oT') :: (base ++ (newFrom B rest9 ++ ext))) (fun p hp => ?_) (LCg.Off3.of fun p hp => ?_) trivial ⟨vs', ns', np', oT', kvs', n', newFrom B rest9 ++ ext, ks ++ [known], rfl, hi, hl, hT, kk, by omega, fun p hp b hb => ?_, by simp [hk], by simp [hy], fun j u h1 => ?_⟩
  · have sub : ∀ q ∈ (I, oI) :: (C, oC) :: (D, oD) :: (base ++ ext), q ∈ (P, listOf vs'.toArray np') :: (T, oT') :: rest9 := fun q hq => .tail _ (.tail _ (hsub q hq))
    simp only [List.mem_cons, List.mem_append] at hp
    rcases hp with rfl | rfl | rfl | rfl | rfl | hp | hp | hp
    · exact sub _ (.head _)
    · exact sub _ (.tail _ (.head _))
    · exact sub _ (.tail _ (.tail _ (.head _)))
    · exact .head _
    · exact .tail _ (.head _)
    · exact sub _ (.tail _ (.tail _ (.tail _ (List.mem_append_left _ hp))))
    · exact .tail _ (.tail _ (of_new hp).1)
    · exact sub _ (.tail _ (.tail _ (.tail _ (List.mem_append_right _ hp))))
  · simp only [List.mem_cons, List.mem_append] at hp
    rcases hp with rfl | rfl | hp | hp | hp
    · exact off' (P, oP) (.head _)
    · exact off' (T, oT) (.tail _ (.head _))
    · exact off' p (.tail _ (.tail _ (List.mem_append_left _ hp)))
    · have := hB p hp
      exact ⟨Nat.ne_of_gt (Nat.lt_of_lt_of_le hI this), Nat.ne_of_gt (Nat.lt_of_lt_of_le hC this), Nat.ne_of_gt (Nat.lt_of_lt_of_le hD this)⟩
    · exact off' p (.tail _ (.tail _ (List.mem_append_right _ hp)))
  · rcases List.mem_append.mp hp with hp | hp
    · have h2 := hB p hp
      have h3 : @LT.lt Nat _ b B := by
        rcases List.mem_cons.mp hb with rfl | hb
        · exact hPB
        · rcases List.mem_cons.mp hb with rfl | hb
          · exact hTB
          · obtain ⟨q, hq, rfl⟩ := List.mem_map.mp hb
            exact hlt q (.tail _ (.tail _ (.tail _ (List.mem_append_left _ hq))))
      exact Nat.ne_of_gt (Nat.lt_of_lt_of_le h3 h2)
    · exact hx p hp b hb
  · rw [List.getElem?_append] at h1
    by_cases hj : j < ys.length
    · rw [if_pos hj] at h1
      obtain ⟨k, h2, h3⟩ := hR j u h1
      refine ⟨k, ?_, h3.mono gr fun q hq => List.mem_append_right _ hq⟩
      rw [List.getElem?_append, if_pos (by omega)]
      exact h2
    · rw [if_neg hj] at h1
      have e : j - ys.length = 0 := by
        rcases Nat.eq_zero_or_pos (j - ys.length) with h | h
        · exact h
        · rw [List.getElem?_eq_none (by simp; omega)] at h1; cases h1
      rw [e] at h1
      simp at h1
      subst h1
      refine ⟨known, ?_, tp, wv, ka, us, nk, nt, rfl, List.mem_append_left _ m1, List.mem_append_left _ m2, hS, hwd.mono Grows.rfl fun q hq => List.mem_append_left _ hq, hst⟩
      rw [List.getElem?_append, if_neg (by omega), show j - ks.length = 0 by omega]
      rfl
section
open LCg LCt
variable {prog : Program} {A : Around} {s : Shared} {h₀ : Heap} {L : Addr} {m : PySem.Str → Option Value} {env : Env}
theorem rest_indN {w : World} {elt : PySem.Expr} {x : PySem.Str} {scope : Scope} {cl : List (PySem.Str × Addr)} {S : List (Addr × Obj) → Prop} {P : Nat → Value → Prop} {Fin : List Value → List (Addr × Obj) → Prop} (J : Nat → List Value → List (Addr × Obj) → Prop) (n : Nat)
    (fin : ∀ ys news, J n ys news → Fin ys news)
    (turn : ∀ i ys news v I oI C oC D m₂ h tk (E' : Value → Shared → Prop), i < n → J i ys news → P i v → NsObj oC m₂ → m₂ x = some v → Fr h₀ L h m → News h₀ L h ((I, oI) :: (C, oC) :: (D, lst ys) :: news) → Off3 I C D news → ((@Ne Nat I C) ∧ (@Ne Nat I D) ∧ (@Ne Nat C D)) →
      wpAny (model prog w) A (eval elt (compEnvC scope cl C env)) (CompEnd h₀ L m { s with heap := h, toks := tk } I oI C oC D (lst ys) S (fun y news' => J (i + 1) (ys ++ [y]) news')) E' { s with heap := h, toks := tk }) :
    ∀ k i ys news, i + k = n → J i ys news → CompRest prog w A h₀ L m env elt x scope cl s S P Fin k i ys news
  | 0, i, ys, news, e, hj => CompRest.zero (fin ys news ((show i = n by omega) ▸ hj))
  | k + 1, i, ys, news, e, hj => CompRest.succ fun v I oI C oC D m₂ h tk E' a1 a2 a3 a4 a5 a6 a7 =>
    wpAny_mono (turn i ys news v I oI C oC D m₂ h tk E' (by omega) hj a1 a2 a3 a4 a5 a6 a7) (fun y s₂ z => cend_mono z fun news' z => rest_indN J n fin turn k (i + 1) _ news' (by omega) z) fun _ _ q => q
/-- [_law_widget(pool, shelf) for turn in range(n)] -/
theorem srcR_drawn {w : World} {P T : Addr} {elt : PySem.Expr} {x : PySem.Str} {scope : Scope} {cl : List (PySem.Str × Addr)} {Fin : Shared → List Value → List (Addr × Obj) → Prop} {r : Addr} {b : Int} {t u v : Tok} {n : Nat} {vs : List Value} {ns : List Int} {np : Nat} {oT : Obj} {base : List (Addr × Obj)}
    (hh : A.handled = none) (F : Fr h₀ L s.heap m) (N : News h₀ L s.heap ((P, listOf vs.toArray np) :: (T, oT) :: base)) (hr : IsRange s.heap r 0 b 1 t u v) (hsm : Builtin.Range.small 0 b 1 = true) (hn : Builtin.Range.rangeSize 0 b 1 = ((n : Nat) : Int)) (h5 : n ≤ 5)
    (hi : IntsAre vs ns) (hl : ns.length ≤ 63) (hT : oT.IsDictOf (intKind PySem.Challenge.rw_og0171_01.row.prog w) []) (hbP : ∀ p ∈ base, p.1 ≠ P) (hbT : ∀ p ∈ base, p.1 ≠ T)
    (fin : ∀ (g : Heap) ys news, DInv w P T base n ys news → Fin { s with heap := g } ys news)
    (turn : ∀ (g : Heap) (i : Nat) (ys vs : List Value) (ns : List Int) (np : Nat) (oT : Obj) (kvs : List (Int × Value)) (nT : Nat) (ext : List (Addr × Obj)) (ks : List (List PySem.Str)) (I : Addr) (oI : Obj) (C : Addr) (oC : Obj) (D : Addr) (m₂ : PySem.Str → Option Value) (h : Heap) (tk : Nat) (E' : Value → Shared → Prop), i < n → IntsAre vs ns → ns.length ≤ 63 → oT.IsDictOf (intKind PySem.Challenge.rw_og0171_01.row.prog w) kvs → KeysTo kvs nT → nT ≤ 3 * i → OwnOff ext (P :: T :: base.map (·.1)) → ks.length = i → ys.length = i → (∀ (j : Nat) v, ys[j]? = some v → ∃ k, ks[j]? = some k ∧ PairD w kvs ext v k) →
      nT ≤ 800 → (∀ p ∈ (I, oI) :: (C, oC) :: (D, lst ys) :: (base ++ ext), p.1 ≠ P) → (∀ p ∈ (I, oI) :: (C, oC) :: (D, lst ys) :: (base ++ ext), p.1 ≠ T) → NsObj oC m₂ → Fr h₀ L h m → News h₀ L h ((I, oI) :: (C, oC) :: (D, lst ys) :: (P, listOf vs.toArray np) :: (T, oT) :: (base ++ ext)) → Off3 I C D ((P, listOf vs.toArray np) :: (T, oT) :: (base ++ ext)) → ((@Ne Nat I C) ∧ (@Ne Nat I D) ∧ (@Ne Nat C D)) →
      wpAny (model prog w) A (eval elt (compEnvC scope cl C env)) (CompEnd h₀ L m { s with heap := h, toks := tk } I oI C oC D (lst ys) (fun _ => True) (fun y news' => DInv w P T base (i + 1) (ys ++ [y]) news')) E' { s with heap := h, toks := tk }) :
    CompSrc prog w A h₀ L m env elt x scope cl Fin (.ref r) s := by
  refine CompSrc.range hh F N hr hsm hn (by rw [sizeLine_eq]; omega) fun g => ?_
  refine rest_indN (s := { s with heap := g }) (fun i ys news => DInv w P T base i ys news) n (fun ys news h => fin g ys news h) ?_ _ 0 [] _ (Nat.zero_add _) ⟨vs, ns, np, oT, [], 0, [], [], by simp, hi, hl, hT, ⟨rfl, fun k => ?_⟩, Nat.zero_le _, (fun _ hp => nomatch hp), rfl, rfl, fun j u h1 => by simp at h1⟩
  · rintro i ys _ v I oI C oC D m₂ h tk E' hlt ⟨vs, ns, np, oT, kvs, nT, ext, ks, rfl, a1, a2, a3, a4, a5, a6, a7, a8, a9⟩ e1 e2 e3 F' N' off ne
    have off' := off.mem
    have aP := off' _ (.head _)
    have aT := off' _ (.tail _ (.head _))
    refine turn g i ys vs ns np oT kvs nT ext ks I oI C oC D m₂ h tk E' hlt a1 a2 a3 a4 a5 a6 a7 a8 a9 (by omega) (fun p hp => ?_) (fun p hp => ?_) e2 F' N' off ne
    · simp only [List.mem_cons, List.mem_append] at hp
      rcases hp with rfl | rfl | rfl | hp | hp
      · exact Ne.symm aP.1
      · exact Ne.symm aP.2.1
      · exact Ne.symm aP.2.2
      · exact hbP p hp
      · exact a6 p hp _ (.head _)
    · simp only [List.mem_cons, List.mem_append] at hp
      rcases hp with rfl | rfl | rfl | hp | hp
      · exact Ne.symm aT.1
      · exact Ne.symm aT.2.1
      · exact Ne.symm aT.2.2
      · exact hbT p hp
      · exact a6 p hp _ (.tail _ (.head _))
  · show (none : Option Value).isSome = _
    rw [decide_eq_false (by omega)]
    rfl
end
theorem swap2 {h₀ h : Heap} {L : Addr} {p a x : Addr × Obj} {l : List (Addr × Obj)} (N : News h₀ L h (p :: a :: x :: l)) : News h₀ L h (p :: x :: a :: l) := fun q hq => N q (by simp only [List.mem_cons] at hq ⊢; grind)
theorem range5 {d : Int} (h0 : 0 ≤ d) (h1 : d < 5) : Builtin.Range.small 0 (1 + d) 1 = true ∧ Builtin.Range.rangeSize 0 (1 + d) 1 = (((1 + d).toNat : Nat) : Int) ∧ (1 + d).toNat ≤ 5 := by
  rcases (by omega : d = 0 ∨ d = 1 ∨ d = 2 ∨ d = 3 ∨ d = 4) with rfl | rfl | rfl | rfl | rfl <;> decide
theorem grow_end {K : Type} {base ext : List (Addr × Obj)} {h₀ h9 : Heap} {L I C D : Addr} {m : PySem.Str → Option Value} {s₁ : Shared} {tk9 : Nat} {oI oC oD : Obj} {y : Value} {k : K} {S : List (Addr × Obj) → Prop} {Rout : List (Addr × Obj) → Value → K → Prop} {p : Addr × Obj}
    (off : LCg.Off3 I C D (base ++ ext)) (F : Fr h₀ L h9 m) (N : News h₀ L h9 (p :: (I, oI) :: (C, oC) :: (D, oD) :: (base ++ ext))) (o : LCg.Off1 p.1 ((I, oI) :: (C, oC) :: (D, oD) :: (base ++ ext))) (hS : S (base ++ (p :: ext))) (hr : Rout (p :: ext) y k) :
    LCg.CompEnd h₀ L m s₁ I oI C oC D oD S (fun y news' => ∃ p, news' = base ++ (p :: ext) ∧ Rout (p :: ext) y k) y { s₁ with heap := h9, toks := tk9 } := by
  have off' := off.mem
  have o' := off1_mem o
  refine LCg.CompEnd.intro F N (base ++ (p :: ext)) (fun q hq => ?_) (LCg.Off3.of fun q hq => ?_) hS ⟨p, rfl, hr⟩
  · simp only [List.mem_cons, List.mem_append] at hq ⊢
    rcases hq with h | h | h | h | h | h
    · exact .inr (.inl h)
    · exact .inr (.inr (.inl h))
    · exact .inr (.inr (.inr (.inl h)))
    · exact .inr (.inr (.inr (.inr (.inl h))))
    · exact .inl h
    · exact .inr (.inr (.inr (.inr (.inr h))))
  · simp only [List.mem_cons, List.mem_append] at hq
    rcases hq with h | rfl | h
    · exact off' q (List.mem_append_left _ h)
    · exact ⟨Ne.symm (o' _ (.head _)), Ne.symm (o' _ (.tail _ (.head _))), Ne.symm (o' _ (.tail _ (.tail _ (.head _))))⟩
    · exact off' q (List.mem_append_right _ h)
theorem theStates_ok : ∀ x ∈ theStates, PyData.strOk x = true := by decide +kernel
theorem rows_ok {l : List (Addr × Obj)} {ws : List Value} {ks : List (List PySem.Str)} (hl : ws.length = ks.length) (hR : ∀ (i : Nat) v, ws[i]? = some v → ∃ k, ks[i]? = some k ∧ RowD l v k ∧ ∀ x ∈ k, x ∈ theStates) : ∀ k ∈ ks, ∀ x ∈ k, PyData.strOk x = true := by
  intro k hk x hx
  obtain ⟨i, hi, e⟩ := List.getElem_of_mem hk
  obtain ⟨k', h1, _, h2⟩ := hR i ws[i] (List.getElem?_eq_getElem (by omega))
  rw [List.getElem?_eq_getElem hi, e] at h1
  cases h1
  exact theStates_ok x (h2 x hx)
theorem rows_mono {l l' : List (Addr × Obj)} {ws : List Value} {ks : List (List PySem.Str)} (hs : ∀ p ∈ l, p ∈ l') (hR : ∀ (i : Nat) v, ws[i]? = some v → ∃ k, ks[i]? = some k ∧ RowD l v k) : ∀ (i : Nat) v, ws[i]? = some v → ∃ k, ks[i]? = some k ∧ RowD l' v k := fun i v e => by
  obtain ⟨k, h1, h2⟩ := hR i v e
  exact ⟨k, h1, h2.mono hs⟩
theorem rows_left {l : List (Addr × Obj)} {ws : List Value} {ks : List (List PySem.Str)} (hR : ∀ (i : Nat) v, ws[i]? = some v → ∃ k, ks[i]? = some k ∧ RowD l v k ∧ ∀ x ∈ k, x ∈ theStates) : ∀ (i : Nat) v, ws[i]? = some v → ∃ k, ks[i]? = some k ∧ RowD l v k := fun i v e => by
  obtain ⟨k, h1, h2, _⟩ := hR i v e
  exact ⟨k, h1, h2⟩
theorem wds_mono {w : World} {kvs : List (Int × Value)} {l l' : List (Addr × Obj)} {ws : List Value} {ks : List (List PySem.Str)} (hs : ∀ p ∈ l, p ∈ l') (hR : ∀ (i : Nat) v, ws[i]? = some v → ∃ k, ks[i]? = some k ∧ WD w kvs l v k) : ∀ (i : Nat) v, ws[i]? = some v → ∃ k, ks[i]? = some k ∧ WD w kvs l' v k := fun i v e => by
  obtain ⟨k, h1, h2⟩ := hR i v e
  exact ⟨k, h1, h2.mono Grows.rfl hs⟩
theorem names6 {h₀ h : Heap} {L : Addr} {x0 : Addr × Obj} {x1 x2 x3 x4 x5 x6 : Addr} {o1 o2 o3 o4 o5 o6 : Obj} {l : List (Addr × Obj)} (_ : News h₀ L h (x0 :: (x1, o1) :: (x2, o2) :: (x3, o3) :: (x4, o4) :: (x5, o5) :: (x6, o6) :: l)) : ∃ aP aT aR aS adS asl : Addr, aP = x1 ∧ aT = x2 ∧ aR = x3 ∧ aS = x4 ∧ adS = x5 ∧ asl = x6 := ⟨_, _, _, _, _, _, rfl, rfl, rfl, rfl, rfl, rfl⟩
theorem offA {D d8 P T R S dS sl c4 c3 : Addr} {o0 o1 o2 o3 o4 o5 o6 o7 o8 : Obj} {l : List (Addr × Obj)} (o : LCg.Off1 D ((d8, o0) :: (P, o1) :: (T, o2) :: (R, o3) :: (S, o4) :: (dS, o5) :: (sl, o6) :: (c4, o7) :: (c3, o8) :: l)) : (P : Addr) ≠ D ∧ (c3 : Addr) ≠ D ∧ (c4 : Addr) ≠ D := ⟨o.2.1, o.2.2.2.2.2.2.2.2.1, o.2.2.2.2.2.2.2.1⟩
theorem offB {D d7 d8 P T R S dS sl c4 c3 : Addr} {ob o0 o1 o2 o3 o4 o5 o6 o7 o8 : Obj} {l : List (Addr × Obj)} (o : LCg.Off1 D ((d7, ob) :: (d8, o0) :: (P, o1) :: (T, o2) :: (R, o3) :: (S, o4) :: (dS, o5) :: (sl, o6) :: (c4, o7) :: (c3, o8) :: l)) : (P : Addr) ≠ D ∧ (c3 : Addr) ≠ D ∧ (c4 : Addr) ≠ D := offA o.2
def ChainOf (c1 c2 c3 c4 sl dS S R T P : Addr) : Prop := (@LT.lt Nat _ c1 c2 ∧ @LT.lt Nat _ c2 c3 ∧ @LT.lt Nat _ c3 c4 ∧ @LT.lt Nat _ c4 sl ∧ @LT.lt Nat _ sl dS ∧ @LT.lt Nat _ P dS ∧ @LT.lt Nat _ dS S ∧ @LT.lt Nat _ S T ∧ @LT.lt Nat _ T R) ∧ ((P : Addr) ≠ sl ∧ (P : Addr) ≠ c4 ∧ (P : Addr) ≠ c3 ∧ (P : Addr) ≠ c2 ∧ (P : Addr) ≠ c1)
theorem chainN {h₀ h : Heap} {L : Addr} {D P T R S dS sl c4 c3 c2 c1 : Addr} {o0 o1 o2 o3 o4 o5 o6 o7 o8 o9 o10 : Obj} {l : List (Addr × Obj)} (_ : News h₀ L h ((D, o0) :: (P, o1) :: (T, o2) :: (R, o3) :: (S, o4) :: (dS, o5) :: (sl, o6) :: (c4, o7) :: (c3, o8) :: (c2, o9) :: (c1, o10) :: l))
    (h : @LT.lt Nat _ c1 c2 ∧ @LT.lt Nat _ c2 c3 ∧ @LT.lt Nat _ c3 c4 ∧ @LT.lt Nat _ c4 sl ∧ @LT.lt Nat _ sl dS ∧ @LT.lt Nat _ P dS ∧ @LT.lt Nat _ dS S ∧ @LT.lt Nat _ S T ∧ @LT.lt Nat _ T R) (h2 : @Ne Nat sl P ∧ @Ne Nat c4 P ∧ @Ne Nat c3 P ∧ @Ne Nat c2 P ∧ @Ne Nat c1 P) : ChainOf c1 c2 c3 c4 sl dS S R T P := ⟨h, h2.1.symm, h2.2.1.symm, h2.2.2.1.symm, h2.2.2.2.1.symm, h2.2.2.2.2.symm⟩
theorem news_drop3 {h₀ h : Heap} {L : Addr} {a b c : Addr × Obj} {l : List (Addr × Obj)} (N : News h₀ L h (a :: b :: c :: l)) : News h₀ L h (a :: b :: l) := fun p hp => N p (by simp only [List.mem_cons] at hp ⊢; grind)
theorem drop13 {h₀ h : Heap} {L : Addr} {t0 x0 x1 x2 x3 x4 x5 x6 x7 x8 x9 x10 x11 x12 : Addr × Obj} {l r : List (Addr × Obj)} (N : News h₀ L h (x0 :: t0 :: x1 :: x2 :: x3 :: x4 :: x5 :: x6 :: x7 :: x8 :: x9 :: x10 :: x11 :: x12 :: (l ++ r))) : News h₀ L h (x1 :: x2 :: x3 :: x4 :: x5 :: x6 :: x7 :: x8 :: x9 :: x10 :: x11 :: x12 :: l) := fun p hp => N p (by simp only [List.mem_cons, List.mem_append] at hp ⊢; grind)
theorem cons_of {α : Type} {l : List α} (h : 0 < l.length) : ∃ a r, l = a :: r := by
  cases l with
  | nil => simp at h
  | cons a r => exact ⟨a, r, rfl⟩
def FiveSt (v : Value) : Prop := ∃ st t, v = .str st t ∧ PyData.strOk st = true
def fiveL : List PySem.Str := [PySem.Str.ofString "x", PySem.Str.ofString "y", PySem.Str.ofString "z", PySem.Str.ofString "Off", PySem.Str.ofString "none"]
theorem five_ok : ∀ x ∈ fiveL, PyData.strOk x = true := by decide +kernel
theorem five_st {vs : List Value} (h : StrsAre vs fiveL) : ∀ (i : Nat) v, vs.toArray[i]? = some v → FiveSt v := fun i v e => by
  obtain ⟨x, t, hx, rfl⟩ := strs_at h e
  exact ⟨x, t, rfl, five_ok x (List.mem_of_getElem? hx)⟩
theorem lone_conv {v : List Value} {a b : Bool} {st : PySem.Str} {ks : List (List PySem.Str)} (h : StrsAre v (shown a st ks)) (e : a = b) : StrsAre v (shown b st ks) := e ▸ h
theorem not_one_no {d : Int} (h : d = 1) : (!(d == 1)) = false := by subst h; rfl
theorem not_one_yes {d : Int} (h : d ≠ 1) : (!(d == 1)) = true := by simp [h]
theorem shown_len (lone : Bool) (st : PySem.Str) (ks : List (List PySem.Str)) : (shown lone st ks).length = ks.length := by
  unfold shown
  rw [shown_length]
  simp
theorem one_R {R : Value → List PySem.Str → Prop} {v : Value} {k : List PySem.Str} (h : R v k) : ∀ (i : Nat) u, [v][i]? = some u → ∃ k', [k][i]? = some k' ∧ R u k' := by
  intro i u e
  cases i with
  | zero => simp at e; subst e; exact ⟨k, rfl, h⟩
  | succ j => simp at e
theorem one_str {vs : List Value} {x : PySem.Str} (h : StrsAre vs [x]) : ∃ t, vs = [.str x t] := by
  cases h with
  | cons _ t r => cases r with
    | nil => exact ⟨t, rfl⟩
theorem marks_false (st : PySem.Str) (ks : List (List PySem.Str)) : ks.map (mark st) = shown false st ks := (shown_false st ks).symm
theorem pow25 : (2 : Int) ^ Int.toNat 25 = 33554432 := by decide
theorem shown_single {w : World} {S T leaf W : Addr} {oT : Obj} {kvs : List (Int × Value)} {tl : List (Addr × Obj)} {kind st : PySem.Str} {fl : Int} {tk : Tok} {v : Value} {k : List PySem.Str} {nW : Nat} (hTm : (T, oT) ∈ tl) (sh : ShIn w S T tl) (hT : oT.IsDictOf (intKind PySem.Challenge.rw_og0171_01.row.prog w) kvs) (loT : (T == sysModules) = false)
    (lf : LeafIn w leaf W kind fl tl) (h0 : 0 ≤ fl) (h1 : fl < 2 ^ 26) (hW : (W, listOf [v].toArray nW) ∈ tl) (wd : WD w kvs tl v k) :
    Ctr w 89 [.ref S, .ref leaf, .str st tk] 12 200 tl (fun r news' => ∃ a t n, r = .ref a ∧ news' = (a, listOf [Value.str (mark st k) t].toArray n) :: tl) := by
  refine ctr_any (shown_of (ks := [k]) hTm sh hT loT lf h0 h1 hW (one_R wd) rfl (Nat.le_of_ble_eq_true rfl)) (fun _ hp => hp) ?_
  rintro r _ ⟨a, vs, n, rfl, rfl, hS, _⟩
  rw [shown_one] at hS
  obtain ⟨t, rfl⟩ := one_str hS
  exact ⟨_, ⟨a, t, n, rfl, rfl⟩, fun p hp => hp⟩
theorem my_len {prog : Program} {w : World} {A : Around} {E : Value → Shared → Prop} {s : Shared} {h₀ : Heap} {L l : Addr} {news : List (Addr × Obj)} {ys : List Value} {n : Nat} {Q : Value → Shared → Prop} (N : News h₀ L s.heap news) (hm : (l, listOf ys.toArray n) ∈ news) (hle : ys.length ≤ 1) (h : ∀ k : Int, k ≤ 1 → Q (.int k (s.toks + 1)) { s with toks := s.toks + 1 + 1 }) : wpAny (model prog w) A (call (.builtin "len") [.ref l]) Q E s :=
  PyProof.Rows.len_list (PySem.IsL.isList (n := n) (N _ hm).1) (by simp only [List.size_toArray]; omega) (h _ (by simp only [List.size_toArray]; omega))
def TInv (w : World) (T : Addr) (base : List (Addr × Obj)) (names : List PySem.Str) (i : Nat) (ys : List Value) (news : List (Addr × Obj)) : Prop :=
  ∃ (oT : Obj) (kvs : List (Int × Value)) (ext : List (Addr × Obj)), news = (T, oT) :: (base ++ ext) ∧ oT.IsDictOf (intKind PySem.Challenge.rw_og0171_01.row.prog w) kvs ∧ KeysTo kvs i ∧ (∀ p ∈ ext, p.1 ≠ T) ∧ ys.length = i ∧ ∀ (j : Nat) v, ys[j]? = some v → ∃ x, names[j]? = some x ∧ WD w kvs ext v [x]
theorem known_one {x : PySem.Str} (h : (x == PySem.Str.ofString "Off") = false) : IsKnown [x] [x] := by
  refine ⟨?_, rfl⟩
  simp [h]
theorem tab_next {w : World} {T ra dr tup d1 d2 d3 I C D ax : Addr} {base ext : List (Addr × Obj)} {names : List PySem.Str} {i : Nat} {ys : List Value} {kvs kvs' : List (Int × Value)} {oT oT' o1 o2 o3 oI oC oD : Obj} {x : PySem.Str} {its : Array Value} {kt : Nat} {h₀ h9 : Heap} {L : Addr} {m : PySem.Str → Option Value} {s₁ : Shared} {tk9 : Nat} {tz t1 t2 t3 t4 t5 : Tok} {k : Int} {n0 : Nat}
    (hx : ∀ p ∈ ext, p.1 ≠ T) (hy : ys.length = i) (hR : ∀ (j : Nat) v, ys[j]? = some v → ∃ x, names[j]? = some x ∧ WD w kvs ext v [x]) (hi : names[i]? = some x) (hxo : (x == PySem.Str.ofString "Off") = false)
    (off : LCg.Off3 I C D ((T, oT) :: (base ++ ext))) (hS : (ax, tupO its kt) ∈ base)
    (i1 : o1.IsDictOf (PySem.strKind PySem.Challenge.rw_og0171_01.row.prog w) [(x, .int 0 tz)]) (l1 : (d1 == sysModules) = false)
    (i2 : o2.IsDictOf (PySem.strKind PySem.Challenge.rw_og0171_01.row.prog w) [(PySem.Str.ofString "N", .ref d1)]) (l2 : (d2 == sysModules) = false)
    (i3 : o3.IsDictOf (PySem.strKind PySem.Challenge.rw_og0171_01.row.prog w) [(PySem.Str.ofString "AP", .ref d2)]) (l3 : (d3 == sysModules) = false)
    (F : Fr h₀ L h9 m) (N : News h₀ L h9 ((ra, instObj 310 dr) :: (dr, dictOf [{ hash := PyData.keyHash w.params (PySem.Str.ofString "number"), key := .str (PySem.Str.ofString "number") t1, val := .int k t2 }, { hash := PyData.keyHash w.params (PySem.Str.ofString "generation"), key := .str (PySem.Str.ofString "generation") t3, val := .int 0 t4 }] 2) :: (tup, ({ cls := .type "tuple", data := .seq [.int 0 t5, .ref d3].toArray n0 } : Obj)) :: (T, oT') :: (d1, o1) :: (d2, o2) :: (d3, o3) :: (I, oI) :: (C, oC) :: (D, oD) :: (base ++ ext)))
    (iT : oT'.IsDictOf (intKind PySem.Challenge.rw_og0171_01.row.prog w) kvs') (kk : KeysTo kvs' (i + 1)) (gr : Grows kvs kvs') (va : valueAt kvs' k = some (.ref tup))
    (lt : @LT.lt Nat _ T tup ∧ AllLt tup ((d1, o1) :: (d2, o2) :: (d3, o3) :: (I, oI) :: (C, oC) :: (D, oD) :: (base ++ ext))) (ltd : @LT.lt Nat _ tup dr) (lra : @LT.lt Nat _ dr ra)
    (h1 : @LT.lt Nat _ I d3 ∧ @LT.lt Nat _ C d3 ∧ @LT.lt Nat _ D d3 ∧ @LT.lt Nat _ T d3) (h2 : @LT.lt Nat _ d3 d2) (h3 : @LT.lt Nat _ d2 d1) :
    LCg.CompEnd h₀ L m s₁ I oI C oC D oD (TupIn ax its) (fun y news' => TInv w T base names (i + 1) (ys ++ [y]) news') (.ref ra) { s₁ with heap := h9, toks := tk9 } := by
  obtain ⟨lT, ld1, ld2, ld3, lI, lC, lD, lrest⟩ := lt
  dsimp only at ld3 ld2 ld1 lI lC lD
  have off' := off.mem
  refine LCg.CompEnd.intro F N ((T, oT') :: (base ++ ((ra, instObj 310 dr) :: (dr, dictOf [{ hash := PyData.keyHash w.params (PySem.Str.ofString "number"), key := .str (PySem.Str.ofString "number") t1, val := .int k t2 }, { hash := PyData.keyHash w.params (PySem.Str.ofString "generation"), key := .str (PySem.Str.ofString "generation") t3, val := .int 0 t4 }] 2) :: (tup, ({ cls := .type "tuple", data := .seq [.int 0 t5, .ref d3].toArray n0 } : Obj)) :: (d3, o3) :: (d2, o2) :: (d1, o1) :: ext))) (fun p hp => ?_) (LCg.Off3.of fun p hp => ?_) ⟨kt, .tail _ (List.mem_append_left _ hS)⟩ ⟨oT', kvs', _, rfl, iT, kk, fun p hp => ?_, by simp [hy], fun j v h => ?_⟩
  · simp only [List.mem_cons, List.mem_append] at hp ⊢
    grind
  · simp only [List.mem_cons, List.mem_append] at hp
    rcases hp with rfl | hp | rfl | rfl | rfl | rfl | rfl | rfl | hp
    · exact off' (T, oT) (.head _)
    · exact off' p (.tail _ (List.mem_append_left _ hp))
    all_goals first
      | exact off' p (.tail _ (List.mem_append_right _ hp))
      | (dsimp only; exact ⟨neN (by omega), neN (by omega), neN (by omega)⟩)
  · simp only [List.mem_cons] at hp
    rcases hp with rfl | rfl | rfl | rfl | rfl | rfl | hp
    all_goals first
      | exact hx p hp
      | (dsimp only; exact neN (by omega))
  · rw [List.getElem?_append] at h
    by_cases hj : j < ys.length
    · rw [if_pos hj] at h
      obtain ⟨x', e1, e2⟩ := hR j v h
      exact ⟨x', e1, e2.mono gr fun q hq => .tail _ (.tail _ (.tail _ (.tail _ (.tail _ (.tail _ hq)))))⟩
    · rw [if_neg hj] at h
      have e : j - ys.length = 0 := by
        rcases Nat.eq_zero_or_pos (j - ys.length) with h' | h'
        · exact h'
        · rw [List.getElem?_eq_none (by simp; omega)] at h; cases h
      rw [e] at h
      simp at h
      subst h
      have e2 : j = i := by omega
      subst e2
      refine ⟨x, hi, WD.mk (FD.ref (.head _) (.tail _ (.head _)) va (.tail _ (.tail _ (.head _))) (.tail _ (.tail _ (.tail _ (.head _)))) i3) (.tail _ (.tail _ (.tail _ (.head _)))) i3 l3 (v1 := .ref d2) ?_ (LD1.dict (.tail _ (.tail _ (.tail _ (.tail _ (.head _))))) i2 l2 (v2 := .ref d1) ?_ (LD2.dict (.tail _ (.tail _ (.tail _ (.tail _ (.tail _ (.head _)))))) i1 l1 (Nat.le_of_ble_eq_true rfl) (known_one hxo)))⟩
      · exact FD.dict (.tail _ (.tail _ (.tail _ (.tail _ (.head _))))) i2
      · exact FD.dict (.tail _ (.tail _ (.tail _ (.tail _ (.tail _ (.head _)))))) i1
def tabNames : List PySem.Str := [PySem.Str.ofString "x", PySem.Str.ofString "x", PySem.Str.ofString "y"]
theorem tabNames_on : ∀ x ∈ tabNames, (x == PySem.Str.ofString "Off") = false := by decide
section
open LCg LCt
variable {prog : Program} {A : Around} {s : Shared} {h₀ : Heap} {L : Addr} {m : PySem.Str → Option Value} {env : Env}
theorem srcTU_tab {w : World} {T ax : Addr} {elt : PySem.Expr} {x : PySem.Str} {scope : Scope} {cl : List (PySem.Str × Addr)} {Fin : Shared → List Value → List (Addr × Obj) → Prop} {vs : List Value} {kt : Nat} {oT : Obj} {base : List (Addr × Obj)}
    (hh : A.handled = none) (F : Fr h₀ L s.heap m) (N : News h₀ L s.heap ((T, oT) :: base)) (hS : (ax, tupO vs.toArray kt) ∈ base) (hv : StrsAre vs tabNames) (hT : oT.IsDictOf (intKind PySem.Challenge.rw_og0171_01.row.prog w) [])
    (fin : ∀ (g : Heap) ys news, TInv w T base tabNames 3 ys news → Fin { s with heap := g } ys news)
    (turn : ∀ (g : Heap) (i : Nat) (ys : List Value) (x' : PySem.Str) (t' : Tok) (oT : Obj) (kvs : List (Int × Value)) (ext : List (Addr × Obj)) (I : Addr) (oI : Obj) (C : Addr) (oC : Obj) (D : Addr) (m₂ : PySem.Str → Option Value) (h : Heap) (tk : Nat) (E' : Value → Shared → Prop), i < 3 → tabNames[i]? = some x' → (x' == PySem.Str.ofString "Off") = false → oT.IsDictOf (intKind PySem.Challenge.rw_og0171_01.row.prog w) kvs → KeysTo kvs i → i ≤ 900 → (∀ p ∈ ext, p.1 ≠ T) → ys.length = i → (∀ (j : Nat) v, ys[j]? = some v → ∃ x, tabNames[j]? = some x ∧ WD w kvs ext v [x]) →
      NsObj oC m₂ → m₂ x = some (.str x' t') → Fr h₀ L h m → News h₀ L h ((I, oI) :: (C, oC) :: (D, lst ys) :: (T, oT) :: (base ++ ext)) → Off3 I C D ((T, oT) :: (base ++ ext)) → (@Ne Nat I T ∧ @Ne Nat C T ∧ @Ne Nat D T) →
      wpAny (model prog w) A (eval elt (compEnvC scope cl C env)) (CompEnd h₀ L m { s with heap := h, toks := tk } I oI C oC D (lst ys) (TupIn ax vs.toArray) (fun y news' => TInv w T base tabNames (i + 1) (ys ++ [y]) news')) E' { s with heap := h, toks := tk }) :
    SrcTU prog w A h₀ L m env elt x scope cl Fin (.ref ax) s := by
  have hl : vs.toArray.size = 3 := by rw [List.size_toArray, hv.length]; rfl
  refine ⟨ax, vs.toArray, kt, _, rfl, hh, F, N, .tail _ hS, by rw [hl, sizeLine_eq]; decide, fun g => ?_⟩
  rw [hl]
  refine rest_indN (s := { s with heap := g }) (fun i ys news => TInv w T base tabNames i ys news) 3 (fun ys news h => fin g ys news h) ?_ _ 0 [] _ (Nat.zero_add _) ⟨oT, [], [], by simp, hT, ⟨rfl, fun k => ?_⟩, (fun _ hp => nomatch hp), rfl, fun j u h1 => by simp at h1⟩
  · rintro i ys _ v I oI C oC D m₂ h tk E' hlt ⟨oT, kvs, ext, rfl, a1, a2, a3, a4, a5⟩ e1 e2 e3 F' N' off ne
    obtain ⟨x', t', hx', rfl⟩ := strs_at hv e1
    have o := off.mem _ (.head _)
    exact turn g i ys x' t' oT kvs ext I oI C oC D m₂ h tk E' hlt hx' (tabNames_on x' (List.mem_of_getElem? hx')) a1 a2 (by omega) a3 a4 a5 e2 e3 F' N' off ⟨Ne.symm o.1, Ne.symm o.2.1, Ne.symm o.2.2⟩
  · show (none : Option Value).isSome = _
    rw [decide_eq_false (by omega)]
    rfl
end
def tabKs : List (List PySem.Str) := tabNames.map fun x => [x]
theorem tab_R {w : World} {kvs : List (Int × Value)} {l l' : List (Addr × Obj)} {ys : List Value} (hs : ∀ p ∈ l, p ∈ l') (hR : ∀ (j : Nat) v, ys[j]? = some v → ∃ x, tabNames[j]? = some x ∧ WD w kvs l v [x]) : ∀ (j : Nat) v, ys[j]? = some v → ∃ k, tabKs[j]? = some k ∧ WD w kvs l' v k := fun j v e => by
  obtain ⟨x, e1, e2⟩ := hR j v e
  exact ⟨[x], by simp [tabKs, e1], e2.mono Grows.rfl hs⟩
theorem allLt_mem {c : Nat} : ∀ {l : List (Addr × Obj)}, (∀ p ∈ l, @LT.lt Nat _ p.1 c) → AllLt c l
  | [], _ => trivial
  | _ :: _, h => ⟨h _ (.head _), allLt_mem fun p hp => h p (.tail _ hp)⟩
theorem tab_xy {i : Nat} {x : PySem.Str} (h : tabNames[i]? = some x) : x = PySem.Str.ofString "x" ∨ x = PySem.Str.ofString "y" := by
  have hm := List.mem_of_getElem? h
  simp only [tabNames, List.mem_cons, List.not_mem_nil, or_false] at hm
  rcases hm with h | h | h
  · exact .inl h
  · exact .inl h
  · exact .inr h
local macro_rules | `(tactic| walk_at "eval Dict") => `(tactic| (k_here; k_dflt (k_extra "dct9")))
theorem table_of (w : World) (tl : List (Addr × Obj)) :
    Ctr w 452 [] 16 300 tl (fun r news' => r = .bool true ∧ news' = tl) := by
  unfold Ctr
  k_fill
  w_top off
  k_with_none
  k_with "acomp9" => (
    refine comp_tupU (_F₀ := by k_asm) (by rfl) (by with_unfolding_all rfl) (by with_unfolding_all rfl) (by decide) (by rfl) (by decide) (by rfl) (by rfl) (by rfl) ?_)
  k_with "csrc9" => (
    (with_unfolding_all refine' srcTU_tab rfl ?sF (rot2 ?sN) ?sS (.cons _ _ (.cons _ _ (.cons _ _ .nil))) ?sT ?_ ?_)
    (case sF => k_asm)
    (case sN => k_asm)
    (case sS => k_mem)
    (case sT => assumption)
    all_goals first
      | (rintro g9 ys9 _ ⟨oT8, kvs8, ext8, rfl, iT8, kk8, hx8, hy8, hR8⟩
         unfold LCg.FinA
         intro D8 h8 tk8 F8 N8 o8
         (try simp only [List.cons_append, List.nil_append] at N8)
         (try dsimp only))
      | (intro g9 i9 ys9 x9 t9 oT9 kvs9 ext9 I9 oI9 C9 oC9 D9 m9 h9 tk9 E9 hlt9 hi9 hxo9 hT9 kk9 hn9 hx9 hy9 hR9 hC9 hm9 F9 N9 off9 ne9
         obtain ⟨ne9a, ne9b, ne9c⟩ := ne9
         (try simp only [List.cons_append, List.nil_append] at N9)
         (have hcase : x9 = PySem.Str.ofString "x" ∨ x9 = PySem.Str.ofString "y" := tab_xy hi9)
         (rcases hcase with rfl | rfl)))
  k_with "call9" => (
    (refine' ctr_use (add_of (kvs := kvs9) ⟨_, _, _, _, ?s1, ?s2⟩ ?hT ?loT kk9 hn9 ?offT) ?k1 ?k2 ?k3 (rot6 ?k4) ?k5 ?k6 ?k7 ?k8 ?_)
    (case k4 => k_asm)
    (case s1 => k_mem)
    (case s2 => k_mem)
    (case hT => assumption)
    (case loT => assumption)
    (case offT => k_all)
    (case k1 => k_asm)
    (case k2 => k_asm)
    (case k3 => k_asm)
    (case k5 => k_asm)
    (case k6 => first | exact rfl | assumption)
    (case k7 => ktr_room)
    (case k8 => ktr_units)
    rintro r9 news9 h9 tk9 ⟨ra7, dr7, tup7, oT7, kvs7, kn7, t1, t2, t3, t4, t5, n07, rfl, rfl, iT7, kk7, gr7, va7, la7, lb7, lc7⟩ F9 N9
    (try dsimp only)
    (try k_fold))
  k_with "cend9" => (
    (refine' tab_next hx9 hy9 hR9 hi9 hxo9 off9 ?eS ?e1 ?e2 ?e3 ?e4 ?e5 ?e6 ?eF ?eN iT7 kk7 gr7 va7 la7 lb7 lc7 ?g1 ?g2 ?g3)
    (case eF => k_asm)
    (case eN => k_asm)
    (case eS => k_mem)
    (case e5 => assumption)
    (case e3 => assumption)
    (case e1 => assumption)
    (case e2 => assumption)
    (case e4 => assumption)
    (case e6 => assumption)
    (case g1 => exact ⟨by omega, by omega, by omega, by omega⟩)
    (case g2 => omega)
    (case g3 => omega))
  k_with "call9" => (
    first
    | ((obtain ⟨w1, wr, ew⟩ := cons_of (l := ys9) (by rw [hy8]; decide))
       subst ew)
    | skip
    (refine' ctr_use (field_of _ _ _ _ _ _ _ _ _ _ ?fW) ?k1 ?k2 ?k3 ?k4 ?k5 ?k6 ?k7 ?k8 ?_)
    (case k4 => k_asm)
    (case fW => k_mem)
    (case k1 => k_asm)
    (case k2 => k_asm)
    (case k3 => k_asm)
    (case k5 => k_asm)
    (case k6 => first | exact rfl | assumption)
    (case k7 => ktr_room)
    (case k8 => ktr_units)
    rintro r9 news9 h9 tk9 ⟨leafC, dlC, HC, olC, oHC, rfl, rfl, lfC, hfC1, hfC2, hfC3⟩ F9 N9
    clear hfC1 hfC2 hfC3
    (try dsimp only)
    (try k_fold))
  k_with "call9" => (
    (refine' ctr_use (shown_of (kvs := kvs8) (ks := tabKs) ?hTm ⟨_, _, _, _, ?s1, ?s2⟩ ?hT ?loT (LeafIn.mono lfC ?sb1) ?fl0 ?fl1 ?hW (tab_R (l := ext8) ?sb2 hR8) ?hlen (by decide)) ?k1 ?k2 ?k3 ?k4 ?k5 ?k6 ?k7 ?k8 ?_)
    (case k4 => k_asm)
    (case s1 => k_mem)
    (case s2 => k_mem)
    (case hTm => k_mem)
    (case hT => assumption)
    (case loT => assumption)
    (case sb1 => exact fun p hp => by simp only [List.mem_cons, List.not_mem_nil, or_false] at hp; rcases hp with rfl | rfl | rfl <;> k_mem)
    (case fl0 => decide)
    (case fl1 => decide)
    (case hW => k_mem)
    (case hlen => exact hy8)
    (case sb2 => (intro p hp; simp only [List.mem_cons, List.mem_append]; simp only [hp, or_true, true_or]))
    (case k1 => k_asm)
    (case k2 => k_asm)
    (case k3 => k_asm)
    (case k5 => k_asm)
    (case k6 => first | exact rfl | assumption)
    (case k7 => ktr_room)
    (case k8 => ktr_units)
    rintro r9 news9 h9 tk9 ⟨aH, vH, nH, rfl, rfl, hSH, lH⟩ F9 N9
    clear lH
    (try dsimp only)
    (try k_fold))
  k_with "ne9" => (
    (refine' ne_strs ?N ?m1 ?m2 hSH (.cons _ _ (.cons _ _ (.cons _ _ .nil))) ?e (shown_ok (by decide +kernel)) ?hu ?_)
    (case N => k_asm)
    (case m1 => k_mem)
    (case m2 => k_mem)
    (case e => decide +kernel)
    (case hu => ke_room))
  k_with "eq9" => (
    (refine' eq_strs ?N ?m1 ?m2 hSH (.cons _ _ (.cons _ _ (.cons _ _ .nil))) ?e (shown_ok (by decide +kernel)) ?hu ?_)
    (case N => k_asm)
    (case m1 => k_mem)
    (case m2 => k_mem)
    (case e => decide +kernel)
    (case hu => ke_room))
  k_with "dct9" => (
    (with_reducible show wpAny _ _ (eval (PySem.Expr.Dict [some (PySem.Expr.Name _ _)] _ _) _) _ _ _)
    (refine' kdn_eval (knd := PySem.strKind _ _) ?dF ?dN ?db rfl rfl (List.cons_ne_nil _ _) (Nat.le_of_ble_eq_true rfl) ?_)
    (case dF => k_asm)
    (case dN => k_asm)
    (case db => exact Top.nolimit (by k_asm))
    intro d' h' o' F' N' l1 lo' hd'
    (k_lt l1))
  intro mean mg mb dp un gd cn cs a ccd cl outer A₀ base h₀ L m s Q E B F X N TT hk hdp hun hret
  refine wpAny_call ?_
  k_dflt cell_enter
  k_steps
  all_goals ((rename Fr h₀ L _ m => FF); (rename News h₀ L _ _ => NN); exact hret _ _ _ _ ⟨rfl, rfl⟩ FF (cb_drop NN fun p hp => by simp only [List.mem_cons, List.mem_append, hp, true_or, or_true]))
local macro_rules | `(tactic| walk_at "InvEndN") => `(tactic| (k_dflt (
  (with_reducible rename News _ _ _ _ => NE9)
  (with_reducible rename Fr _ _ _ _ => FE9)
  (first
    | refine' InvEndN.intro FE9 NE9 ⟨_, rfl, ⟨_, ?eS⟩, ?ez⟩ ?ea (en2 rfl) ?eo
    | refine' InvEndN.intro FE9 NE9 ⟨_, rfl, ⟨_, ?eS⟩, ?ez⟩ ?ea (en3 rfl) ?eo
    | refine' InvEndN.intro FE9 NE9 ⟨_, rfl, ⟨_, ?eS⟩, ?ez⟩ ?ea (en1 rfl) ?eo
    | refine' InvEndN.intro FE9 NE9 ⟨_, rfl, ⟨_, ?eS⟩, ?ez⟩ ?ea (en4 rfl) ?eo)
  (case ea => rfl)
  (case eS => assumption)
  (case eo => exact fun p hp => by simp only [List.mem_cons, List.mem_append, hp, or_true])
  (case ez => (intro z h3; simp only [List.contains_cons, List.contains_nil, Bool.or_false, beq_eq_false_iff_ne, ne_eq] at h3; simp [h3])))))
local macro_rules | `(tactic| walk_at "callWith ref") => `(tactic| (k_here; k_dflt (k_extra "cw0")))
local macro_rules | `(tactic| walk_at "callWith ref nil nil") => `(tactic| (k_here; k_dflt (k_extra "cw0")))
theorem tst : PySem.Challenge.rw_og0171_01.Holds := hd (by
  k_with_none
  k_with "call9" => (
    (refine' ctr_use (take_spec _ _ _ _ _ _ _ _ ?hi ?hl ?a1 ?a2 ?sep) ?k1 ?k2 ?k3 ?k4 ?k5 ?k6 ?k7 ?k8 ?_)
    (case k4 => first | k_asm | exact rot1 (by k_asm) | exact rot2 (by k_asm) | exact rot3 (by k_asm) | exact rot4 (by k_asm) | exact rot5 (by k_asm) | exact rot6 (by k_asm) | exact rot7 (by k_asm))
    (case hi => assumption)
    (case hl => first | omega | (simp only [List.length_map]; omega))
    (case a1 => decide)
    (case a2 => decide)
    (case sep => k_all)
    (case k1 => k_asm)
    (case k2 => k_asm)
    (case k3 => k_asm)
    (case k5 => k_asm)
    (case k6 => first | exact rfl | assumption)
    (case k7 => ktr_room)
    (case k8 => ktr_units)
    rintro r9 news9 h9 tk9 ⟨d9, td9, vs9, ns9, np9, rfl, d0, d1, hi9, hl9, rfl⟩ F9 N9
    (try simp only [List.length_map] at hl9)
    (try dsimp only)
    (try k_fold))
  k_with "csrc9" => (
    (refine' srcR_drawn rfl ?F (swap2 ?N) ?hr ?hsm ?hn ?h5 ?hi ?hl ?hT ?hbP ?hbT ?_ ?_)
    (case F => k_asm)
    (case N => k_asm)
    (case hr => assumption)
    (case hsm => exact (range5 d0 d1).1)
    (case hn => exact (range5 d0 d1).2.1)
    (case h5 => exact (range5 d0 d1).2.2)
    (case hi => assumption)
    (case hl => omega)
    (case hT => assumption)
    (case hbP => k_all)
    (case hbT => k_all)
    all_goals first
      | (rintro g9 ys9 _ ⟨vs8, ns8, np8, oT8, kvs8, nT8, ext8, ks8, rfl, hi8, hl8, hT8, kk8, hn8, hx8, hk8, hy8, hR8⟩
         (try simp only [List.map_cons, List.map_nil] at hx8)
         unfold LCg.FinA
         intro D8 h8 tk8 F8 N8 o8
         (try simp only [List.cons_append, List.nil_append] at N8 o8)
         obtain ⟨aP, aT, aR, aS, adS, asl, rfl, rfl, rfl, rfl, rfl, rfl⟩ := names6 N8
         have q9 := chainN N8 (by refine ⟨?_, ?_, ?_, ?_, ?_, ?_, ?_, ?_, ?_⟩ <;> omega) (by assumption)
         (repeat ((with_reducible rename _ ∧ _ => zz9); clear zz9))
         obtain ⟨qch, qp1, qp2, qp3, qp4, qp5⟩ := q9
         have hpos8 : 0 < ks8.length := by rw [hk8]; omega
         have h58 : ks8.length ≤ 64 := by rw [hk8]; omega
         (try dsimp only))
      | (intro g9 i9 ys9 vs9 ns9 np9 oT9 kvs9 nT9 ext9 ks9 I9 oI9 C9 oC9 D9 m9 h9 tk9 E9 hi0 hi9 hl9 hT9 kk9 hn9 hx9 hk9 hy9 hR9 hz9 hoP9 hoT9 hC9 F9 N9 off9 ne9
         have hx8 := hx9
         (try simp only [List.map_cons, List.map_nil] at hx8)
         (try simp only [List.cons_append, List.nil_append] at N9)))
  k_with "call9" => (
    (refine' ctr_use (wid_spec _ _ _ _ _ _ _ _ _ _ _ ?hi ?hl ⟨_, _, _, _, ?s1, ?s2⟩ ?hT ?loT ?kk ?n1 ?hPT ?offP ?offT) ?k1 ?k2 ?k3 (rot4 (rot4 ?k4)) ?k5 ?k6 ?k7 ?k8 ?_)
    (case k4 => k_asm)
    (case hi => assumption)
    (case hl => assumption)
    (case s1 => k_mem)
    (case s2 => k_mem)
    (case hT => assumption)
    (case loT => assumption)
    (case kk => assumption)
    (case n1 => assumption)
    (case hPT => k_ne)
    (case offP => exact hoP9)
    (case offT => exact hoT9)
    (case k1 => k_asm)
    (case k2 => k_asm)
    (case k3 => k_asm)
    (case k5 => k_asm)
    (case k6 => first | exact rfl | assumption)
    (case k7 => ktr_room)
    (case k8 => ktr_units)
    rintro r9 news9 h9 tk9 ⟨vs7, np7, oT7, rest7, rfl, wp7⟩ F9 N9
    (try dsimp only)
    (try k_fold))
  k_with "cend9" => ((refine' drawn_next hx9 hn9 hk9 hy9 hR9 off9 ?F ?N wp7); (case F => k_asm); (case N => k_asm))
  k_with "comp9" => (
    (with_reducible show wpAny _ _ (eval (PySem.Expr.ListComp _ [⟨PySem.Expr.Name _ _, PySem.Expr.Name _ _, [], 0⟩] _ _) _) _ _ _)
    (refine' LCg.ListComp_U (F₀ := by k_asm) ?a1 ?a2 ?a3 ?a4 ?a5 ?_)
    (case a1 => with_unfolding_all rfl)
    (case a2 => decide)
    (case a3 => rfl)
    (case a4 => decide)
    (case a5 => rfl))
  k_with "csrc9" => (
    (with_reducible show LCg.CompSrc _ _ _ _ _ _ _ (PySem.Expr.Subscript (PySem.Expr.Name _ _) (PySem.Expr.Constant (PySem.Const.int 0) _ _) _) _ _ _ _ _ _)
    (rename World => w0)
    (refine' srcU_map (Rin := PairD w0 kvs8 ext8) (Rout := WD w0 kvs8 ext8) (ks := ks8) rfl ?F ?N ?hm hR8 ?hlen ?hsz ?_ ?_)
    (case F => k_asm)
    (case N => k_asm)
    (case hm => k_mem)
    (case hlen => rw [hy8, hk8])
    (case hsz => (rw [hy8]; exact Nat.le_trans (range5 d0 d1).2.2 (by rw [sizeLine_eq]; decide)))
    all_goals first
      | (intro g9 ws7 hl7 hW7
         unfold LCg.FinE
         intro D7 h7 tk7 F7 N7 o7
         obtain ⟨qd7a, qd7b, qd7c⟩ := offA o7)
      | (rintro g9 yz9 _ k9 I9 oI9 C9 oC9 D9 m9 h9 tk9 E9 ⟨tp9, wv9, ka9, us9, nk9, nt9, rfl, m1, m2, m3, m4, m5⟩ hC9 hx9 F9 N9 off9 ne9))
  k_with "cend9" => (
    (refine' LCg.CompEnd.intro ?F ?N _ (fun p hp => hp) off9 (Or.inr ⟨_, ?m, ?c1, _, ?c2⟩) ⟨rfl, ?r⟩)
    (case F => k_asm)
    (case N => k_asm)
    (case m => k_mem)
    (case c1 => rfl)
    (case c2 => rfl)
    (case r => exact m4))
  k_with "csrc9" => (
    (with_reducible show LCg.CompSrc _ _ _ _ _ _ _ (PySem.Expr.Subscript _ (PySem.Expr.Constant (PySem.Const.int 1) _ _) _) _ _ _ _ _ _)
    (rename World => w0)
    (refine' srcU_map (Rin := PairD w0 kvs8 ext8) (Rout := fun v k => RowD ext8 v k ∧ ∀ x ∈ k, x ∈ theStates) (ks := ks8) rfl ?F ?N ?hm hR8 ?hlen ?hsz ?_ ?_)
    (case F => k_asm)
    (case N => k_asm)
    (case hm => k_mem)
    (case hlen => rw [hy8, hk8])
    (case hsz => (rw [hy8]; exact Nat.le_trans (range5 d0 d1).2.2 (by rw [sizeLine_eq]; decide)))
    all_goals first
      | (intro g9 ws6 hl6 hW6
         unfold LCg.FinE
         intro D6 h6 tk6 F6 N6 o6
         obtain ⟨qd6a, qd6b, qd6c⟩ := offB o6
         replace N6 := news_drop3 N6)
      | (rintro g9 yz9 _ k9 I9 oI9 C9 oC9 D9 m9 h9 tk9 E9 ⟨tp9, wv9, ka9, us9, nk9, nt9, rfl, m1, m2, m3, m4, m5⟩ hC9 hx9 F9 N9 off9 ne9))
  k_with "cend9" => (
    (refine' LCg.CompEnd.intro ?F ?N _ (fun p hp => hp) off9 (Or.inr ⟨_, ?m, ?c1, _, ?c2⟩) ⟨rfl, ?r⟩)
    (case F => k_asm)
    (case N => k_asm)
    (case m => k_mem)
    (case c1 => rfl)
    (case c2 => rfl)
    (case r => exact ⟨⟨ka9, us9, nk9, rfl, m2, m3⟩, m5⟩))
  k_with "csrc9" => (
    (with_reducible show LCg.CompSrc _ _ _ _ _ _ _ (PySem.Expr.Call (PySem.Expr.Name _ _) _ _ _) _ _ _ _ _ _)
    (rename World => w0)
    (refine' srcU_grow (Rin := WD w0 kvs8 ext8) (Rout := RowD) (ks := ks8) RowD.mono rfl ?F ?N ?hm hW7 ?hlen ?hsz ?_ ?_)
    (case F => k_asm)
    (case N => k_asm)
    (case hm => k_mem)
    (case hlen => exact hl7)
    (case hsz => (rw [hl7, hk8]; exact Nat.le_trans (range5 d0 d1).2.2 (by rw [sizeLine_eq]; decide)))
    all_goals first
      | (intro g9 ys5 ext5 hl5 hR5
         unfold LCg.FinE
         intro D5 h5 tk5 F5 N5 o5
         (try simp only [List.cons_append, List.nil_append] at N5))
      | (intro g9 yz9 ext9 v9 k9 I9 oI9 C9 oC9 D9 m9 h9 tk9 E9 wd9 hC9 hx9 F9 N9 off9 ne9
         (try simp only [List.cons_append, List.nil_append] at N9)))
  k_with "call9" => (
    (refine' ctr_use (on_any ?hTm ⟨_, _, _, _, ?s1, ?s2⟩ ?hT ?loT (WD.mono wd9 Grows.rfl ?sb)) ?k1 ?k2 ?k3 ?k4 ?k5 ?k6 ?k7 ?k8 ?_)
    (case k4 => k_asm)
    (case s1 => k_mem)
    (case s2 => k_mem)
    (case hTm => k_mem)
    (case hT => assumption)
    (case loT => assumption)
    (case sb => (intro p hp; simp only [List.mem_cons, List.mem_append]; simp only [hp, or_true, true_or]))
    (case k1 => k_asm)
    (case k2 => k_asm)
    (case k3 => k_asm)
    (case k5 => k_asm)
    (case k6 => first | exact rfl | assumption)
    (case k7 => ktr_room)
    (case k8 => ktr_units)
    rintro r9 news9 h9 tk9 ⟨a9, vs9, n9, rfl, rfl, hS9, o9⟩ F9 N9
    (try dsimp only)
    (try k_fold))
  k_with "cend9" => (
    (refine' grow_end off9 ?F ?N o9 (Or.inr ⟨_, List.mem_append_left _ ?m, ?c1, _, ?c2⟩) ⟨a9, vs9, n9, rfl, .head _, hS9⟩)
    (case F => k_asm)
    (case N => k_asm)
    (case m => k_mem)
    (case c1 => rfl)
    (case c2 => rfl))
  k_with "ne9" => (
    (refine' ne_rows (ks := ks8) ?N ?m1 ?m2 hl5 (rows_mono ?sa hR5) hl6 (rows_mono ?sb (rows_left hW6)) (rows_ok hl6 hW6) ?hu ?_)
    (case N => k_asm)
    (case m1 => k_mem)
    (case m2 => k_mem)
    (case sa => (intro p hp; simp only [List.mem_cons, List.mem_append]; simp only [hp, or_true, true_or]))
    (case sb => (intro p hp; simp only [List.mem_cons, List.mem_append]; simp only [hp, or_true, true_or]))
    (case hu => ke_room)
    (replace N5 := drop13 N5)
    clear o5 o6 o7 o8 hR5 hl5)
  k_with "item9" => (
    (refine' my_itemT ?qN ?qm ?qa ?qb ?qx ?_ ?qs)
    (case qN => k_asm)
    (case qm => k_mem)
    (case qa => decide)
    (case qb => decide)
    (case qx => rfl)
    (case qs => with_unfolding_all rfl))
  k_with "item9" => (
    (with_reducible show wpAny _ _ (subscriptTail (PySem.Expr.Tuple _ _ _) _ (Value.ref _) (Value.int d9 _)) _ _ _)
    (have hd2 : d9 < 2 := by assumption)
    (rcases (by omega : d9 = 0 ∨ d9 = 1) with hz9 | hz9)
    all_goals subst hz9)
  k_with "call9" => (
    (obtain ⟨w1, wr, ew⟩ := cons_of (l := ws7) (by rw [hl7]; exact hpos8))
    (subst ew)
    (refine' ctr_use (field_of _ _ _ _ _ _ _ _ _ _ ?fW) ?k1 ?k2 ?k3 ?k4 ?k5 ?k6 ?k7 ?k8 ?_)
    (case k4 => k_asm)
    (case fW => k_mem)
    (case k1 => k_asm)
    (case k2 => k_asm)
    (case k3 => k_asm)
    (case k5 => k_asm)
    (case k6 => first | exact rfl | assumption)
    (case k7 => ktr_room)
    (case k8 => ktr_units)
    rintro r9 news9 h9 tk9 ⟨leaf9, dl9, H9, ol9, oH9, rfl, rfl, lf9, hf1, hf2, hf3⟩ F9 N9
    (k_lt hf1)
    (try rw [pow25] at lf9)
    (try dsimp only)
    (try k_fold))
  k_with "for9" => (
    (rename Fr _ _ _ _ => lF')
    (with_unfolding_all refine' For_turns lF' ?_)
    k_whole)
  k_with "iter9" => (
    (rename Fr _ _ _ _ => lF'); (rename News _ _ _ _ => lN')
    (with_unfolding_all refine' turns_cellU [PySem.Str.ofString "heard"] FiveSt (PySem.Str.ofString "state") rfl ?tl ?tU ?tm ?tn lF' lN' ?tc (five_st (.cons _ _ (.cons _ _ (.cons _ _ (.cons _ _ (.cons _ _ .nil)))))) ?_ ?_)
    (case tl => with_unfolding_all rfl)
    (case tm => k_mem)
    (case tU => k_updF)
    (case tn => k_ne)
    (case tc => exact ⟨_, by assumption⟩)
    all_goals first
      | (rintro _ c9 cv9 u9 h9 tk9 own9 ⟨st9, tst9, rfl, hst9⟩ hoff9 hc9 F9 N9
         clear lF' lN'
         (try simp only [List.map_cons] at hoff9)
         (try simp only [List.cons_append] at N9)
         (try dsimp only))
      | (intro c9 cv9 u9 h9 tk9 hc9 F9 N9
         clear lF' lN'
         (try dsimp only at N9)
         (try dsimp only)))
  k_with "call9" => (
    (rename World => w0)
    (refine' ctr_use (shown_of (kvs := kvs8) (ks := ks8) ?hTm ⟨_, _, _, _, ?s1, ?s2⟩ ?hT ?loT (LeafIn.mono lf9 ?sb1) ?fl0 ?fl1 ?hW (wds_mono (l := ext8) ?sb2 hW7) hl7 h58) ?k1 ?k2 ?k3 ?k4 ?k5 ?k6 ?k7 ?k8 ?_)
    (case k4 => k_asm)
    (case s1 => k_mem)
    (case s2 => k_mem)
    (case hTm => k_mem)
    (case hT => assumption)
    (case loT => assumption)
    (case sb1 => exact fun p hp => by simp only [List.mem_cons, List.not_mem_nil, or_false] at hp; rcases hp with rfl | rfl | rfl <;> k_mem)
    (case fl0 => omega)
    (case fl1 => omega)
    (case hW => k_mem)
    (case sb2 => (intro p hp; simp only [List.mem_cons, List.mem_append]; simp only [hp, or_true, true_or]))
    (case k1 => k_asm)
    (case k2 => k_asm)
    (case k3 => k_asm)
    (case k5 => k_asm)
    (case k6 => first | exact rfl | assumption)
    (case k7 => ktr_room)
    (case k8 => ktr_units)
    rintro r9 news9 h9 tk9 ⟨aH, vH, nH, rfl, rfl, hSH, lH⟩ F9 N9
    (try dsimp only)
    (try k_fold))
  k_with "call9" => (
    (refine' ctr_use (due_of (ks := ks8) ?hW (rows_mono (l := ext8) ?sb (rows_left hW6)) hl6 h58) ?k1 ?k2 ?k3 ?k4 ?k5 ?k6 ?k7 ?k8 ?_)
    (case k4 => k_asm)
    (case hW => k_mem)
    (case sb => (intro p hp; simp only [List.mem_cons, List.mem_append]; simp only [hp, or_true, true_or]))
    (case k1 => k_asm)
    (case k2 => k_asm)
    (case k3 => k_asm)
    (case k5 => k_asm)
    (case k6 => first | exact rfl | assumption)
    (case k7 => ktr_room)
    (case k8 => ktr_units)
    rintro r9 news9 h9 tk9 ⟨aD, vD, nD, rfl, rfl, hSD, lD⟩ F9 N9
    first
    | (have hS1 : StrsAre vH (shown false st9 ks8) := lone_conv hSH (by first | exact lone_no (by first | decide | decide +kernel) | exact lone_no2 (by omega))
       have hS2 : StrsAre vD (shown false st9 ks8) := lone_conv hSD (by first | exact not_one_no (by assumption) | decide | decide +kernel))
    | (have hS1 : StrsAre vH (shown true st9 ks8) := lone_conv hSH (lone_yes (by first | decide | decide +kernel) (by omega))
       have hS2 : StrsAre vD (shown true st9 ks8) := lone_conv hSD (not_one_yes (by assumption)))
    clear hSH hSD lH lD
    (try dsimp only)
    (try k_fold))
  k_with "ne9" => (
    (refine' ne_strs ?N ?m1 ?m2 hS1 hS2 rfl (shown_ok hst9) ?hu ?_)
    (case N => k_asm)
    (case m1 => k_mem)
    (case m2 => k_mem)
    (case hu => ke_room))
  k_with "comp9" => (
    (with_reducible show wpAny _ _ (eval (PySem.Expr.ListComp _ [⟨PySem.Expr.Name _ _, PySem.Expr.Name _ _, [_], 0⟩] _ _) _) _ _ _)
    (refine' LCt.ListComp_T (F₀ := by k_asm) ?a1 ?a2 ?a3 ?a4 ?a5 ?_)
    (case a1 => with_unfolding_all rfl)
    (case a2 => decide)
    (case a3 => rfl)
    (case a4 => decide)
    (case a5 => rfl))
  k_with "csrc9" => (
    (refine' srcT_filter (fun x => !(x == PySem.Str.ofString "Off")) rfl ?F ?N ?hm hS1 ?hsz ?_ ?_)
    (case F => k_asm)
    (case N => k_asm)
    (case hm => k_mem)
    (case hsz => (rw [hS1.length, shown_len]; exact Nat.le_trans h58 (by rw [sizeLine_eq]; decide)))
    all_goals first
      | (intro g9 yf hSf
         unfold LCg.FinE
         intro Df hf tkf Ff Nf of
         have hle : yf.length ≤ 1 := by rw [hSf.length]; exact lone_filter st9 ks8)
      | (intro g9 yz9 x5 t5 I9 oI9 C9 oC9 D9 m9 h9 tk9 E9 hC9 hx9 F9 N9 off9 ne9))
  k_with "cend9" => (
    (refine' LCg.CompEnd.intro ?F ?N _ (fun p hp => hp) off9 (Or.inr ⟨_, ?m, ?c1, _, ?c2⟩) ?r)
    (case F => k_asm)
    (case N => k_asm)
    (case r => first | exact ⟨rfl, by assumption, _, rfl⟩ | exact ⟨rfl, by assumption⟩)
    (case m => k_mem)
    (case c1 => rfl)
    (case c2 => rfl))
  k_with "csrc9" => (
    (with_reducible show LCg.CompSrc _ _ _ _ _ _ _ (PySem.Expr.Subscript (PySem.Expr.Call _ _ _ _) _ _) _ _ _ _ _ _)
    (rename World => w0)
    (refine' srcU_map (Rin := WD w0 kvs8 ext8) (Rout := fun v k => ∃ t, v = Value.str (mark st9 k) t) (ks := ks8) rfl ?F ?N ?hm hW7 ?hlen ?hsz ?_ ?_)
    (case F => k_asm)
    (case N => k_asm)
    (case hm => k_mem)
    (case hlen => exact hl7)
    (case hsz => (rw [hl7]; exact Nat.le_trans h58 (by rw [sizeLine_eq]; decide)))
    all_goals first
      | (intro g9 yc hlc hRc
         unfold LCg.FinE
         intro Dc hc tkc Fc Nc oc
         have hSc := strs_of_marks hlc hRc
         rw [marks_false] at hSc)
      | (intro g9 yz9 v9 k9 I9 oI9 C9 oC9 D9 m9 h9 tk9 E9 wd9 hC9 hx9 F9 N9 off9 ne9))
  k_with "call9" => (
    (have wd8 := wd9)
    (refine' ctr_use (field_of _ _ _ _ _ _ _ _ _ _ ?fW) ?k1 ?k2 ?k3 ?k4 ?k5 ?k6 ?k7 ?k8 ?_)
    (case k4 => k_asm)
    (case fW => k_mem)
    (case k1 => k_asm)
    (case k2 => k_asm)
    (case k3 => k_asm)
    (case k5 => k_asm)
    (case k6 => first | exact rfl | assumption)
    (case k7 => ktr_room)
    (case k8 => ktr_units)
    rintro r9 news9 h9 tk9 ⟨leafC, dlC, HC, olC, oHC, rfl, rfl, lfC, hfC1, hfC2, hfC3⟩ F9 N9
    clear hfC1 hfC2 hfC3
    (try dsimp only)
    (try k_fold))
  k_with "call9" => (
    (rename World => w0)
    (refine' ctr_use (shown_single (kvs := kvs8) ?hTm ⟨_, _, _, _, ?s1, ?s2⟩ ?hT ?loT (LeafIn.mono lfC ?sb1) ?fl0 ?fl1 ?hW (WD.mono wd9 Grows.rfl ?sb2)) ?k1 ?k2 ?k3 ?k4 ?k5 ?k6 ?k7 ?k8 ?_)
    (case k4 => k_asm)
    (case s1 => k_mem)
    (case s2 => k_mem)
    (case hTm => k_mem)
    (case hT => assumption)
    (case loT => assumption)
    (case sb1 => exact fun p hp => by simp only [List.mem_cons, List.not_mem_nil, or_false] at hp; rcases hp with rfl | rfl | rfl <;> k_mem)
    (case fl0 => decide)
    (case fl1 => decide)
    (case hW => k_mem)
    (case sb2 => (intro p hp; simp only [List.mem_cons, List.mem_append]; simp only [hp, or_true, true_or]))
    (case k1 => k_asm)
    (case k2 => k_asm)
    (case k3 => k_asm)
    (case k5 => k_asm)
    (case k6 => first | exact rfl | assumption)
    (case k7 => ktr_room)
    (case k8 => ktr_units)
    rintro r9 news9 h9 tk9 ⟨aC, tC, nC, rfl, rfl⟩ F9 N9
    (try dsimp only)
    (try k_fold))
  k_with "item9" => (
    (with_reducible show wpAny _ _ (subscriptTail (PySem.Expr.Call _ _ _ _) _ (Value.ref aC) (Value.int _ _)) _ _ _)
    (refine' my_itemL ?qN ?qm ?qa ?qb ?qx ?_ ?qs)
    (case qN => k_asm)
    (case qm => k_mem)
    (case qa => decide)
    (case qb => decide)
    (case qx => rfl)
    (case qs => with_unfolding_all rfl))
  k_with "cend9" => (
    (have tC9 := tC)
    (refine' LCg.CompEnd.intro ?F ?N _ ?sub off9 (Or.inr ⟨_, ?m, ?c1, _, ?c2⟩) ⟨rfl, _, rfl⟩)
    (case F => k_asm)
    (case N => k_asm)
    (case sub => exact fun p hp => List.Mem.tail _ (List.Mem.tail _ (List.Mem.tail _ (List.Mem.tail _ (List.Mem.tail _ hp)))))
    (case m => k_mem)
    (case c1 => rfl)
    (case c2 => rfl))
  k_with "ne9" => (
    (refine' ne_strs ?N ?m1 ?m2 hSc hS1 rfl (shown_ok hst9) ?hu ?_)
    (case N => k_asm)
    (case m1 => k_mem)
    (case m2 => k_mem)
    (case hu => ke_room))
  k_with "csrc9" => (
    exfalso
    exact absurd (a := _ = (1 : Int)) (by with_reducible assumption) (by with_reducible assumption))
  k_with "len9" => (
    (refine' my_len ?qN ?qm hle ?_)
    (case qN => k_asm)
    (case qm => k_mem)
    intro kL hkL)
  k_with "call9" => (
    (refine' ctr_use (table_of _ _) ?k1 ?k2 ?k3 ?k4 ?k5 ?k6 ?k7 ?k8 ?_)
    (case k4 => k_asm)
    (case k1 => k_asm)
    (case k2 => k_asm)
    (case k3 => k_asm)
    (case k5 => k_asm)
    (case k6 => first | exact rfl | assumption)
    (case k7 => ktr_room)
    (case k8 => ktr_units)
    rintro r9 news9 h9 tk9 ⟨rfl, rfl⟩ F9 N9
    (try dsimp only)
    (try k_fold))
  k_with "cw0" => (
    (with_reducible show wpAny _ _ (callWith _ (Value.ref _) [] (backTo _ (starEach [] _)) []) _ _ _)
    (with_reducible rename Fr _ _ _ _ => FF9)
    (refine' callWith_K0 (Frag.In.keeps (by with_reducible assumption) (Fr.keep FF9)) ?k2 ?_)
    (case k2 => k_is)
    k_whole)
  k_go0
  (all_goals try k_fold)
  repeat' (first
    | (k_unfold; (try dsimp only))
    | (kc_bool; (refine goodW_bool (by with_reducible assumption) (by with_reducible assumption) (raisesW_false ?_) ?_); (· wrow_none_raised); (· kc_post))
    | walk1
    | (dsimp only; walk1)
    | (leave1; walk_say "STEP leave1"; (try dsimp only))
    | fail "no step"))
end Mine

theorem PySem.Challenge.cw_og0171_01_holds : PySem.Challenge.rw_og0171_01.Holds :=
  Mine.tst
