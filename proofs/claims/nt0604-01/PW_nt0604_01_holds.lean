import PyProof.Rows.All
import Wide.All
import OpenK.AllK
import Wide.FinOn
import PySem.Challenge.RW_nt0604_01
open PySem PySem.W PyProof.Rows
set_option Elab.async false
namespace Mine
def dum : Str := Str.ofString "a"
theorem dumE : dum = dum := rfl
name_quick tw10480804958178285256 for dum by dumE
name_quick tw281665196729794925 for dum by dumE
name_quick tw15077462480116706307 for dum by dumE
name_quick tw2231474651279930693 for dum by dumE
name_quick tw10744075659706869391 for dum by dumE
name_quick tw8724323679494212831 for dum by dumE
name_quick tw10520970705511088693 for dum by dumE
name_quick tw3458031440963342430 for dum by dumE
name_quick tw17333684458530888725 for dum by dumE
name_quick tw17515658689318759635 for dum by dumE
name_quick tw12729064255756364661 for dum by dumE
name_quick tw15320006034497843299 for dum by dumE
name_quick tw8655435794880665431 for dum by dumE
name_quick tw4153606030159908618 for dum by dumE
name_quick tw7435994115605254952 for dum by dumE
name_quick tw1982775644268424681 for dum by dumE
name_quick tw1577754436267381113 for dum by dumE
name_quick tw17980062430603925404 for dum by dumE
name_quick tw8904404849982600054 for dum by dumE
name_quick tw16296730407794115991 for dum by dumE
name_quick tw18298795713589896576 for dum by dumE
name_quick tw13960741521652274323 for dum by dumE
name_quick tw11970315130783918829 for dum by dumE
name_quick tw11501066995580644387 for dum by dumE
name_quick tw2540295413302615922 for dum by dumE
name_quick tw9513112387727569996 for dum by dumE
name_quick tw17533845344581212123 for dum by dumE
name_quick tw18265204321995019622 for dum by dumE
name_quick tw10210965752016503638 for dum by dumE
name_quick tw7150458780086321273 for dum by dumE
name_quick tw4380156680501920910 for dum by dumE
name_quick tw2887654496546564332 for dum by dumE
name_quick tw15221639167402749990 for dum by dumE
name_quick tw439241617959760888 for dum by dumE
name_quick tw2114447097702046585 for dum by dumE
name_quick tw7280820427524293459 for dum by dumE
name_quick tw10841528520565631085 for dum by dumE
name_quick tw380730306397987644 for dum by dumE
name_quick tw9176354378514780783 for dum by dumE
name_quick tw12222513555882031776 for dum by dumE
name_quick tw2110652434027478484 for dum by dumE
name_quick tw837040978061746920 for dum by dumE
name_quick tw11067136458907788033 for dum by dumE
name_quick tw10257025177318188769 for dum by dumE
name_quick tw16913023487339990578 for dum by dumE
name_quick tw16969975611730382011 for dum by dumE
name_quick tw6347087643196178181 for dum by dumE
name_quick tw11840880266394294864 for dum by dumE
name_quick tw9093226242106196354 for dum by dumE
name_quick tw5090079088351867765 for dum by dumE
name_quick tw3900299288478300312 for dum by dumE
name_quick tw8807571745029995747 for dum by dumE
name_quick tw17222967324614647464 for dum by dumE
name_quick tw11237547619942743819 for dum by dumE
name_quick tw10935311082945331550 for dum by dumE
name_quick tw4897832761515089569 for dum by dumE
name_quick tw4245266443924452552 for dum by dumE
name_quick tw10168358469939154311 for dum by dumE
name_quick tw7525612260639024257 for dum by dumE
name_quick tw12097028110895882897 for dum by dumE
name_quick tw12246675824444853676 for dum by dumE
name_quick tw480893705013343934 for dum by dumE
name_quick tw4277151097557716293 for dum by dumE
name_quick tw5512666800483695320 for dum by dumE
name_quick tw15921878663271159444 for dum by dumE
name_quick tw10712604749688603702 for dum by dumE
name_quick tw6391679443220357861 for dum by dumE
name_quick tw9110282741651246050 for dum by dumE
name_quick tw11556555537116558780 for dum by dumE
name_quick tw14381847489608064432 for dum by dumE
name_quick tw14906095594227576969 for dum by dumE
name_quick tw5274501736263998017 for dum by dumE
name_quick tw4726428624801933844 for dum by dumE
name_quick tw14570408757171991119 for dum by dumE
name_quick tw14853506164390503723 for dum by dumE
name_quick tw9792219707927341584 for dum by dumE
name_quick tw12149832395431230986 for dum by dumE
name_quick tw2348886146047712700 for dum by dumE
name_quick tw1404247510947455599 for dum by dumE
name_quick tw15935397240023096981 for dum by dumE
name_quick tw16736656316283682214 for dum by dumE
name_quick tw15549557060225217195 for dum by dumE
name_quick tw14415923932518149871 for dum by dumE
name_quick tw412568507593396325 for dum by dumE
name_quick tw13384785137141631146 for dum by dumE
name_quick tw11844651618298844263 for dum by dumE
name_quick tw13582736691875374837 for dum by dumE
name_quick tw7663847847506153543 for dum by dumE
name_quick tw4845728179635069534 for dum by dumE
name_quick tw1803594142238410939 for dum by dumE
name_quick tw17485251355557166531 for dum by dumE
name_quick tw9896992581779106052 for dum by dumE
name_quick tw15057087113457054318 for dum by dumE
name_quick tw2136346104802422874 for dum by dumE
name_quick tw5390544303138559473 for dum by dumE
name_quick tw10094252202457299834 for dum by dumE
name_quick tw695824079954224578 for dum by dumE
name_quick tw11766423123058873592 for dum by dumE
name_quick tw16668017684058325876 for dum by dumE
name_quick tw4018304476878762325 for dum by dumE
name_quick tw3754961812005970507 for dum by dumE
name_quick tw11142291540632167166 for dum by dumE
name_quick tw5237402013595296930 for dum by dumE
name_quick tw11622831768849364543 for dum by dumE
name_quick tw3919998699035399964 for dum by dumE
name_quick tw554633139271600890 for dum by dumE
name_quick tw7720366030645978136 for dum by dumE
name_quick tw5666444460960368785 for dum by dumE
name_quick tw17498538802111083270 for dum by dumE
name_quick tw677388467771208819 for dum by dumE
name_quick tw4042192974090523054 for dum by dumE
name_quick tw15637621129038578855 for dum by dumE
name_quick tw10073441780476427775 for dum by dumE
name_quick tw2839753355694952852 for dum by dumE
name_quick tw8642067239939848140 for dum by dumE
name_quick tw16494616584097029746 for dum by dumE
name_quick tw15560500314895047343 for dum by dumE
name_quick tw13925586954763233925 for dum by dumE
name_quick tw3093977132361051618 for dum by dumE
name_quick tw16644606511662114574 for dum by dumE
name_quick tw4011157648589011858 for dum by dumE
name_quick tw17057272898397164401 for dum by dumE
name_quick tw607167704815816724 for dum by dumE
name_quick tw3424931102881643321 for dum by dumE
name_quick tw5620657436408473524 for dum by dumE
name_quick tw6434138532213402376 for dum by dumE
name_quick tw8424611434330503625 for dum by dumE
name_quick tw11838138170533393997 for dum by dumE
name_quick tw15900120412870309639 for dum by dumE
name_quick tw9467589175468403638 for dum by dumE
name_quick tw724751600484774222 for dum by dumE
name_quick tw5189142188285759775 for dum by dumE
name_quick tw12995863372533806773 for dum by dumE
name_quick tw7250012664060256230 for dum by dumE
name_quick tw10938465397075749097 for dum by dumE
name_quick tw11939915149646268982 for dum by dumE
name_quick tw9951705424602377420 for dum by dumE
name_quick tw16697116713213952808 for dum by dumE
name_quick tw716658179208862652 for dum by dumE
name_quick tw1218959903707654005 for dum by dumE
name_quick tw16846860572762119324 for dum by dumE
name_quick tw16406328271908756883 for dum by dumE
name_quick tw11994158751524154303 for dum by dumE
name_quick tw13759679279233594173 for dum by dumE
name_quick tw8620020772036689432 for dum by dumE
name_quick tw17532440430192770315 for dum by dumE
name_quick tw3118938333895590913 for dum by dumE
name_quick tw14834023430324568649 for dum by dumE
name_quick tw7365555872484859036 for dum by dumE
name_quick tw6380047634161181297 for dum by dumE
name_quick tw13016732220969518872 for dum by dumE
name_quick tw10996506086634736982 for dum by dumE
name_quick tw14714103240675001986 for dum by dumE
name_quick tw6448080314894763839 for dum by dumE
name_quick tw6059929106960060952 for dum by dumE
name_quick tw4434333111790514575 for dum by dumE
name_quick tw6722154040420286063 for dum by dumE
name_quick tw14778209649434054790 for dum by dumE
name_quick tw13180171748994924942 for dum by dumE
name_quick tw8703263022893421829 for dum by dumE
name_quick tw1355338860687761863 for dum by dumE
name_quick tw392140993173905013 for dum by dumE
name_quick tw5396446701170858492 for dum by dumE
name_quick tw16413264400604254196 for dum by dumE
name_quick tw16339471991904476338 for dum by dumE
name_quick tw17863021456227041891 for dum by dumE
name_quick tw12224578244612797663 for dum by dumE
name_quick tw17280976486791472633 for dum by dumE
name_quick tw2948108419219029167 for dum by dumE
name_quick tw13678640442995254988 for dum by dumE
name_quick tw4275521005467322725 for dum by dumE
name_quick tw2736616831223182526 for dum by dumE
name_quick tw18260038339965228139 for dum by dumE
name_quick tw13607416678640721797 for dum by dumE
name_quick tw4797165386629745026 for dum by dumE
name_quick tw1537898542681612871 for dum by dumE
name_quick tw9759809726879904816 for dum by dumE
name_quick tw18340240734955500558 for dum by dumE
name_quick tw4224760802259116069 for dum by dumE
name_quick tw1139862187096482527 for dum by dumE
name_quick tw17730428716208468724 for dum by dumE
name_quick tw10887116778572429059 for dum by dumE
name_quick tw14386061602966655976 for dum by dumE
name_quick tw9376109419431680627 for dum by dumE
name_quick tw15894407043143930727 for dum by dumE
name_quick tw3131671291697673992 for dum by dumE
name_quick tw4549333791460862111 for dum by dumE
name_quick tw17988542015724977305 for dum by dumE
name_quick tw3778451253796500701 for dum by dumE
name_quick tw4407734736301137906 for dum by dumE
name_quick tw15902184279288820625 for dum by dumE
name_quick tw10500077913531017323 for dum by dumE
name_quick tw17212508698807437452 for dum by dumE
name_quick tw8537084889766193716 for dum by dumE
name_quick tw1184552218554016812 for dum by dumE
name_quick tw11495947367809530248 for dum by dumE
name_quick tw1291980286583624508 for dum by dumE
name_quick tw10424941004445345732 for dum by dumE
name_quick tw8119918657739134586 for dum by dumE
name_quick tw17341736924252097559 for dum by dumE
name_quick tw4090926877573551719 for dum by dumE
name_quick tw10939839348159177617 for dum by dumE
name_quick tw6929956602132211858 for dum by dumE
name_quick tw219737044198020058 for dum by dumE
name_quick tw16049961110935095269 for dum by dumE
name_quick tw1414301608579184545 for dum by dumE
name_quick tw5925582254088234700 for dum by dumE
name_quick tw17001327861769816259 for dum by dumE
name_quick tw7504490480230193789 for dum by dumE
name_quick tw16916688483869632129 for dum by dumE
name_quick tw3766158894648301139 for dum by dumE
name_quick tw11270796479367742343 for dum by dumE
name_quick tw14305139224198610471 for dum by dumE
name_quick tw13036272033356848781 for dum by dumE
name_quick tw14971970265804392439 for dum by dumE
name_quick tw325292655437039998 for dum by dumE
name_quick tw2378363196638174374 for dum by dumE
name_quick tw12866136484021002089 for dum by dumE
name_quick tw11317593695737139937 for dum by dumE
name_quick tw2401699919119007470 for dum by dumE
name_quick tw3880421473898291048 for dum by dumE
name_quick tw18101931140130867144 for dum by dumE
name_quick tw2611137233208623240 for dum by dumE
name_quick tw8897938508979226211 for dum by dumE
name_quick tw12945968074294007009 for dum by dumE
name_quick tw9529234661008812162 for dum by dumE
name_quick tw8708707556590381134 for dum by dumE
name_quick tw16817318245366136608 for dum by dumE
name_quick tw13987355940573415152 for dum by dumE
name_quick tw9948023125614773506 for dum by dumE
name_quick tw16349804527192203551 for dum by dumE
name_quick tw5529568453561195837 for dum by dumE
name_quick tw3355348695024010778 for dum by dumE
name_quick tw16241802466949684156 for dum by dumE
name_quick tw1333364371103165705 for dum by dumE
name_quick tw6198021832179743591 for dum by dumE
name_quick tw5758256569797452207 for dum by dumE
name_quick tw3577408171920636059 for dum by dumE
name_quick tw13833065179229638619 for dum by dumE
name_quick tw10308316962582663543 for dum by dumE
name_quick tw12329403913580668285 for dum by dumE
name_quick tw974560594509533065 for dum by dumE
name_quick tw2408619945344806742 for dum by dumE
name_quick tw9413167413068371254 for dum by dumE
name_quick tw1962928258387122110 for dum by dumE
name_quick tw16439824349840649037 for dum by dumE
name_quick tw470574548607681690 for dum by dumE
name_quick tw1419416864934026935 for dum by dumE
name_quick tw11740888236361828772 for dum by dumE
name_quick tw4978915544186085027 for dum by dumE
name_quick tw8719427161674164953 for dum by dumE
name_quick tw8603108125212654177 for dum by dumE
name_quick tw15542503528162795033 for dum by dumE
name_quick tw3209381107111851631 for dum by dumE
name_quick tw12734952128020822468 for dum by dumE
name_quick tw2958062672499776758 for dum by dumE
name_quick tw9821368406582625841 for dum by dumE
name_quick tw15376083050721069600 for dum by dumE
name_quick tw17532718790514356516 for dum by dumE
name_quick tw7783732958741208154 for dum by dumE
name_quick tw2627984346626558326 for dum by dumE
name_quick tw13809362725867891129 for dum by dumE
name_quick tw17069979004554194336 for dum by dumE
name_quick tw3764465048917985505 for dum by dumE
name_quick tw1702518465993881591 for dum by dumE
name_quick tw5357591511691535388 for dum by dumE
name_quick tw13314330512976039754 for dum by dumE
name_quick tw5345256250457102556 for dum by dumE
name_quick tw15079194523842364033 for dum by dumE
name_quick tw10227693086864044499 for dum by dumE
name_quick tw6817277305950994716 for dum by dumE
name_quick tw16437185098154296904 for dum by dumE
name_quick tw6909570525239066004 for dum by dumE
name_quick tw10487160056961263569 for dum by dumE
name_quick tw11957962974430299695 for dum by dumE
name_quick tw17101871299007795629 for dum by dumE
name_quick tw17000458434675057986 for dum by dumE
name_quick tw2711585505577850959 for dum by dumE
name_quick tw14323765505736481980 for dum by dumE
name_quick tw15980859228951719591 for dum by dumE
name_quick tw11625766737575182897 for dum by dumE
name_quick tw441327347791068078 for dum by dumE
name_quick tw13615603153576403970 for dum by dumE
name_quick tw8693227569615203950 for dum by dumE
name_quick tw10262943654017269364 for dum by dumE
name_quick tw9800571698397750058 for dum by dumE
name_quick tw11707433790658880453 for dum by dumE
name_quick tw13640514254501968386 for dum by dumE
name_quick tw8579058602437062094 for dum by dumE
name_quick tw3362959441861295915 for dum by dumE
name_quick tw14896874001708588922 for dum by dumE
name_quick tw3972328310683599613 for dum by dumE
name_quick tw667198328695590252 for dum by dumE
name_quick tw6019396324639902685 for dum by dumE
name_quick tw4775785305629353868 for dum by dumE
name_quick tw14537914154153760125 for dum by dumE
name_quick tw6144853644547557980 for dum by dumE
name_quick tw2354101950205528012 for dum by dumE
name_quick tw10919533547850550483 for dum by dumE
name_quick tw14108194823987119177 for dum by dumE
name_quick tw14311459727803291754 for dum by dumE
name_quick tw947438040082793914 for dum by dumE
name_quick tw136631920214876835 for dum by dumE
name_quick tw912392155897948271 for dum by dumE
name_quick tw15112985482279097393 for dum by dumE
name_quick tw7299303143086499733 for dum by dumE
name_quick tw7581352650102555174 for dum by dumE
name_quick tw15195428891847259777 for dum by dumE
name_quick tw608726401823008365 for dum by dumE
name_quick tw4936483359421988267 for dum by dumE
name_quick tw14433975572909055671 for dum by dumE
name_quick tw13002492023102617099 for dum by dumE
name_quick tw1749818173716722547 for dum by dumE
name_quick tw5701610774189311196 for dum by dumE
name_quick tw3891137856419664920 for dum by dumE
name_quick tw7496433998918960881 for dum by dumE
name_quick tw2283851925072248500 for dum by dumE
name_quick tw13915792640404377917 for dum by dumE
name_quick tw13254397897704925713 for dum by dumE
name_quick tw7619357645376055252 for dum by dumE
name_quick tw12726346659333912481 for dum by dumE
name_quick tw2599325451414397859 for dum by dumE
name_quick tw10057510723706494237 for dum by dumE
name_quick tw6363645014702824404 for dum by dumE
name_quick tw1156252341971683116 for dum by dumE
name_quick tw3436264866546951355 for dum by dumE
name_quick tw4075660801711882420 for dum by dumE
name_quick tw5565278806992967083 for dum by dumE
name_quick tw6967401301877209104 for dum by dumE
name_quick tw11796506867022685745 for dum by dumE
name_quick tw9504726810853072989 for dum by dumE
name_quick tw10073347824450446311 for dum by dumE
name_quick tw13912434898499826684 for dum by dumE
name_quick tw7788680626742099145 for dum by dumE
name_quick tw7009043117176579089 for dum by dumE
name_quick tw17274371674624000324 for dum by dumE
name_quick tw43969757491396457 for dum by dumE
name_quick tw11445135464325071761 for dum by dumE
name_quick tw5268983451555188008 for dum by dumE
name_quick tw11985326045990495214 for dum by dumE
name_quick tw16176465441171805009 for dum by dumE
name_quick tw14821650378409806113 for dum by dumE
name_quick tw3152983702415266003 for dum by dumE
name_quick tw13776390136698705113 for dum by dumE
name_quick tw2422670821966735624 for dum by dumE
name_quick tw282004115355043989 for dum by dumE
name_quick tw2862820112641550484 for dum by dumE
name_quick tw1886563365779066154 for dum by dumE
name_quick tw932993149863042379 for dum by dumE
name_quick tw16531745337717519161 for dum by dumE
name_quick tw7232422423428716515 for dum by dumE
name_quick tw1829445100760108279 for dum by dumE
name_quick tw12450158673883907302 for dum by dumE
name_quick tw17024950926791866790 for dum by dumE
name_quick tw17730448691065144110 for dum by dumE
name_quick tw12268644228514654432 for dum by dumE
name_quick tw2334299552400917057 for dum by dumE
name_quick tw6213141578215901147 for dum by dumE
name_quick tw10015664371746657536 for dum by dumE
name_quick tw900395245841561262 for dum by dumE
name_quick tw12635297910168745909 for dum by dumE
name_quick tw16752143609539240740 for dum by dumE
name_quick tw14790804165769027240 for dum by dumE
name_quick tw9979284746773624096 for dum by dumE
name_quick tw8595292554425487202 for dum by dumE
name_quick tw18350330562280901221 for dum by dumE
name_quick tw16869277618539721502 for dum by dumE
name_quick tw17244072584429378644 for dum by dumE
name_quick tw682011567655089306 for dum by dumE
name_quick tw2245006971878993143 for dum by dumE
name_quick tw14126943448341045398 for dum by dumE
name_quick tw16741492637210864865 for dum by dumE
name_quick tw14224011070414065920 for dum by dumE
name_quick tw9763268239775435451 for dum by dumE
name_quick tw13317431791736044220 for dum by dumE
name_quick tw13900631225919944168 for dum by dumE
name_quick tw17537794083376710389 for dum by dumE
name_quick tw11108263761283441063 for dum by dumE
name_quick tw3264259588550801142 for dum by dumE
name_quick tw2460228577881660442 for dum by dumE
name_quick tw3820604794100220378 for dum by dumE
name_quick tw11892598404827812706 for dum by dumE
name_quick tw9862997608875712007 for dum by dumE
name_quick tw5882768191206486792 for dum by dumE
name_quick tw9407582987413476825 for dum by dumE
name_quick tw18416463498863911781 for dum by dumE
name_quick tw2902314222560053993 for dum by dumE
name_quick tw8860024209350480642 for dum by dumE
name_quick tw2905824091091238844 for dum by dumE
name_quick tw12022618010286034681 for dum by dumE
name_quick tw15034313371233782410 for dum by dumE
name_quick tw662354867322794072 for dum by dumE
name_quick tw10352308551163946355 for dum by dumE
name_quick tw11863081143760314161 for dum by dumE
name_quick tw1735497430108182060 for dum by dumE
name_quick tw8727135674562949291 for dum by dumE
name_quick tw17164873540382356111 for dum by dumE
name_quick tw13721567128424951087 for dum by dumE
name_quick tw5200128776193632040 for dum by dumE
name_quick tw6789855027759293466 for dum by dumE
name_quick tw12182807814244774211 for dum by dumE
name_quick tw5732905514179830355 for dum by dumE
name_quick tw3560238982266916124 for dum by dumE
name_quick tw6679490504615227074 for dum by dumE
name_quick tw18056578402003937789 for dum by dumE
name_quick tw8488268690174267210 for dum by dumE
name_quick tw9366154903689656853 for dum by dumE
name_quick tw6792406925840432001 for dum by dumE
name_quick tw10042830170769951172 for dum by dumE
name_quick tw5902227825499142635 for dum by dumE
name_quick tw387338674003428930 for dum by dumE
name_quick tw8376441433122354887 for dum by dumE
name_quick tw16374537267813192141 for dum by dumE
name_quick tw8253183596043897158 for dum by dumE
name_quick tw14530364306720264245 for dum by dumE
name_quick tw1041845030581493396 for dum by dumE
name_quick tw9787463984185863102 for dum by dumE
name_quick tw5076957145309523181 for dum by dumE
name_quick tw17913803186225011329 for dum by dumE
name_quick tw11186114360453789277 for dum by dumE
name_quick tw1574873078441994576 for dum by dumE
name_quick tw951843321253372498 for dum by dumE
name_quick tw15089763173135946304 for dum by dumE
name_quick tw11310463157757771331 for dum by dumE
name_quick tw17828083071136270317 for dum by dumE
name_quick tw7081425507203772304 for dum by dumE
name_quick tw189603312586018693 for dum by dumE
name_quick tw1772237422875290029 for dum by dumE
name_quick tw5068434257544371817 for dum by dumE
name_quick tw12635813782599140982 for dum by dumE
name_quick tw6662432510661729299 for dum by dumE
name_quick tw14553827428707814869 for dum by dumE
name_quick tw4748654258956052638 for dum by dumE
name_quick tw5697894365363955025 for dum by dumE
name_quick tw16296994325663420285 for dum by dumE
name_quick tw4278798014809849964 for dum by dumE
name_quick tw15423634916342008072 for dum by dumE
name_quick tw2193789692954389824 for dum by dumE
name_quick tw12945451867199242903 for dum by dumE
name_quick tw4039474712603431140 for dum by dumE
name_quick tw16018607276475445134 for dum by dumE
name_quick tw757081541053455785 for dum by dumE
name_quick tw12611609854453135530 for dum by dumE
name_quick tw5706481520468235054 for dum by dumE
name_quick tw13526986893379352335 for dum by dumE
name_quick tw15490439104401381959 for dum by dumE
name_quick tw17552769576498331613 for dum by dumE
name_quick tw3315324234476444515 for dum by dumE
name_quick tw4921902886906138986 for dum by dumE
name_quick tw11964429278604863157 for dum by dumE
name_quick tw4681523508651956083 for dum by dumE
name_quick tw17300597898927385350 for dum by dumE
name_quick tw7892128664451923741 for dum by dumE
name_quick tw9626621113073979434 for dum by dumE
name_quick tw4966893808263662355 for dum by dumE
name_quick tw7276740287692124622 for dum by dumE
name_quick tw17888162413812561239 for dum by dumE
name_quick tw3976722010076183465 for dum by dumE
name_quick tw14973007898608030118 for dum by dumE
name_quick tw8902219603052485911 for dum by dumE
name_quick tw16643379632663270332 for dum by dumE
name_quick tw2951486255847992690 for dum by dumE
name_quick tw13789449189825218787 for dum by dumE
name_quick tw9136488742655976645 for dum by dumE
name_quick tw15450981722951097364 for dum by dumE
name_quick tw17804436615005485693 for dum by dumE
name_quick tw17992926767131195383 for dum by dumE
name_quick tw1092655722715705105 for dum by dumE
name_quick tw15168306246750427876 for dum by dumE
name_quick tw14979626087600564940 for dum by dumE
name_quick tw3856783459128436802 for dum by dumE
name_quick tw17352973434858128600 for dum by dumE
name_quick tw930746551332336609 for dum by dumE
name_quick tw8989982439271903415 for dum by dumE
name_quick tw18220123701641295943 for dum by dumE
name_quick tw1638017585896720355 for dum by dumE
name_quick tw6148621092414575339 for dum by dumE
name_quick tw17954471519018878134 for dum by dumE
name_quick tw1204117194425446250 for dum by dumE
name_quick tw12488000419048109807 for dum by dumE
name_quick tw6714822604882049554 for dum by dumE
name_quick tw1402947280878808549 for dum by dumE
name_quick tw11161088081135249708 for dum by dumE
name_quick tw8032284361305108907 for dum by dumE
name_quick tw14210447440969649564 for dum by dumE
name_quick tw1401972060568974870 for dum by dumE
name_quick tw11566699232636054958 for dum by dumE
name_quick tw16947794391021106201 for dum by dumE
name_quick tw16966814322356759819 for dum by dumE
name_quick tw17774800907425398282 for dum by dumE
name_quick tw1869930749605803152 for dum by dumE
name_quick tw18263319221461684349 for dum by dumE
name_quick tw11729385059970357855 for dum by dumE
name_quick tw6711915476519705758 for dum by dumE
name_quick tw2039238271031011813 for dum by dumE
name_quick tw17975652961387846372 for dum by dumE
name_quick tw17026713947507217902 for dum by dumE
name_quick tw7269565832213808900 for dum by dumE
name_quick tw12832477231654346042 for dum by dumE
name_quick tw2598896648098034083 for dum by dumE
name_quick tw12172078356533094185 for dum by dumE
name_quick tw7275051467321613617 for dum by dumE
name_quick tw13559156169165276386 for dum by dumE
name_quick tw10029231156530900338 for dum by dumE
name_quick tw9537544019596298400 for dum by dumE
name_quick tw8075568018651887793 for dum by dumE
name_quick tw17672482021469178181 for dum by dumE
name_quick tw7469732015759309437 for dum by dumE
name_quick tw12821735335276811757 for dum by dumE
name_quick tw9673203406766833760 for dum by dumE
name_quick tw17015423121036801654 for dum by dumE
name_quick tw13236226663087606529 for dum by dumE
name_quick tw7035115661146626270 for dum by dumE
name_quick tw12659028871203227004 for dum by dumE
name_quick tw6434265647005701932 for dum by dumE
name_quick tw5111356299099525756 for dum by dumE
name_quick tw5862295025349918931 for dum by dumE
name_quick tw151948405760981731 for dum by dumE
name_quick tw5349121933718820234 for dum by dumE
name_quick tw8753696776887207221 for dum by dumE
name_quick tw11788150170368784547 for dum by dumE
name_quick tw9501820088010722379 for dum by dumE
name_quick tw16942194440817826258 for dum by dumE
name_quick tw4525517667737911620 for dum by dumE
name_quick tw16979880578912567463 for dum by dumE
name_quick tw1706496860858754268 for dum by dumE
name_quick tw4527066259768149269 for dum by dumE
name_quick tw10010936943081839664 for dum by dumE
name_quick tw12371321757623732685 for dum by dumE
name_quick tw14073706353221006472 for dum by dumE
name_quick tw2447775223705975068 for dum by dumE
name_quick tw15742981410569661332 for dum by dumE
name_quick tw2001226814458364393 for dum by dumE
name_quick tw10833955939284561965 for dum by dumE
name_quick tw704327219915372674 for dum by dumE
name_quick tw6125931036764729998 for dum by dumE
name_quick tw9151444980202551346 for dum by dumE
name_quick tw6122645084068987007 for dum by dumE
name_quick tw721709456127091705 for dum by dumE
name_quick tw17964007177503468958 for dum by dumE
name_quick tw15806122291839087668 for dum by dumE
name_quick tw18410474027866654770 for dum by dumE
name_quick tw13215998728584607739 for dum by dumE
name_quick tw183835017167291270 for dum by dumE
name_quick tw313226197891681235 for dum by dumE
name_quick tw6135381517318000843 for dum by dumE
name_quick tw16417370028952169744 for dum by dumE
name_quick tw9564595351457756722 for dum by dumE
name_quick tw11420187438672877268 for dum by dumE
name_quick tw15263041282635125899 for dum by dumE
name_quick tw14884601019740666482 for dum by dumE
name_quick tw9236875199018929784 for dum by dumE
name_quick tw9011979029575296479 for dum by dumE
name_quick tw17394056326795013819 for dum by dumE
name_quick tw16874561944515371726 for dum by dumE
name_quick tw17765544955259793912 for dum by dumE
name_quick tw12290603225136948437 for dum by dumE
name_quick tw15562837088269578035 for dum by dumE
name_quick tw14223099787259518943 for dum by dumE
name_quick tw11543547407058413889 for dum by dumE
name_quick tw13642483538084851733 for dum by dumE
name_quick tw3698559305507148144 for dum by dumE
name_quick tw10948738476641704880 for dum by dumE
name_quick tw10470071008263537045 for dum by dumE
name_quick tw2719445374943340272 for dum by dumE
name_quick tw9908251947323293946 for dum by dumE
name_quick tw4904739604578439355 for dum by dumE
name_quick tw14333388528381170442 for dum by dumE
name_quick tw3105397867545767578 for dum by dumE
name_quick tw11333186260410459676 for dum by dumE
name_quick tw12813236842856870187 for dum by dumE
name_quick tw12392613427281201732 for dum by dumE
name_quick tw1320183511955256522 for dum by dumE
name_quick tw9458956999447867950 for dum by dumE
name_quick tw12233582284571471492 for dum by dumE
name_quick tw5978237884098788730 for dum by dumE
name_quick tw16414604833108395602 for dum by dumE
name_quick tw18273839248471157720 for dum by dumE
name_quick tw8098380416015320538 for dum by dumE
name_quick tw14209830616999942402 for dum by dumE
name_quick tw15066959818950650227 for dum by dumE
name_quick tw7650934615059315214 for dum by dumE
name_quick tw12393455550290869266 for dum by dumE
name_quick tw9138410132503655468 for dum by dumE
name_quick tw1708024556718086227 for dum by dumE
name_quick tw4658958612460137192 for dum by dumE
name_quick tw15823609455315575823 for dum by dumE
name_quick tw17018628822417861297 for dum by dumE
name_quick tw12177639751122801600 for dum by dumE
name_quick tw16655555454665732581 for dum by dumE
name_quick tw10670733350059645105 for dum by dumE
name_quick tw16792545251062261874 for dum by dumE
name_quick tw4575980220486274672 for dum by dumE
name_quick tw3327986453032591115 for dum by dumE
name_quick tw17846936440860909165 for dum by dumE
name_quick tw558745408833754511 for dum by dumE
name_quick tw11277716924127702174 for dum by dumE
name_quick tw17000155066101142889 for dum by dumE
name_quick tw7140130562030077042 for dum by dumE
name_quick tw2315820567201803617 for dum by dumE
name_quick tw4292500188555128830 for dum by dumE
name_quick tw8206430501311747189 for dum by dumE
name_quick tw6245536207120538393 for dum by dumE
name_quick tw15919542637913265678 for dum by dumE
name_quick tw2922074901204462755 for dum by dumE
name_quick tw11306939235166856333 for dum by dumE
name_quick tw6587116730350146372 for dum by dumE
name_quick tw3282434896037501709 for dum by dumE
name_quick tw14781814936221603388 for dum by dumE
name_quick tw5770868932273138760 for dum by dumE
name_quick tw1377046205977697930 for dum by dumE
name_quick tw17827458813498177553 for dum by dumE
name_quick tw9931943479562821362 for dum by dumE
name_quick tw878741703135273975 for dum by dumE
name_quick tw4889476309725832403 for dum by dumE
name_quick tw10317580896714288900 for dum by dumE
name_quick tw6090905460779295987 for dum by dumE
name_quick tw16548257151911338427 for dum by dumE
name_quick tw14214133299417103183 for dum by dumE
name_quick tw10205541121877940668 for dum by dumE
name_quick tw6004533443673955352 for dum by dumE
name_quick tw2664551874359636763 for dum by dumE
name_quick tw17111948838632640456 for dum by dumE
name_quick tw11707371222683016368 for dum by dumE
name_quick tw6589095468515690095 for dum by dumE
name_quick tw2660918139993853925 for dum by dumE
name_quick tw8224813933742928703 for dum by dumE
name_quick tw10007627690174824804 for dum by dumE
name_quick tw12825359941727978080 for dum by dumE
name_quick tw9285146279643344392 for dum by dumE
name_quick tw460243522976405022 for dum by dumE
name_quick tw16413963553889246368 for dum by dumE
name_quick tw2670528217467546775 for dum by dumE
name_quick tw1055568401681811165 for dum by dumE
name_quick tw3039592710220408265 for dum by dumE
name_quick tw17497748084772794779 for dum by dumE
name_quick tw4319705520415482375 for dum by dumE
name_quick tw12647630874787467225 for dum by dumE
name_quick tw12237943961548833269 for dum by dumE
name_quick tw6063507267725322444 for dum by dumE
name_quick tw10942035263794033107 for dum by dumE
name_quick tw12898947447245864913 for dum by dumE
name_quick tw9676229304581654039 for dum by dumE
name_quick tw11588390666370768167 for dum by dumE
name_quick tw3619232141914619222 for dum by dumE
name_quick tw10379131730601215995 for dum by dumE
name_quick tw2968979199505139716 for dum by dumE
name_quick tw8400853705098224536 for dum by dumE
name_quick tw15766043655864335149 for dum by dumE
name_quick tw1370275717833778536 for dum by dumE
name_quick tw2718901123391026995 for dum by dumE
name_quick tw14168537005229113720 for dum by dumE
name_quick tw15007238320947547705 for dum by dumE
name_quick tw18345786424863182364 for dum by dumE
name_quick tw7098571738820278039 for dum by dumE
name_quick tw389472881494512206 for dum by dumE
name_quick tw14112274594779413971 for dum by dumE
name_quick tw11790162104776037713 for dum by dumE
name_quick tw5823794197072137003 for dum by dumE
name_quick tw4302124980754421698 for dum by dumE
name_quick tw347637069881736656 for dum by dumE
name_quick tw10314498396905981064 for dum by dumE
name_quick tw18350638575300117064 for dum by dumE
name_quick tw17344680358763864322 for dum by dumE
name_quick tw17100903815162463580 for dum by dumE
name_quick tw4933834842325187142 for dum by dumE
name_quick tw10706342367453228570 for dum by dumE
name_quick tw9594665118957945026 for dum by dumE
name_quick tw4679858250743294509 for dum by dumE
name_quick tw4405960384096086239 for dum by dumE
name_quick tw9396933662098498411 for dum by dumE
name_quick tw5248340912204065574 for dum by dumE
name_quick tw12850107946570832962 for dum by dumE
name_quick tw9300948228871686676 for dum by dumE
name_quick tw15663404670287596823 for dum by dumE
name_quick tw7745614565497352828 for dum by dumE
name_quick tw9674257727999782656 for dum by dumE
name_quick tw117213463901210413 for dum by dumE
name_quick tw5135500740108067664 for dum by dumE
name_quick tw8450942572126056277 for dum by dumE
name_quick tw10045867985992453528 for dum by dumE
set_option maxRecDepth 100000 in
set_option maxHeartbeats 0 in
open_top hd for PySem.Challenge.rw_nt0604_01
end Mine
set_option compiler.extract_closed false
set_option linter.all false
set_option genSizeOf false
set_option genInjectivity false
set_option maxRecDepth 100000
set_option maxHeartbeats 4000000
namespace Mine
section
noncomputable abbrev Led := List (Addr × Obj)

/-- the end of a statement, or of a def: what follows stands in the name q -/
noncomputable def Nx (q : Flow → Shared → Prop) (fl : Flow) (s : Shared) : Prop := q fl s
/-- what q takes: the statements behind, and for all ends but the plain one what the block takes -/
structure NxE (M : Model) (A : Around) (env : PySem.Env) (E : Value → Shared → Prop) (rest : List Stmt) (Q q : Flow → Shared → Prop) : Prop where
  n : ∀ s, wpAny M A (execs rest env) Q E s → q .next s
  o : ∀ fl s, fl ≠ .next → Q fl s → q fl s
/-- what q takes at a contract's end -/
structure RetE (g : Heap) (s : Shared) (Ret : Value → Led → Prop) (q : Flow → Shared → Prop) : Prop where
  r : ∀ v h tk L m news, Ret v news → Fr g L h m → News g L h news → q (.ret v) { s with heap := h, toks := tk }
  n : ∀ h tk L m news, Ret .none news → Fr g L h m → News g L h news → q .next { s with heap := h, toks := tk }
/-- what q takes at the end of a def that is walked in its caller -/
structure LvE (h₀ : Heap) (L : Addr) (m : PySem.Str → Option Value) (g : Heap) (Q : Value → Shared → Prop) (q : Flow → Shared → Prop) : Prop where
  r : ∀ v s L' m' news, Fr g L' s.heap m' → News g L' s.heap news → (Fr h₀ L s.heap m → News h₀ L s.heap news → Q v s) → q (.ret v) s
  n : ∀ s L' m' news, Fr g L' s.heap m' → News g L' s.heap news → (Fr h₀ L s.heap m → News h₀ L s.heap news → Q .none s) → q .next s
/-- a def's names at its start -/
noncomputable def bd (p : Arguments) (vs : List Value) : List (PySem.Str × Value) := (p.args.map (·.arg)).zip vs
noncomputable def mB (p : Arguments) (vs : List Value) : PySem.Str → Option Value := fun y => (bd p vs).reverse.lookup y
/-- a name stored -/
noncomputable def up (x : PySem.Str) (v : Value) (m : PySem.Str → Option Value) : PySem.Str → Option Value := fun y => if y = x then some v else m y
/-- what a def's text must be -/
noncomputable def scOk (p : Arguments) (scope : Scope) : Bool := (p.args.all fun x => decide (scope.names.lookup x.arg = some .local)) && !scope.isCoroutine && !scope.isGenerator && decide (scope.kind = .function) && scope.names.all fun x => decide (x.2 ≠ .cell)
theorem scOk_loc {p : Arguments} {scope : Scope} (h : scOk p scope = true) {vs : List Value} : ∀ y ∈ bd p vs, scope.names.lookup y.1 = some .local := by
  intro y hy
  simp only [scOk, Bool.and_eq_true] at h
  have hm : y.1 ∈ p.args.map (·.arg) := (List.of_mem_zip (a := y.1) (b := y.2) hy).1
  obtain ⟨x, hx, e⟩ := List.mem_map.mp hm
  exact e ▸ of_decide_eq_true (List.all_eq_true.mp h.1.1.1.1 x hx)
theorem scOk_co {p : Arguments} {scope : Scope} (h : scOk p scope = true) : scope.isCoroutine = false := by
  simp only [scOk, Bool.and_eq_true, Bool.not_eq_true'] at h
  exact h.1.1.1.2
theorem scOk_gen {p : Arguments} {scope : Scope} (h : scOk p scope = true) : scope.isGenerator = false := by
  simp only [scOk, Bool.and_eq_true, Bool.not_eq_true'] at h
  exact h.1.1.2
theorem scOk_kind {p : Arguments} {scope : Scope} (h : scOk p scope = true) : scope.kind = .function := by
  simp only [scOk, Bool.and_eq_true] at h
  exact of_decide_eq_true h.1.2
theorem scOk_cell {p : Arguments} {scope : Scope} (h : scOk p scope = true) : ∀ x ∈ scope.names, x.2 ≠ .cell := by
  simp only [scOk, Bool.and_eq_true] at h
  exact fun x hx => of_decide_eq_true (List.all_eq_true.mp h.2 x hx)

/-- a contract of the def at address f -/
noncomputable def Spec (w : World) (f : Addr) (vs : List Value) (dd uu : Nat) (news : Led) (Ret : Value → Led → Prop) : Prop :=
  ∀ (mean : ExcName → Option Value) (mg mb : PySem.Str → Option Value) (A A₀ : Around) (env : PySem.Env) (outer : List PySem.Env) (base h₀ : Heap) (L : Addr) (m : PySem.Str → Option Value) (s : Shared) (Q E : Value → Shared → Prop),
    Below A₀ base outer h₀ → Fr h₀ L s.heap m → (hd.heap_39 w.params).In h₀ → News h₀ L s.heap news →
    Top hd.view_39 (looseW hd.view_39 []) mean mg mb h₀ → A.handled = none → A.frames = some (env :: outer) → env.frame = some L → env.scope.kind = .function → A.depth + dd < recursionLimit → A.units + uu < cLine →
    (∀ v news' h' tk', Ret v news' → Fr h₀ L h' m → News h₀ L h' news' → Q v { s with heap := h', toks := tk' }) →
    wpAny (model PySem.Challenge.rw_nt0604_01.row.prog w) A (call (.ref f) vs) Q E s
section
variable {prog : Program} {w : World} {A A₀ : Around} {E : Value → Shared → Prop} {s : Shared} {K : Frag} {h₀ base : Heap} {L f : Addr} {m : PySem.Str → Option Value} {news : Led} {p : Program} {loose : List PySem.Str} {mean : ExcName → Option Value} {mg mb : PySem.Str → Option Value}
  {env : PySem.Env} {outer : List PySem.Env} {name qual : PySem.Str} {params : Arguments} {body : List Stmt} {scope : Scope} {dV kV doc pm cdv ct oc : Value} {an od : Option Addr} {osl : Array (Option Value)} {vs : List Value} {k j : Nat}
/-- a def is entered -/
theorem code_defB {R : Result → Shared → Prop} {args : Args} {binds : List (PySem.Str × Value)}
    (B : Below A₀ base outer h₀) (F : Fr h₀ L s.heap m) (X : K.In h₀) (N : News h₀ L s.heap news) (T : Top p loose mean mg mb h₀) (hh : A.handled = none) (hA : A.frames = some (env :: outer)) (hf : env.frame = some L) (hke : env.scope.kind = .function) (hd : A.depth + (k + 1) < recursionLimit) (hu : A.units + (j + 3) < cLine)
    (ho : K.lookup f = some ⟨oc, od, .func (fnOf name qual params body scope dV kV doc pm an cdv ct), osl⟩) (hcd : codeIn K cdv qual = true)
    (hbind : BindsTo s (fnOf name qual params body scope dV kV doc pm an cdv ct) args binds) (hloc : ∀ y ∈ binds, scope.names.lookup y.1 = some .local) (hsc : scOk params scope = true)
    (h : ∀ (A₁ : Around) (g : Heap) (L' : Addr) (h₁ : Heap) (q : Flow → Shared → Prop) (tk : Nat), Fr h₀ L g m → Fr g L' h₁ (fun y => binds.reverse.lookup y) → News g L' h₁ news → Below A base (env :: outer) g → K.In g → Top p loose mean mg mb g →
      A₁.handled = none → A₁.frames = some (envOf qual scope L' f cdv :: env :: outer) → A₁.depth + k < recursionLimit → A₁.units + j < cLine → LvE h₀ L m g (fun v s' => R (.ok (.ret v)) s') q →
      wpAny (model prog w) A₁ (execs body (envOf qual scope L' f cdv)) (Nx q) (fun _ _ => False) { s with heap := h₁, toks := tk }) : codeAny (model prog w) A (.call (.ref f) args) R s := by
  refine code_def B F X N T hA hf hke ho hcd (by omega) hbind hloc (fun g L' h₁ FG F' N' B' X' T' => ?_) (scOk_co hsc) (scOk_gen hsc) (scOk_kind hsc) (scOk_cell hsc)
  refine wpAny_noRaise ?_
  refine h (A.deeper (envOf qual scope L' f cdv)) g L' h₁ (fun fl s' => LeaveK h₀ L m g R (match fl with | .ret v => v | _ => .none) s') _ FG F' N' B' X' T' hh ?_ ?_ ?_ ⟨?_, ?_⟩
  · show A.frames.map _ = _
    rw [hA]; rfl
  · show A.depth + 1 + k < _
    omega
  · show A.units + 3 + j < _
    omega
  · intro v s' L2 m2 n2 F2 N2 hq
    exact leaveK_ F2 N2 hq
  · intro s' L2 m2 n2 F2 N2 hq
    exact leaveK_ F2 N2 hq
theorem code_defN {R : Result → Shared → Prop}
    (B : Below A₀ base outer h₀) (F : Fr h₀ L s.heap m) (X : K.In h₀) (N : News h₀ L s.heap news) (T : Top p loose mean mg mb h₀) (hh : A.handled = none) (hA : A.frames = some (env :: outer)) (hf : env.frame = some L) (hke : env.scope.kind = .function) (hd : A.depth + (k + 1) < recursionLimit) (hu : A.units + (j + 3) < cLine)
    (ho : K.lookup f = some ⟨oc, od, .func (fnOf name qual params body scope dV kV doc pm an cdv ct), osl⟩) (hcd : codeIn K cdv qual = true)
    (hbind : BindsTo s (fnOf name qual params body scope dV kV doc pm an cdv ct) ⟨vs, []⟩ (bd params vs)) (hsc : scOk params scope = true)
    (h : ∀ (A₁ : Around) (g : Heap) (L' : Addr) (h₁ : Heap) (q : Flow → Shared → Prop) (tk : Nat), Fr g L' h₁ (mB params vs) → News g L' h₁ news → Below A base (env :: outer) g → K.In g → Top p loose mean mg mb g →
      A₁.handled = none → A₁.frames = some (envOf qual scope L' f cdv :: env :: outer) → A₁.depth + k < recursionLimit → A₁.units + j < cLine → LvE h₀ L m g (fun v s' => R (.ok (.ret v)) s') q →
      wpAny (model prog w) A₁ (execs body (envOf qual scope L' f cdv)) (Nx q) (fun _ _ => False) { s with heap := h₁, toks := tk }) : codeAny (model prog w) A (.call (.ref f) ⟨vs, []⟩) R s :=
  code_defB B F X N T hh hA hf hke hd hu ho hcd hbind (scOk_loc hsc) hsc fun A₁ g L' h₁ q tk _ => h A₁ g L' h₁ q tk
theorem call_defN {Q : Value → Shared → Prop}
    (B : Below A₀ base outer h₀) (F : Fr h₀ L s.heap m) (X : K.In h₀) (N : News h₀ L s.heap news) (T : Top p loose mean mg mb h₀) (hh : A.handled = none) (hA : A.frames = some (env :: outer)) (hf : env.frame = some L) (hke : env.scope.kind = .function) (hd : A.depth + (k + 1) < recursionLimit) (hu : A.units + (j + 3) < cLine)
    (ho : K.lookup f = some ⟨oc, od, .func (fnOf name qual params body scope dV kV doc pm an cdv ct), osl⟩) (hcd : codeIn K cdv qual = true)
    (hbind : BindsTo s (fnOf name qual params body scope dV kV doc pm an cdv ct) ⟨vs, []⟩ (bd params vs)) (hsc : scOk params scope = true)
    (h : ∀ (A₁ : Around) (g : Heap) (L' : Addr) (h₁ : Heap) (q : Flow → Shared → Prop) (tk : Nat), Fr g L' h₁ (mB params vs) → News g L' h₁ news → Below A base (env :: outer) g → K.In g → Top p loose mean mg mb g →
      A₁.handled = none → A₁.frames = some (envOf qual scope L' f cdv :: env :: outer) → A₁.depth + k < recursionLimit → A₁.units + j < cLine → LvE h₀ L m g Q q →
      wpAny (model prog w) A₁ (execs body (envOf qual scope L' f cdv)) (Nx q) (fun _ _ => False) { s with heap := h₁, toks := tk }) : wpAny (model prog w) A (call (.ref f) vs) Q E s :=
  wpAny_call (code_defN B F X N T hh hA hf hke hd hu ho hcd hbind hsc h)
/-- an object of a class of the text's own is made -/
theorem call_clsN {Q : Value → Shared → Prop} {C : Addr}
    (B : Below A₀ base outer h₀) (F : Fr h₀ L s.heap m) (X : K.In h₀) (N : News h₀ L s.heap news) (T : Top p loose mean mg mb h₀) (hh : A.handled = none) (hA : A.frames = some (env :: outer)) (hf : env.frame = some L) (hke : env.scope.kind = .function) (hd : A.depth + (k + 2) < recursionLimit) (hu : A.units + (j + 4) < cLine)
    (hm : makesIn K C = true) (hi : findIn K (.ref C) "__init__" = some (some (.ref f))) (hfn : isFn K (.ref f) = true)
    (ho : K.lookup f = some ⟨oc, od, .func (fnOf name qual params body scope dV kV doc pm an cdv ct), osl⟩) (hcd : codeIn K cdv qual = true)
    (hbind : ∀ x s, BindsTo s (fnOf name qual params body scope dV kV doc pm an cdv ct) ⟨.ref x :: vs, []⟩ (bd params (.ref x :: vs))) (hsc : scOk params scope = true)
    (h : ∀ (x dx : Addr) (A₁ A₂ : Around) (g : Heap) (L' : Addr) (h₁ : Heap) (q : Flow → Shared → Prop) (tk : Nat), (∀ p ∈ news, p.1 < dx) → dx < x → Fr g L' h₁ (mB params (.ref x :: vs)) → News g L' h₁ ((x, instObj C dx) :: (dx, dictOf [] 0) :: news) → Below A₂ base (env :: outer) g → K.In g → Top p loose mean mg mb g →
      A₁.handled = none → A₁.frames = some (envOf qual scope L' f cdv :: env :: outer) → A₁.depth + k < recursionLimit → A₁.units + j < cLine → LvE h₀ L m g (fun v s' => v = .none ∧ Q (.ref x) s') q →
      wpAny (model prog w) A₁ (execs body (envOf qual scope L' f cdv)) (Nx q) (fun _ _ => False) { s with heap := h₁, toks := tk }) : wpAny (model prog w) A (call (.ref C) vs) Q E s := by
  refine call_cls F X N hm hi hfn fun x dx h' F1 N1 l1 l2 => ?_
  refine code_defN (k := k) (j := j) B F1 X N1 T (by exact hh) (by exact hA) hf hke ?_ ?_ ho hcd (hbind x _) hsc fun A₁ g L' h₁ q tk F' N' B' X' T' hh' hA' hd' hu' H => ?_
  · show A.depth + 1 + (k + 1) < _
    omega
  · show A.units + 1 + (j + 3) < _
    omega
  · exact h x dx A₁ _ g L' h₁ q tk l1 l2 F' N' B' X' T' hh' hA' hd' hu' H
end
section
variable {w : World} {f : Addr} {name qual : PySem.Str} {params : Arguments} {body : List Stmt} {scope : Scope} {dV kV doc pm cdv ct oc : Value} {an od : Option Addr} {osl : Array (Option Value)} {vs : List Value} {k j : Nat} {news : Led} {Ret : Value → Led → Prop}
/-- a contract is shown at the def's own text -/
theorem spec_def
    (ho : (hd.heap_39 w.params).lookup f = some ⟨oc, od, .func (fnOf name qual params body scope dV kV doc pm an cdv ct), osl⟩) (hcd : codeIn (hd.heap_39 w.params) cdv qual = true)
    (hbind : ∀ s, BindsTo s (fnOf name qual params body scope dV kV doc pm an cdv ct) ⟨vs, []⟩ (bd params vs)) (hsc : scOk params scope = true)
    (h : ∀ (mean : ExcName → Option Value) (mg mb : PySem.Str → Option Value) (A A₀ : Around) (outer : List PySem.Env) (base g : Heap) (L : Addr) (s : Shared) (q : Flow → Shared → Prop),
      Fr g L s.heap (mB params vs) → News g L s.heap news → Below A₀ base outer g → (hd.heap_39 w.params).In g → Top hd.view_39 (looseW hd.view_39 []) mean mg mb g →
      A.handled = none → A.frames = some (envOf qual scope L f cdv :: outer) → A.depth + k < recursionLimit → A.units + j < cLine → RetE g s Ret q →
      wpAny (model PySem.Challenge.rw_nt0604_01.row.prog w) A (execs body (envOf qual scope L f cdv)) (Nx q) (fun _ _ => False) s) : Spec w f vs (k + 1) (j + 3) news Ret := by
  intro mean mg mb A A₀ env outer base h₀ L m s Q E B F X N T hh hA hf hk hd hu ret
  refine call_defN B F X N T hh hA hf hk hd hu ho hcd (hbind s) hsc fun A₁ g L' h₁ q tk F' N' B' X' T' hh' hA' hd' hu' H => ?_
  refine h mean mg mb A₁ A (env :: outer) base g L' _ q F' N' B' X' T' hh' hA' hd' hu' ⟨?_, ?_⟩
  · exact fun v h' tk' L2 m2 n2 hr F2 N2 => H.r v _ L2 m2 n2 F2 N2 fun kF kN => ret v n2 h' tk' hr kF kN
  · exact fun h' tk' L2 m2 n2 hr F2 N2 => H.n _ L2 m2 n2 F2 N2 fun kF kN => ret _ n2 h' tk' hr kF kN
end
section
variable {w : World} {f C : Addr} {name qual : PySem.Str} {params : Arguments} {body : List Stmt} {scope : Scope} {dV kV doc pm cdv ct oc : Value} {an od : Option Addr} {osl : Array (Option Value)} {vs : List Value} {k j : Nat} {news : Led} {Ret : Value → Led → Prop} {bs : Addr → List (PySem.Str × Value)}
/-- a contract of a class: an object is made, at the text of its __init__ -/
theorem spec_cls (hm : makesIn (hd.heap_39 w.params) C = true) (hi : findIn (hd.heap_39 w.params) (.ref C) "__init__" = some (some (.ref f))) (hfn : isFn (hd.heap_39 w.params) (.ref f) = true)
    (ho : (hd.heap_39 w.params).lookup f = some ⟨oc, od, .func (fnOf name qual params body scope dV kV doc pm an cdv ct), osl⟩) (hcd : codeIn (hd.heap_39 w.params) cdv qual = true)
    (hbind : ∀ x s, (hd.heap_39 w.params).In s.heap → BindsTo s (fnOf name qual params body scope dV kV doc pm an cdv ct) ⟨.ref x :: vs, []⟩ (bs x)) (hloc : ∀ x, ∀ y ∈ bs x, scope.names.lookup y.1 = some .local) (hsc : scOk params scope = true)
    (h : ∀ (mean : ExcName → Option Value) (mg mb : PySem.Str → Option Value) (A A₀ : Around) (outer : List PySem.Env) (base g : Heap) (L : Addr) (s : Shared) (q : Flow → Shared → Prop) (x dx : Addr), (∀ p ∈ news, p.1 < dx) → dx < x →
      Fr g L s.heap (fun y => (bs x).reverse.lookup y) → News g L s.heap ((x, instObj C dx) :: (dx, dictOf [] 0) :: news) → Below A₀ base outer g → (hd.heap_39 w.params).In g → Top hd.view_39 (looseW hd.view_39 []) mean mg mb g →
      A.handled = none → A.frames = some (envOf qual scope L f cdv :: outer) → A.depth + k < recursionLimit → A.units + j < cLine → RetE g s (fun v n => v = .none ∧ Ret (.ref x) n) q →
      wpAny (model PySem.Challenge.rw_nt0604_01.row.prog w) A (execs body (envOf qual scope L f cdv)) (Nx q) (fun _ _ => False) s) : Spec w C vs (k + 2) (j + 4) news Ret := by
  intro mean mg mb A A₀ env outer base h₀ L m s Q E B F X N T hh hA hf hk hd hu ret
  refine call_cls F X N hm hi hfn fun x dx h' F1 N1 l1 l2 => ?_
  refine code_defB (k := k) (j := j) B F1 X N1 T (by exact hh) (by exact hA) hf hk ?_ ?_ ho hcd (hbind x _ (X.keeps F1.keep)) (hloc x) hsc fun A₁ g L' h₁ q tk _ F' N' B' X' T' hh' hA' hd' hu' H => ?_
  · show A.depth + 1 + (k + 1) < _
    omega
  · show A.units + 1 + (j + 3) < _
    omega
  · refine h mean mg mb A₁ _ (env :: outer) base g L' _ q x dx l1 l2 F' N' B' X' T' hh' hA' hd' hu' ⟨?_, ?_⟩
    · exact fun v h' tk' L2 m2 n2 hr F2 N2 => H.r v _ L2 m2 n2 F2 N2 fun kF kN => ⟨hr.1, ret _ n2 h' tk' hr.2 kF kN⟩
    · exact fun h' tk' L2 m2 n2 hr F2 N2 => H.n _ L2 m2 n2 F2 N2 fun kF kN => ⟨hr.1, ret _ n2 h' tk' hr.2 kF kN⟩
end
section
variable {M : Model} {A : Around} {env : PySem.Env} {E : Value → Shared → Prop} {st r : Stmt} {rest : List Stmt} {Q q : Flow → Shared → Prop} {s : Shared} {v : Value}
theorem execs_consN (h : ∀ q, NxE M A env E (r :: rest) Q q → wpAny M A (exec st env) (Nx q) E s) : wpAny M A (execs (st :: r :: rest) env) Q E s := by
  refine wpAny_execs_cons (h (fun f s' => match f with | .next => wpAny M A (execs (r :: rest) env) Q E s' | f => Q f s') ⟨fun _ h => h, ?_⟩)
  intro fl s' hn h
  cases fl <;> first | exact absurd rfl hn | exact h
theorem execs_last (h : wpAny M A (exec st env) Q E s) : wpAny M A (execs [st] env) Q E s := by
  refine wpAny_execs_cons (wpAny_mono h (fun fl s' hs => ?_) fun _ _ h => h)
  cases fl <;> first | exact wpAny_execs_nil hs | exact hs
theorem nx_next (H : NxE M A env E rest Q q) (h : wpAny M A (execs rest env) Q E s) : Nx q .next s := H.n s h
theorem nx_ret (H : NxE M A env E rest Q q) (h : Q (.ret v) s) : Nx q (.ret v) s := H.o _ s (fun e => nomatch e) h
theorem nx_brk (H : NxE M A env E rest Q q) (h : Q .brk s) : Nx q .brk s := H.o _ s (fun e => nomatch e) h
theorem nx_cont (H : NxE M A env E rest Q q) (h : Q .cont s) : Nx q .cont s := H.o _ s (fun e => nomatch e) h
end
section
variable {h₀ g h : Heap} {L L' : Addr} {m m' : PySem.Str → Option Value} {P : Value → Shared → Prop} {q : Flow → Shared → Prop} {s : Shared} {v : Value} {news : Led} {Ret : Value → Led → Prop}
theorem lv_ret (H : LvE h₀ L m g P q) (F : Fr g L' s.heap m') (N : News g L' s.heap news) (h : Fr h₀ L s.heap m → News h₀ L s.heap news → P v s) : Nx q (.ret v) s := H.r v s L' m' news F N h
theorem lv_next (H : LvE h₀ L m g P q) (F : Fr g L' s.heap m') (N : News g L' s.heap news) (h : Fr h₀ L s.heap m → News h₀ L s.heap news → P .none s) : Nx q .next s := H.n s L' m' news F N h
theorem fin_ret {s' : Shared} (H : RetE g s Ret q) (F : Fr g L s'.heap m) (N : News g L s'.heap news) (e : { s with heap := s'.heap, toks := s'.toks } = s') (r : Ret v news) : Nx q (.ret v) s' := Eq.mp (congrArg (q (.ret v)) e) (H.r v s'.heap s'.toks L m news r F N)
theorem fin_next {s' : Shared} (H : RetE g s Ret q) (F : Fr g L s'.heap m) (N : News g L s'.heap news) (e : { s with heap := s'.heap, toks := s'.toks } = s') (r : Ret .none news) : Nx q .next s' := Eq.mp (congrArg (q .next) e) (H.n s'.heap s'.toks L m news r F N)
end
section
variable {prog : Program} {w : World} {A : Around} {E : Value → Shared → Prop} {s : Shared} {h₀ : Heap} {L a : Addr} {m : PySem.Str → Option Value} {cn : PySem.Str} {cs : Scope} {ccd : Value} {cl : List (PySem.Str × Addr)} {x : PySem.Str} {v : Value} {news : Led}
theorem storeN {Q : Unit → Shared → Prop} (F : Fr h₀ L s.heap m) (N : News h₀ L s.heap news) (h : ∀ h', Fr h₀ L h' (up x v m) → News h₀ L h' news → Q () { s with heap := h', toks := s.toks + 1 })
    (hk : cs.kind = .function) (hx : (envX cn cs L a ccd cl).kindOf x = some .local) : wpAny (model prog w) A (storeName (envX cn cs L a ccd cl) x v) Q E s := storeX_L F N h hk hx
end

structure TkS where
  kt : Nat → Tok
  states : Nat
  stream : Nat
  vat : Int
  atT : Tok
  state : PySem.Str
  stT : Tok
  back : PySem.Str
  bkT : Tok
  out : Nat
  errors : Nat
  draft : Value
  buffer : PySem.Str
  bfT : Tok
  code : Value
  last : PySem.Str
  lsT : Tok
  foreign : Bool
  waiting : Bool
  done : Bool

noncomputable abbrev ent (w : World) (n : PySem.Str) (t : Tok) (v : Value) : DictEntry := ⟨PyData.keyHash w.params n, .str n t, v⟩
noncomputable abbrev tkEs (w : World) (T : TkS) : List DictEntry :=
  [⟨PyData.keyHash w.params (Str.ofString "states"), .str (Str.ofString "states") (T.kt 0), .ref T.states⟩,
   ⟨PyData.keyHash w.params (Str.ofString "stream"), .str (Str.ofString "stream") (T.kt 1), .ref T.stream⟩,
   ⟨PyData.keyHash w.params (Str.ofString "at"), .str (Str.ofString "at") (T.kt 2), .int T.vat T.atT⟩,
   ⟨PyData.keyHash w.params (Str.ofString "state"), .str (Str.ofString "state") (T.kt 3), .str T.state T.stT⟩,
   ⟨PyData.keyHash w.params (Str.ofString "back"), .str (Str.ofString "back") (T.kt 4), .str T.back T.bkT⟩,
   ⟨PyData.keyHash w.params (Str.ofString "out"), .str (Str.ofString "out") (T.kt 5), .ref T.out⟩,
   ⟨PyData.keyHash w.params (Str.ofString "errors"), .str (Str.ofString "errors") (T.kt 6), .ref T.errors⟩,
   ⟨PyData.keyHash w.params (Str.ofString "draft"), .str (Str.ofString "draft") (T.kt 7), T.draft⟩,
   ⟨PyData.keyHash w.params (Str.ofString "buffer"), .str (Str.ofString "buffer") (T.kt 8), .str T.buffer T.bfT⟩,
   ⟨PyData.keyHash w.params (Str.ofString "code"), .str (Str.ofString "code") (T.kt 9), T.code⟩,
   ⟨PyData.keyHash w.params (Str.ofString "last"), .str (Str.ofString "last") (T.kt 10), .str T.last T.lsT⟩,
   ⟨PyData.keyHash w.params (Str.ofString "is_foreign"), .str (Str.ofString "is_foreign") (T.kt 11), .bool T.foreign⟩,
   ⟨PyData.keyHash w.params (Str.ofString "is_waiting"), .str (Str.ofString "is_waiting") (T.kt 12), .bool T.waiting⟩,
   ⟨PyData.keyHash w.params (Str.ofString "is_done"), .str (Str.ofString "is_done") (T.kt 13), .bool T.done⟩]
noncomputable abbrev tkLed (w : World) (t td : Nat) (T : TkS) : Led := [(t, instObj 464 td), (td, dictOf (tkEs w T) 14)]
noncomputable abbrev stEs (w : World) (k : Nat → Tok) (signs : Nat) (closed ret : Bool) (errs : Nat) : List DictEntry :=
  [⟨PyData.keyHash w.params (Str.ofString "signs"), .str (Str.ofString "signs") (k 0), .ref signs⟩,
   ⟨PyData.keyHash w.params (Str.ofString "is_closed"), .str (Str.ofString "is_closed") (k 1), .bool closed⟩,
   ⟨PyData.keyHash w.params (Str.ofString "is_return"), .str (Str.ofString "is_return") (k 2), .bool ret⟩,
   ⟨PyData.keyHash w.params (Str.ofString "errors"), .str (Str.ofString "errors") (k 3), .ref errs⟩]
theorem item_at {prog : Program} {w : World} {A : Around} {E : Value → Shared → Prop} {s : Shared} {value slice : PySem.Expr} {l : Addr} {vs : List Value} {k : Int} {u : Tok} {v : Value} {Q : Value → Shared → Prop}
    (hl : s.heap.IsList l vs.toArray) (h0 : 0 ≤ k) (hhi : k < 2 ^ 63) (hx : vs[k.toNat]? = some v)
    (hs : subscripted slice false (.ref l) (.int k u) = operate [.ref l, .int k u] (getItem (.ref l) (.int k u))) (h : Q v s) :
    wpAny (model prog w) A (subscriptTail value slice (.ref l) (.int k u)) Q E s :=
  tail_any hl.typeIs slot_list_getitem.lookup (wpAny_getItem_list hl h0 hhi (by simpa using hx) h) hs
noncomputable abbrev sg (c : Nat) : PySem.Str := ⟨#[c]⟩
/-- the values are the signs -/
noncomputable def SignsAre (vs : List Value) (cs : List Nat) : Prop := vs.length = cs.length ∧ ∀ (i c : Nat), cs[i]? = some c → ∃ tk, vs[i]? = some (Value.str (sg c) tk)
/-- the sign at a place, or the empty text -/
noncomputable def signAt (cs : List Nat) (i : Nat) : PySem.Str := match cs[i]? with | some c => sg c | none => PySem.Str.ofString ""
/-- the tokenizer and what hangs on it, as it lies in the heap -/
structure Raw where
  td : Nat
  T : TkS
  sd : Nat
  signs : Nat
  serr : Nat
  k : Nat → Tok
  vs : List Value
  sn : Nat
  outs : List Value
  on : Nat
  ers : List Value
  en : Nat
noncomputable abbrev ML (w : World) (t : Nat) (R : Raw) : Led :=
  [(t, instObj 464 R.td), (R.td, dictOf (tkEs w R.T) 14), (R.T.stream, instObj 301 R.sd), (R.sd, dictOf (stEs w R.k R.signs true false R.serr) 4),
   (R.signs, listOf R.vs.toArray R.sn), (R.T.out, listOf R.outs.toArray R.on), (R.T.errors, listOf R.ers.toArray R.en)]
/-- the order of the addresses -/
structure Ord (t : Nat) (R : Raw) : Prop where
  o1 : R.td < t
  o2 : t < R.sd
  o3 : R.sd < R.T.stream
  o4 : R.T.stream < R.signs
  o5 : R.signs < R.T.out
  o6 : R.T.out < R.T.errors
/-- the other objects are none of the tokenizer's that are written -/
structure Off (R : Raw) (rest : Led) : Prop where
  f1 : ∀ p ∈ rest, p.1 ≠ R.td
  f2 : ∀ p ∈ rest, p.1 ≠ R.T.out
  f3 : ∀ p ∈ rest, p.1 ≠ R.T.errors
noncomputable abbrev tup (vs : List Value) : Obj := { cls := .type "tuple", data := .seq vs.toArray 0 }
theorem allLt_off {d : Addr} {l : Led} (h : AllLt d l) : ∀ p ∈ l, p.1 ≠ d := fun p hp => Nat.ne_of_lt (ktn_ltOf h p hp)
theorem allLt_lt {d : Addr} {l : Led} (h : AllLt d l) : ∀ p ∈ l, p.1 < d := ktn_ltOf h
theorem news_tail {h₀ h : Heap} {L : Addr} {q : Addr × Obj} {news : Led} (N : News h₀ L h (q :: news)) : News h₀ L h news := fun p hp => N p (.tail _ hp)
theorem append_L {prog : Program} {w : World} {A : Around} {E : Value → Shared → Prop} {s : Shared} {h₀ : Heap} {L D : Addr} {m : PySem.Str → Option Value} {news news' : Led} {vs : List Value} {n : Nat} {x : Value} {Q : Value → Shared → Prop}
    (F : Fr h₀ L s.heap m) (N : News h₀ L s.heap news) (U : Upd D (listOf vs.toArray n) (listOf (vs ++ [x]).toArray (n + 1)) news news') (hsz : vs.length ≤ 100000)
    (h : ∀ h', Fr h₀ L h' m → News h₀ L h' news' → Q .none { s with heap := h' }) : wpAny (model prog w) A (call (.builtin "list.append") [.ref D, x]) Q E s := by
  refine append_K (hsz := ?_) F N (by rw [List.push_toArray]; exact U) h
  rw [List.size_toArray, sizeLine_eq]; omega
theorem news_mid7 {h₀ h : Heap} {L : Addr} {q a1 a2 a3 a4 a5 a6 a7 : Addr × Obj} {rest : Led} (N : News h₀ L h (q :: a1 :: a2 :: a3 :: a4 :: a5 :: a6 :: a7 :: rest)) : News h₀ L h (a1 :: a2 :: a3 :: a4 :: a5 :: a6 :: a7 :: q :: rest) := by
  intro p hp
  apply N
  simp only [List.mem_cons] at hp ⊢
  rcases hp with h | h | h | h | h | h | h | h | h <;> simp [h]
/-- fresh behind the tokenizer and the rest -/
structure Fresh (e : Nat) (rest : Led) (p : Nat) : Prop where
  a : e < p
  b : ∀ q ∈ rest, q.1 < p
/-- a draft and what hangs on it -/
structure DRaw where
  d : Nat
  dd : Nat
  k : Nat → Tok
  kdT : Tok
  name : PySem.Str
  nmT : Tok
  txT : Tok
  closing : Bool
  attrs : Nat
  avs : List Value
  an : Nat
noncomputable abbrev drEs (w : World) (D : DRaw) : List DictEntry :=
  [⟨PyData.keyHash w.params (Str.ofString "kind"), .str (Str.ofString "kind") (D.k 0), .str (Str.ofString "end") D.kdT⟩,
   ⟨PyData.keyHash w.params (Str.ofString "name"), .str (Str.ofString "name") (D.k 1), .str D.name D.nmT⟩,
   ⟨PyData.keyHash w.params (Str.ofString "text"), .str (Str.ofString "text") (D.k 2), .str (Str.ofString "") D.txT⟩,
   ⟨PyData.keyHash w.params (Str.ofString "public"), .str (Str.ofString "public") (D.k 3), .none⟩,
   ⟨PyData.keyHash w.params (Str.ofString "system"), .str (Str.ofString "system") (D.k 4), .none⟩,
   ⟨PyData.keyHash w.params (Str.ofString "is_quirks"), .str (Str.ofString "is_quirks") (D.k 5), .bool false⟩,
   ⟨PyData.keyHash w.params (Str.ofString "is_closing"), .str (Str.ofString "is_closing") (D.k 6), .bool D.closing⟩,
   ⟨PyData.keyHash w.params (Str.ofString "attrs"), .str (Str.ofString "attrs") (D.k 7), .ref D.attrs⟩]
noncomputable abbrev DL (w : World) (D : DRaw) : Led := [(D.d, instObj 122 D.dd), (D.dd, dictOf (drEs w D) 8), (D.attrs, listOf D.avs.toArray D.an)]
structure OrdD (R : Raw) (D : DRaw) : Prop where
  o1 : R.T.errors < D.dd
  o2 : D.dd < D.d
  o3 : D.d < D.attrs
structure OffD (D : DRaw) (rest : Led) : Prop where
  f1 : ∀ p ∈ rest, p.1 ≠ D.dd
  f2 : ∀ p ∈ rest, p.1 ≠ D.attrs
/-- a stop of the walk, at a loop -/
noncomputable def HoldG (P : Prop) : Prop := P
theorem hold_out {P : Prop} (h : HoldG P) : P := h
theorem hold_in {P : Prop} (h : P) : HoldG P := h
theorem off_new {own : Led} {A B : List Addr} {D : Addr} (h : OwnOff own (A ++ B)) (hD : ∀ p ∈ own, p.1 ≠ D) : OwnOff own (A ++ D :: B) := by
  intro p hp b hb
  rcases List.mem_append.mp hb with hb | hb
  · exact h p hp b (List.mem_append.mpr (.inl hb))
  · rcases List.mem_cons.mp hb with rfl | hb
    · exact hD p hp
    · exact h p hp b (List.mem_append.mpr (.inr hb))
theorem inv_end {h₀ h' : Heap} {L : Addr} {J : (PySem.Str → Option Value) → Led → Prop} {m' : PySem.Str → Option Value} {own nx : Led} {s₁ : Shared} {tk : Nat} (F : Fr h₀ L h' m') (N : News h₀ L h' (nx ++ own)) (hj : J m' nx) (ha : OwnOff own (nx.map (·.1))) :
    InvEndG h₀ L J own s₁ { s₁ with heap := h', toks := tk } :=
  InvEndG.intro F N hj ha (fun _ hp => List.mem_append.mpr (.inl hp)) fun _ hp => List.mem_append.mpr (.inr hp)
theorem news_draft {h₀ h : Heap} {L : Addr} {q1 q2 q3 a1 a2 a3 a4 a5 a6 a7 : Addr × Obj} {rest : Led} (N : News h₀ L h (q1 :: q2 :: q3 :: a1 :: a2 :: a3 :: a4 :: a5 :: a6 :: a7 :: rest)) : News h₀ L h (a1 :: a2 :: a3 :: a4 :: a5 :: a6 :: a7 :: q2 :: q3 :: q1 :: rest) := by
  intro p hp
  apply N
  simp only [List.mem_cons] at hp ⊢
  rcases hp with h | h | h | h | h | h | h | h | h | h | h <;> simp [h]
theorem news_dup {h₀ h : Heap} {L : Addr} {q : Addr × Obj} {news : Led} (N : News h₀ L h news) (hq : q ∈ news) : News h₀ L h (q :: news) := fun p hp => by
  rcases List.mem_cons.mp hp with rfl | hp
  · exact N _ hq
  · exact N _ hp
/-- a call by its contract -/
theorem spec_use {w : World} {f : Addr} {vs : List Value} {dd uu : Nat} {news : Led} {Ret : Value → Led → Prop} (S : Spec w f vs dd uu news Ret)
    {mean : ExcName → Option Value} {mg mb : PySem.Str → Option Value} {A A₀ : Around} {env : PySem.Env} {outer : List PySem.Env} {base h₀ : Heap} {L : Addr} {m : PySem.Str → Option Value} {s : Shared} {Q E : Value → Shared → Prop}
    (B : Below A₀ base outer h₀) (F : Fr h₀ L s.heap m) (X : (hd.heap_39 w.params).In h₀) (N : News h₀ L s.heap news)
    (T : Top hd.view_39 (looseW hd.view_39 []) mean mg mb h₀) (hh : A.handled = none) (hA : A.frames = some (env :: outer)) (hf : env.frame = some L) (hk : env.scope.kind = .function) (hd' : A.depth + dd < recursionLimit) (hu : A.units + uu < cLine)
    (ret : ∀ v news' h' tk', Ret v news' → Fr h₀ L h' m → News h₀ L h' news' → Q v { s with heap := h', toks := tk' }) :
    wpAny (model PySem.Challenge.rw_nt0604_01.row.prog w) A (call (.ref f) vs) Q E s :=
  S mean mg mb A A₀ env outer base h₀ L m s Q E B F X N T hh hA hf hk hd' hu ret
theorem Spec.mono {w : World} {f : Addr} {vs : List Value} {dd uu : Nat} {news : Led} {Ret Ret' : Value → Led → Prop} (S : Spec w f vs dd uu news Ret)
    (h : ∀ v n, Ret v n → ∃ n', (∀ p ∈ n', p ∈ n) ∧ Ret' v n') : Spec w f vs dd uu news Ret' := by
  unfold Spec at *
  intro mean mg mb A A₀ env outer base h₀ L m s Q E B F X N T hh hA hf hk hd' hu ret
  refine S mean mg mb A A₀ env outer base h₀ L m s Q E B F X N T hh hA hf hk hd' hu fun v n h' tk r F N => ?_
  obtain ⟨n', hs, r'⟩ := h v n r
  exact ret v n' h' tk r' F (cb_drop N hs)
/-- the defs whose calls are held for their contracts -/
noncomputable def heldL : List Nat := [464, 341, 348, 355, 362, 369, 376, 383, 390, 397, 404, 440, 91, 98, 112, 119, 133, 140, 147, 154, 447, 454, 461, 522, 529, 534, 475, 482, 489, 517, 327, 334, 284]
theorem hold_ref {M : Model} {A : Around} {a : Nat} {vs : List Value} {Q E : Value → Shared → Prop} {s : Shared} (h : HoldG (wpAny M A (call (.ref a) vs) Q E s)) (_ : heldL.contains a = true) : wpAny M A (call (.ref a) vs) Q E s := h
section
variable {a b c D n k m : Nat} {o : Obj} {l l' : Led} {x y : Obj}
/-! a ledger's change, cell by cell -/
theorem upd_lt (h : a < D) (U : Upd D x y l l') : Upd D x y ((a, o) :: l) ((a, o) :: l') := .tail (Nat.ne_of_lt h) U
theorem upd_gt (h : D < a) (U : Upd D x y l l') : Upd D x y ((a, o) :: l) ((a, o) :: l') := .tail (Nat.ne_of_gt h) U
theorem upd_ne (h : a ≠ D) (U : Upd D x y l l') : Upd D x y ((a, o) :: l) ((a, o) :: l') := .tail h U
theorem all_lt (h : a < D) (t : ∀ p ∈ l, p.1 ≠ D) : ∀ p ∈ (a, o) :: l, p.1 ≠ D := List.forall_mem_cons.mpr ⟨Nat.ne_of_lt h, t⟩
theorem all_gt (h : D < a) (t : ∀ p ∈ l, p.1 ≠ D) : ∀ p ∈ (a, o) :: l, p.1 ≠ D := List.forall_mem_cons.mpr ⟨Nat.ne_of_gt h, t⟩
theorem all_ne (h : a ≠ D) (t : ∀ p ∈ l, p.1 ≠ D) : ∀ p ∈ (a, o) :: l, p.1 ≠ D := List.forall_mem_cons.mpr ⟨h, t⟩
theorem all_app (h : ∀ p ∈ l, p.1 ≠ D) (t : ∀ p ∈ l', p.1 ≠ D) : ∀ p ∈ l ++ l', p.1 ≠ D := List.forall_mem_append.mpr ⟨h, t⟩
theorem le_lit (h : n ≤ a) (e : Nat.ble a b = true) : n ≤ b := Nat.le_trans h (Nat.le_of_ble_eq_true e)
theorem lt_lit (h : n ≤ a) (e : Nat.ble (a + 1) b = true) : n < b := Nat.le_trans (Nat.succ_le_succ h) (Nat.le_of_ble_eq_true e)
theorem le_add_lit (h : n ≤ a) (e : Nat.ble (a + k) b = true) : n + k ≤ b := Nat.le_trans (Nat.add_le_add_right h k) (Nat.le_of_ble_eq_true e)
theorem le_two_lit (h : n ≤ a) (h2 : m ≤ c) (e : Nat.ble (a + c) b = true) : n + m ≤ b := Nat.le_trans (Nat.add_le_add h h2) (Nat.le_of_ble_eq_true e)
end
section
variable {p q r s t u v w x y : Prop}
theorem al0 (h : p ∧ q) : p := h.1
theorem al1 (h : p ∧ q ∧ r) : q := h.2.1
theorem al2 (h : p ∧ q ∧ r ∧ s) : r := h.2.2.1
theorem al3 (h : p ∧ q ∧ r ∧ s ∧ t) : s := h.2.2.2.1
theorem al4 (h : p ∧ q ∧ r ∧ s ∧ t ∧ u) : t := h.2.2.2.2.1
theorem al5 (h : p ∧ q ∧ r ∧ s ∧ t ∧ u ∧ v) : u := h.2.2.2.2.2.1
theorem al6 (h : p ∧ q ∧ r ∧ s ∧ t ∧ u ∧ v ∧ w) : v := h.2.2.2.2.2.2.1
theorem al7 (h : p ∧ q ∧ r ∧ s ∧ t ∧ u ∧ v ∧ w ∧ x) : w := h.2.2.2.2.2.2.2.1
theorem al8 (h : p ∧ q ∧ r ∧ s ∧ t ∧ u ∧ v ∧ w ∧ x ∧ y) : x := h.2.2.2.2.2.2.2.2.1
end
/-- a body that raises nothing: its surroundings by their facts alone, its end in the name q -/
theorem open_AQ {M : Model} {A : Around} {t : Sem Flow} {env : PySem.Env} {outer : List PySem.Env} {Q : Flow → Shared → Prop} {E : Value → Shared → Prop} {s : Shared} (hh : A.handled = none) (hA : A.frames = some (env :: outer)) (hd : A.depth + 400 < recursionLimit) (hu : A.units + 400 < cLine)
    (h : ∀ (A' : Around) (q : Flow → Shared → Prop), A'.handled = none → A'.frames = some (env :: outer) → A'.depth + 400 < recursionLimit → A'.units + 400 < cLine → (∀ fl s', Q fl s' → Nx q fl s') → wpAny M A' t (Nx q) (fun _ _ => False) s) : wpAny M A t Q E s :=
  wpAny_noRaise (h A Q hh hA hd hu fun _ _ h => h)
/-- calls by name whose defs have contracts -/
noncomputable def namedL : List PySem.Str := [Str.ofString "is_letter", Str.ofString "is_blank", Str.ofString "lower", Str.ofString "input_error", Str.ofString "_law_digit"]
theorem call_named {M : Model} {A : Around} {env : PySem.Env} {E : Value → Shared → Prop} {s : Shared} {n : PySem.Str} {np pos : Pos} {args : List PySem.Expr} {Q : Value → Shared → Prop} (_ : namedL.contains n = true)
    (h : wpAny M A (eval (.Name n np) env) (fun f s₁ => wpAny M A (callWith pos f [] (backTo pos (starEach args env)) []) Q E s₁) E s) : wpAny M A (eval (.Call (.Name n np) args [] pos) env) Q E s := Call_ h
theorem in_of {K : Frag} {h₀ h : Heap} {L : Addr} {m : PySem.Str → Option Value} (F : Fr h₀ L h m) (X : K.In h₀) : K.In h := X.keeps F.keep
theorem lt_dec {a b : Nat} (e : Nat.blt a b = true) : a < b := Nat.le_of_ble_eq_true e
theorem le_dec {a b : Nat} (e : Nat.ble a b = true) : a ≤ b := Nat.le_of_ble_eq_true e
theorem ilt_dec {a b : Int} (e : decide (a < b) = true) : a < b := of_decide_eq_true e
theorem ile_dec {a b : Int} (e : decide (a ≤ b) = true) : a ≤ b := of_decide_eq_true e
theorem room_at {u a b r : Nat} (h : u + b < r) (e : Nat.ble a b = true) : u + a < r := Nat.lt_of_le_of_lt (Nat.add_le_add_left (Nat.le_of_ble_eq_true e) u) h
end
set_option hygiene false
local macro_rules | `(tactic| walk_at "al") => `(tactic| (with_reducible first | assumption | exact al0 (by assumption) | exact al1 (by assumption) | exact al2 (by assumption) | exact al3 (by assumption) | exact al4 (by assumption) | exact al5 (by assumption) | exact al6 (by assumption) | exact al7 (by assumption) | exact al8 (by assumption) | fail))
set_option hygiene true
local macro_rules | `(tactic| walk_at "lit") => `(tactic| ((with_reducible first | refine' le_lit ?h ?e | refine' lt_lit ?h ?e); (case h => with_reducible assumption); (case e => k_dflt exact rfl)))
local macro_rules | `(tactic| walk_at "lit") => `(tactic| ((with_reducible refine' le_add_lit ?h ?e); (case h => with_reducible assumption); (case e => k_dflt exact rfl)))
local macro_rules | `(tactic| walk_at "lit") => `(tactic| ((with_reducible refine' le_two_lit ?h ?g ?e); (case h => with_reducible assumption); (case g => with_reducible assumption); (case e => k_dflt exact rfl)))
set_option hygiene false
local macro_rules | `(tactic| omega) => `(tactic| first | walk_at "al" | (with_reducible first | exact Int.natCast_nonneg _ | exact Int.ofNat_lt.mpr (by assumption) | exact Int.ofNat_le.mpr (by assumption)) | walk_at "lit" | decide | ((fail_if_success (fail_if_success omega (config := {}))); lia) | fail)
set_option hygiene true
section
open PySem PySem.W PyProof.Rows PyProof.V PySem.Spec PySem.Calls
section
variable {prog : Program} {w : World} {A : Around} {E : Value → Shared → Prop} {s : Shared} {env : PySem.Env} {h₀ : Heap} {x : PySem.Str} {body : List Stmt} {Q : Flow → Shared → Prop}
set_option maxHeartbeats 3200000 in
/-- a loop over a text's signs -/
theorem loop_text {xt : PySem.Str} {tx : Tok} {m₀ : PySem.Str → Option Value} {news : Led} (J : Nat → (PySem.Str → Option Value) → Led → Prop)
    (hh : A.handled = none) (F : Fr h₀ env.locals s.heap m₀) (N : News h₀ env.locals s.heap news) (hj : J 0 m₀ news)
    (turn : ∀ i n t m₁ nx h tk own, xt.cps[i]? = some n → OwnOff own (nx.map (·.1)) → J i m₁ nx → Fr h₀ env.locals h (fun y => if y = x then some (.str (sg n) t) else m₁ y) → News h₀ env.locals h (nx ++ own) →
      wpAny (model prog w) A (execs body env) (InvPostG h₀ env.locals (J (i + 1)) own { s with heap := h, toks := tk } Q) E { s with heap := h, toks := tk })
    (done : ∀ m₁ nx h tk, J xt.cps.size m₁ nx → Fr h₀ env.locals h m₁ → News h₀ env.locals h nx → Q .next { s with heap := h, toks := tk }) :
    wpAny (model prog w) A (pyIter (.str xt tx)) (fun it s₂ => LoopAtV prog w A h₀ env x body Q E it s₂) E s := by
  have hI0 : h₀.get? s.heap.objs.size = none := next_is_new F
  refine wpAny_pyIter_strU ?_
  have key : ∀ (cls : String) (W : Walks prog w A s.heap.objs.size [s.heap.objs.size] [s.heap.objs.size] xt.cps.size (SignAt xt) (fun i h => h.IsStrIter s.heap.objs.size cls xt tx i))
      (h0 : (s.heap.push { cls := .type (strIterType xt), data := .fields #[.str xt tx, .int 0 0] }).IsStrIter s.heap.objs.size cls xt tx 0),
      LoopAtV prog w A h₀ env x body Q E (.ref s.heap.objs.size) { s with heap := s.heap.push { cls := .type (strIterType xt), data := .fields #[.str xt tx, .int 0 0] } } := by
    intro cls W h0
    refine kdr_loop (news := news) (m₀ := m₀) J W (fun _ h => h) (fun _ h => h) ?_ ?_ ?_ ?_ h0 (F.push _) (fun p hp => ⟨Heap.get?_push_of_some _ (N p hp).1, (N p hp).2⟩) hj ?_ ?_
    · rintro i h ⟨o, ho, _⟩ b hb
      rw [List.mem_singleton.mp hb]
      exact ⟨o, ho⟩
    · intro hm
      exact absurd F.ns.lt ((List.mem_singleton.mp hm) ▸ Nat.lt_irrefl _)
    · intro b hb
      rw [List.mem_singleton.mp hb]
      exact hI0
    · intro p hp hI
      exact absurd (Heap.lt_size (N p hp).1) ((List.mem_singleton.mp hI) ▸ Nat.lt_irrefl _)
    · rintro i v m₁ nx h tk own hi ⟨n, t, hn, rfl⟩ hoff hJ F₁ N₁
      exact turn i n t m₁ nx h tk own hn hoff hJ F₁ N₁
    · intro m₁ nx h tk hJ F₁ N₁
      exact done m₁ nx h tk hJ F₁ N₁
  cases ha : xt.cps.all (· < 128) with
  | true => exact key "str_ascii_iterator" (Walks.strAscii hh _ xt tx) ⟨_, Heap.get?_push_size _ rfl, by simp [strIterType, ha], rfl⟩
  | false => exact key "str_iterator" (Walks.strWide hh _ xt tx) ⟨_, Heap.get?_push_size _ rfl, by simp [strIterType, ha], rfl⟩
/-- a loop over a range by ones -/
theorem loop_range {r : Addr} {a₀ b₀ : Int} {t₀ u₀ v₀ : Tok} {n : Nat} {m₀ : PySem.Str → Option Value} {news : Led} (J : Nat → (PySem.Str → Option Value) → Led → Prop)
    (hh : A.handled = none) (hr : IsRange s.heap r a₀ b₀ 1 t₀ u₀ v₀) (hsmall : Builtin.Range.small a₀ b₀ 1 = true) (hsz : Builtin.Range.rangeSize a₀ b₀ 1 = (n : Int)) (F : Fr h₀ env.locals s.heap m₀) (N : News h₀ env.locals s.heap news) (hj : J 0 m₀ news)
    (turn : ∀ i t m₁ nx h tk own, i < n → OwnOff own (nx.map (·.1)) → J i m₁ nx → Fr h₀ env.locals h (fun y => if y = x then some (.int (a₀ + (i : Int)) t) else m₁ y) → News h₀ env.locals h (nx ++ own) →
      wpAny (model prog w) A (execs body env) (InvPostG h₀ env.locals (J (i + 1)) own { s with heap := h, toks := tk } Q) E { s with heap := h, toks := tk })
    (done : ∀ m₁ nx h tk, J n m₁ nx → Fr h₀ env.locals h m₁ → News h₀ env.locals h nx → Q .next { s with heap := h, toks := tk }) :
    wpAny (model prog w) A (pyIter (.ref r)) (fun it s₂ => LoopAtV prog w A h₀ env x body Q E it s₂) E s := by
  refine wpAny_pyIter_range hr hsmall ?_
  have W : Walks prog w A s.heap.objs.size [s.heap.objs.size] [s.heap.objs.size] n (fun i v => i < n ∧ ∃ t, v = .int (a₀ + i * 1) t)
      (fun i h => IsRangeIter h s.heap.objs.size (a₀ + (i : Nat) * 1) ((n : Int) - (i : Nat)) 1) := (Walks.range hh _ a₀ 1 n).bound
  refine kdr_loop (news := news) (m₀ := m₀) J W (fun _ h => h) (fun _ h => h) ?_ ?_ ?_ ?_ (by show IsRangeIter _ _ _ _ _; rw [hsz]; simpa using Heap.get?_push_size _ rfl) (F.push _) (fun p hp => ⟨Heap.get?_push_of_some _ (N p hp).1, (N p hp).2⟩) hj ?_ ?_
  · intro i h hi b hb
    rw [List.mem_singleton.mp hb]
    exact ⟨_, hi⟩
  · intro hm
    exact absurd F.ns.lt ((List.mem_singleton.mp hm) ▸ Nat.lt_irrefl _)
  · intro b hb
    rw [List.mem_singleton.mp hb]
    exact next_is_new F
  · intro p hp hI
    exact absurd (Heap.lt_size (N p hp).1) ((List.mem_singleton.mp hI) ▸ Nat.lt_irrefl _)
  · rintro i v m₁ nx h tk own hi ⟨_, t, rfl⟩ hoff hJ F₁ N₁
    have e1 : a₀ + (i : Int) * 1 = a₀ + (i : Int) := by omega
    rw [e1] at F₁
    exact turn i t m₁ nx h tk own hi hoff hJ F₁ N₁
  · intro m₁ nx h tk hJ F₁ N₁
    exact done m₁ nx h tk hJ F₁ N₁
theorem fr_map {h₀ h : Heap} {L : Addr} {m m' : PySem.Str → Option Value} (F : Fr h₀ L h m) (e : ∀ y, m y = m' y) : Fr h₀ L h m' := by
  have : m = m' := funext e
  subst this
  exact F
/-- only the loop's own name is stored -/
noncomputable def One (x : PySem.Str) (m₀ : PySem.Str → Option Value) (J : Led → Prop) (m : PySem.Str → Option Value) (nx : Led) : Prop := (∀ z, z ≠ x → m z = m₀ z) ∧ J nx
theorem one_fr {h₀ h : Heap} {L : Addr} {m₀ m₁ : PySem.Str → Option Value} {v : Value} (F : Fr h₀ L h (fun y => if y = x then some v else m₁ y)) (e : ∀ z, z ≠ x → m₁ z = m₀ z) : Fr h₀ L h (fun y => if y = x then some v else m₀ y) :=
  fr_map F fun y => by by_cases q : y = x <;> simp [q, e]
theorem one_out {h₀ h : Heap} {L : Addr} {m₀ m₁ : PySem.Str → Option Value} (F : Fr h₀ L h m₁) (e : ∀ z, z ≠ x → m₁ z = m₀ z) : Fr h₀ L h (fun y => if y = x then m₁ y else m₀ y) :=
  fr_map F fun y => by by_cases q : y = x <;> simp [q, e]
theorem loop_text1 {xt : PySem.Str} {tx : Tok} {m₀ : PySem.Str → Option Value} {news : Led} (J : Nat → Led → Prop)
    (hh : A.handled = none) (F : Fr h₀ env.locals s.heap m₀) (N : News h₀ env.locals s.heap news) (hj : J 0 news)
    (turn : ∀ i n t nx h tk own, xt.cps[i]? = some n → OwnOff own (nx.map (·.1)) → J i nx → Fr h₀ env.locals h (fun y => if y = x then some (.str (sg n) t) else m₀ y) → News h₀ env.locals h (nx ++ own) →
      wpAny (model prog w) A (execs body env) (InvPostG h₀ env.locals (One x m₀ (J (i + 1))) own { s with heap := h, toks := tk } Q) E { s with heap := h, toks := tk })
    (done : ∀ (u : PySem.Str → Option Value) nx h tk, J xt.cps.size nx → Fr h₀ env.locals h (fun y => if y = x then u y else m₀ y) → News h₀ env.locals h nx → Q .next { s with heap := h, toks := tk }) :
    wpAny (model prog w) A (pyIter (.str xt tx)) (fun it s₂ => LoopAtV prog w A h₀ env x body Q E it s₂) E s :=
  loop_text (fun i m nx => One x m₀ (J i) m nx) hh F N ⟨fun _ _ => rfl, hj⟩ (fun i n t m₁ nx h tk own hn hoff hJ F₁ N₁ => turn i n t nx h tk own hn hoff hJ.2 (one_fr F₁ hJ.1) N₁) fun m₁ nx h tk hJ F₁ N₁ => done m₁ nx h tk hJ.2 (one_out F₁ hJ.1) N₁
theorem loop_range1 {r : Addr} {a₀ b₀ : Int} {t₀ u₀ v₀ : Tok} {n : Nat} {m₀ : PySem.Str → Option Value} {news : Led} (J : Nat → Led → Prop)
    (hh : A.handled = none) (hr : IsRange s.heap r a₀ b₀ 1 t₀ u₀ v₀) (hsmall : Builtin.Range.small a₀ b₀ 1 = true) (hsz : Builtin.Range.rangeSize a₀ b₀ 1 = (n : Int)) (F : Fr h₀ env.locals s.heap m₀) (N : News h₀ env.locals s.heap news) (hj : J 0 news)
    (turn : ∀ i t nx h tk own, i < n → OwnOff own (nx.map (·.1)) → J i nx → Fr h₀ env.locals h (fun y => if y = x then some (.int (a₀ + (i : Int)) t) else m₀ y) → News h₀ env.locals h (nx ++ own) →
      wpAny (model prog w) A (execs body env) (InvPostG h₀ env.locals (One x m₀ (J (i + 1))) own { s with heap := h, toks := tk } Q) E { s with heap := h, toks := tk })
    (done : ∀ (u : PySem.Str → Option Value) nx h tk, J n nx → Fr h₀ env.locals h (fun y => if y = x then u y else m₀ y) → News h₀ env.locals h nx → Q .next { s with heap := h, toks := tk }) :
    wpAny (model prog w) A (pyIter (.ref r)) (fun it s₂ => LoopAtV prog w A h₀ env x body Q E it s₂) E s :=
  loop_range (fun i m nx => One x m₀ (J i) m nx) hh hr hsmall hsz F N ⟨fun _ _ => rfl, hj⟩ (fun i t m₁ nx h tk own hn hoff hJ F₁ N₁ => turn i t nx h tk own hn hoff hJ.2 (one_fr F₁ hJ.1) N₁) fun m₁ nx h tk hJ F₁ N₁ => done m₁ nx h tk hJ.2 (one_out F₁ hJ.1) N₁
theorem loop_list1 {l : Addr} {vs : List Value} {nn : Nat} {m₀ : PySem.Str → Option Value} {news : Led} (J : Nat → Led → Prop)
    (hh : A.handled = none) (hl : (l, listOf vs.toArray nn) ∈ news) (F : Fr h₀ env.locals s.heap m₀) (N : News h₀ env.locals s.heap news) (hj : J 0 news)
    (turn : ∀ i v nx h tk own, vs[i]? = some v → OwnOff own (nx.map (·.1)) → (l, listOf vs.toArray nn) ∈ nx → J i nx → Fr h₀ env.locals h (fun y => if y = x then some v else m₀ y) → News h₀ env.locals h (nx ++ own) →
      wpAny (model prog w) A (execs body env) (InvPostG h₀ env.locals (fun m' nx => (l, listOf vs.toArray nn) ∈ nx ∧ One x m₀ (J (i + 1)) m' nx) own { s with heap := h, toks := tk } Q) E { s with heap := h, toks := tk })
    (done : ∀ (u : PySem.Str → Option Value) nx h tk, J vs.length nx → Fr h₀ env.locals h (fun y => if y = x then u y else m₀ y) → News h₀ env.locals h nx → Q .next { s with heap := h, toks := tk }) :
    wpAny (model prog w) A (pyIter (.ref l)) (fun it s₂ => LoopAtV prog w A h₀ env x body Q E it s₂) E s :=
  kdl_iter (fun i m nx => One x m₀ (J i) m nx) hh hl F N ⟨fun _ _ => rfl, hj⟩ (fun i v m₁ nx h tk own hv hoff hl' hJ F₁ N₁ => turn i v nx h tk own hv hoff hl' hJ.2 (one_fr F₁ hJ.1) N₁) fun m₁ nx h tk hJ F₁ N₁ => done m₁ nx h tk hJ.2 (one_out F₁ hJ.1) N₁
end
end
section
open PySem PySem.W PyProof.Rows PyProof.V PySem.Spec PySem.Calls
/-! the machine, in plain Lean: codes, states, a step -/
inductive Kd where | rc | rw
  deriving DecidableEq
noncomputable def kindS : Kd → PySem.Str
  | .rc => Str.ofString "RCDATA"
  | .rw => Str.ofString "RAWTEXT"
inductive St where
  | held (k : Kd) | lt (k : Kd) | eto (k : Kd) | etn (k : Kd) | ref | ba | sol | data
  deriving DecidableEq
noncomputable def stS : St → PySem.Str
  | .held .rc => Str.ofString "RCDATA"
  | .held .rw => Str.ofString "RAWTEXT"
  | .lt .rc => Str.ofString "RCDATA less-than sign"
  | .lt .rw => Str.ofString "RAWTEXT less-than sign"
  | .eto .rc => Str.ofString "RCDATA end tag open"
  | .eto .rw => Str.ofString "RAWTEXT end tag open"
  | .etn .rc => Str.ofString "RCDATA end tag name"
  | .etn .rw => Str.ofString "RAWTEXT end tag name"
  | .ref => Str.ofString "character reference"
  | .ba => Str.ofString "before attribute name"
  | .sol => Str.ofString "self-closing start tag"
  | .data => Str.ofString "data"
/-- the state to go back to; the first is data -/
noncomputable def kindO : Option Kd → PySem.Str
  | none => Str.ofString "data"
  | some k => kindS k
noncomputable def backSt : Option Kd → St
  | none => .data
  | some k => .held k
theorem stS_back : ∀ b, stS (backSt b) = kindO b
  | none => rfl
  | some .rc => rfl
  | some .rw => rfl
/-- a draft: its name, whether it closes, its attributes' signs and whether they are kept -/
structure Dr where
  name : List Nat
  closing : Bool
  attrs : List (Nat × Bool)
structure Abs where
  pos : Nat
  st : St
  back : Option Kd
  out : List Dat
  errs : List Dat
  buffer : List Nat
  last : List Nat
  done : Bool
  dr : Option Dr
/-- a text of codes -/
noncomputable abbrev tx (l : List Nat) : PySem.Str := ⟨l.toArray⟩
noncomputable abbrev chD (c : Nat) : Dat := .tuple [.str (Str.ofString "char"), .str (sg c)]
noncomputable abbrev eofD : Dat := .tuple [.str (Str.ofString "eof")]
noncomputable abbrev erD (code : PySem.Str) (p : Nat) : Dat := .tuple [.str code, .int p]
noncomputable abbrev startD (n : List Nat) : Dat := .tuple [.str (Str.ofString "start"), .str (tx n), .tuple [], .bool false]
noncomputable abbrev atD (c : Nat) : Dat := .tuple [.str (sg c), .str (Str.ofString "")]
noncomputable abbrev endD (n : List Nat) (ks : List Nat) (cl : Bool) : Dat := .tuple [.str (Str.ofString "end"), .str (tx n), .tuple (ks.map atD), .bool cl]
noncomputable def isLetter (n : Nat) : Bool := (decide (97 ≤ n) && decide (n ≤ 122)) || (decide (65 ≤ n) && decide (n ≤ 90))
noncomputable def isBlank (n : Nat) : Bool := n == 9 || n == 10 || n == 12 || n == 32
noncomputable def lowerC (n : Nat) : Nat := if 65 ≤ n ∧ n ≤ 90 then n + 32 else n
noncomputable abbrev nullE : PySem.Str := Str.ofString "unexpected-null-character"
noncomputable abbrev dupE : PySem.Str := Str.ofString "duplicate-attribute"
noncomputable abbrev attrE : PySem.Str := Str.ofString "end-tag-with-attributes"
noncomputable abbrev solE : PySem.Str := Str.ofString "end-tag-with-trailing-solidus"
noncomputable abbrev eofE : PySem.Str := Str.ofString "eof-in-tag"
/-- what a closed draft gives -/
noncomputable def emitDraft (A : Abs) (p : Nat) (d : Dr) : Abs :=
  { A with pos := p + 1, st := .data, dr := none
           errs := A.errs ++ (if d.attrs = [] then [] else [erD attrE p]) ++ (if d.closing then [erD solE p] else [])
           out := A.out ++ [endD d.name ((d.attrs.filter (·.2)).map (·.1)) d.closing] }
noncomputable def eof (A : Abs) (n : Nat) : Abs := { A with pos := n + 1, out := A.out ++ [eofD], done := true }
/-! one step, state by state -/
noncomputable def stHeld (cs : List Nat) (A : Abs) (k : Kd) : Abs :=
  match cs[A.pos]? with
  | none => eof A A.pos
  | some c =>
    if c = 38 ∧ k = .rc then { A with pos := A.pos + 1, st := .ref, back := some k }
    else if c = 60 then { A with pos := A.pos + 1, st := .lt k }
    else if c = 0 then { A with pos := A.pos + 1, errs := A.errs ++ [erD nullE A.pos], out := A.out ++ [chD 0xFFFD] }
    else { A with pos := A.pos + 1, out := A.out ++ [chD c] }
noncomputable def stLt (cs : List Nat) (A : Abs) (k : Kd) : Abs :=
  if cs[A.pos]? = some 47 then { A with pos := A.pos + 1, st := .eto k, buffer := [] } else { A with st := .held k, out := A.out ++ [chD 60] }
noncomputable def stEto (cs : List Nat) (A : Abs) (k : Kd) : Abs :=
  match cs[A.pos]? with
  | some c => if isLetter c then { A with st := .etn k, dr := some ⟨[], false, []⟩ } else { A with st := .held k, out := A.out ++ [chD 60, chD 47] }
  | none => { A with st := .held k, out := A.out ++ [chD 60, chD 47] }
noncomputable def stEtn (cs : List Nat) (A : Abs) (k : Kd) : Abs :=
  match A.dr with
  | none => A
  | some d => match cs[A.pos]? with
    | none => { A with st := .held k, dr := none, out := A.out ++ ([60, 47] ++ A.buffer).map chD }
    | some c =>
      if isLetter c then { A with pos := A.pos + 1, dr := some { d with name := d.name ++ [lowerC c] }, buffer := A.buffer ++ [c] }
      else if d.name = A.last ∧ isBlank c then { A with pos := A.pos + 1, st := .ba }
      else if d.name = A.last ∧ c = 47 then { A with pos := A.pos + 1, st := .sol }
      else if d.name = A.last ∧ c = 62 then emitDraft A A.pos d
      else { A with st := .held k, dr := none, out := A.out ++ ([60, 47] ++ A.buffer).map chD }
noncomputable def stRef (cs : List Nat) (A : Abs) : Abs :=
  { A with st := backSt A.back, buffer := [], out := A.out ++ [chD 38] }
noncomputable def stBa (cs : List Nat) (A : Abs) : Abs :=
  match A.dr with
  | none => A
  | some d => match cs[A.pos]? with
    | none => let A' := eof A A.pos; { A' with errs := A.errs ++ [erD eofE A.pos] }
    | some c =>
      if c = 62 then emitDraft A A.pos d
      else if c = 47 then { A with pos := A.pos + 1, st := .sol }
      else if isBlank c then { A with pos := A.pos + 1 }
      else if d.attrs.any (fun a => a.2 && a.1 == c) then { A with pos := A.pos + 1, dr := some { d with attrs := d.attrs ++ [(c, false)] }, errs := A.errs ++ [erD dupE A.pos] }
      else { A with pos := A.pos + 1, dr := some { d with attrs := d.attrs ++ [(c, true)] } }
noncomputable def stSol (cs : List Nat) (A : Abs) : Abs :=
  match A.dr with
  | none => A
  | some d => match cs[A.pos]? with
    | none => let A' := eof A A.pos; { A' with errs := A.errs ++ [erD eofE A.pos] }
    | some c => if c = 62 then emitDraft A A.pos { d with closing := true } else { A with st := .ba }
/-- one step -/
noncomputable def stepA (cs : List Nat) (A : Abs) : Abs :=
  match A.st with
  | .held k => stHeld cs A k
  | .lt k => stLt cs A k
  | .eto k => stEto cs A k
  | .etn k => stEtn cs A k
  | .ref => stRef cs A
  | .ba => stBa cs A
  | .sol => stSol cs A
  | .data => A
theorem stepA_held {cs : List Nat} {A : Abs} {k : Kd} (h : A.st = .held k) : stepA cs A = stHeld cs A k := by unfold stepA; rw [h]
theorem stepA_lt {cs : List Nat} {A : Abs} {k : Kd} (h : A.st = .lt k) : stepA cs A = stLt cs A k := by unfold stepA; rw [h]
theorem stepA_eto {cs : List Nat} {A : Abs} {k : Kd} (h : A.st = .eto k) : stepA cs A = stEto cs A k := by unfold stepA; rw [h]
theorem stepA_etn {cs : List Nat} {A : Abs} {k : Kd} (h : A.st = .etn k) : stepA cs A = stEtn cs A k := by unfold stepA; rw [h]
theorem stepA_ref {cs : List Nat} {A : Abs} (h : A.st = .ref) : stepA cs A = stRef cs A := by unfold stepA; rw [h]
theorem stepA_ba {cs : List Nat} {A : Abs} (h : A.st = .ba) : stepA cs A = stBa cs A := by unfold stepA; rw [h]
theorem stepA_sol {cs : List Nat} {A : Abs} (h : A.st = .sol) : stepA cs A = stSol cs A := by unfold stepA; rw [h]
/-- the attribute's list of three -/
noncomputable abbrev a3D (a : Nat × Bool) : Dat := .list [.str (sg a.1), .str (Str.ofString ""), .bool a.2]
noncomputable def DLo (w : World) : Option DRaw → Led
  | none => []
  | some D => DL w D
/-- the draft as it lies -/
noncomputable def DrRep (R : Raw) (rest : Led) : Option Dr → Option DRaw → Prop
  | none, none => True
  | some d, some D => R.T.draft = .ref D.d ∧ D.name = tx d.name ∧ D.closing = d.closing ∧ DatAll rest D.avs (d.attrs.map a3D) ∧ OrdD R D ∧ OffD D rest
  | _, _ => False
/-- the heap bears the machine's state -/
structure Rep (cs : List Nat) (t : Nat) (R : Raw) (D : Option DRaw) (rest : Led) (A : Abs) : Prop where
  sgs : SignsAre R.vs cs
  pos : R.T.vat = A.pos
  state : R.T.state = stS A.st
  back : R.T.back = kindO A.back
  outs : DatAll rest R.outs A.out
  errs : DatAll rest R.ers A.errs
  buffer : R.T.buffer = tx A.buffer
  last : R.T.last = tx A.last
  done : R.T.done = A.done
  waiting : R.T.waiting = false
  handed : handedIn R.T.draft = true
  dr : DrRep R rest A.dr D
  ord : Ord t R
  off : Off R rest
/-- bounds -/
structure Good (cs : List Nat) (A : Abs) : Prop where
  len : cs.length ≤ 40
  pos : A.pos ≤ cs.length
  out : A.out.length ≤ 500
  errs : A.errs.length ≤ 500
  buffer : A.buffer.length ≤ 100
  attrs : ∀ d, A.dr = some d → d.attrs.length ≤ 100
/-- what a call leaves of the tokenizer -/
noncomputable def After (w : World) (cs : List Nat) (t : Nat) (R : Raw) (D : Option DRaw) (rest : Led) (A' : Abs) (news' : Led) : Prop :=
  ∃ R' ex, R'.T.states = R.T.states ∧ news' = ML w t R' ++ (DLo w D ++ (ex ++ rest)) ∧ Rep cs t R' D (ex ++ rest) A'
/-- what a rule's call leaves -/
noncomputable def Stepped (w : World) (cs : List Nat) (t : Nat) (R : Raw) (rest : Led) (A' : Abs) (v : Value) (news' : Led) : Prop :=
  v = .none ∧ ∃ R' D' ex, R'.T.states = R.T.states ∧ news' = ML w t R' ++ (DLo w D' ++ (ex ++ rest)) ∧ Rep cs t R' D' (ex ++ rest) A'
section
variable {cs : List Nat} {t : Nat} {R : Raw} {D : Option DRaw} {rest : Led} {A : Abs}
theorem Off.app {a b : Led} (h1 : Off R a) (h2 : Off R b) : Off R (a ++ b) :=
  ⟨List.forall_mem_append.mpr ⟨h1.f1, h2.f1⟩, List.forall_mem_append.mpr ⟨h1.f2, h2.f2⟩, List.forall_mem_append.mpr ⟨h1.f3, h2.f3⟩⟩
theorem Off.cons {a : Led} {q : Addr × Obj} (h : R.T.errors < q.1) (O : Ord t R) (h2 : Off R a) : Off R (q :: a) := by
  obtain ⟨o1, o2, o3, o4, o5, o6⟩ := O
  obtain ⟨f1, f2, f3⟩ := h2
  exact ⟨List.forall_mem_cons.mpr ⟨Nat.ne_of_gt (by omega), f1⟩, List.forall_mem_cons.mpr ⟨Nat.ne_of_gt (by omega), f2⟩, List.forall_mem_cons.mpr ⟨Nat.ne_of_gt (by omega), f3⟩⟩
theorem Off.many {a ex : Led} (h : ∀ p ∈ ex, R.T.errors < p.1) (O : Ord t R) (h2 : Off R a) : Off R (ex ++ a) := by
  induction ex with
  | nil => exact h2
  | cons q r ih => exact Off.cons (h q (.head _)) O (ih fun p hp => h p (.tail _ hp))
theorem Rep.offAll (w : World) (P : Rep cs t R D rest A) : Off R (DLo w D ++ rest) := by
  cases D with
  | none => exact P.off
  | some D =>
    have q := P.dr
    cases hd : A.dr with
    | none => rw [hd] at q; exact q.elim
    | some d =>
      rw [hd] at q
      obtain ⟨_, _, _, _, ⟨o1, o2, o3⟩, _⟩ := q
      refine Off.many ?_ P.ord P.off
      intro p hp
      simp only [DLo, List.mem_cons, List.not_mem_nil, or_false] at hp
      rcases hp with rfl | rfl | rfl
      · exact Nat.lt_trans o1 o2
      · exact o1
      · exact Nat.lt_trans o1 (Nat.lt_trans o2 o3)
theorem Rep.more {ex : Led} (P : Rep cs t R D rest A) (h : ∀ p ∈ ex, Fresh R.T.errors (DLo w D ++ rest) p.1) : Rep cs t R D (ex ++ rest) A where
  sgs := P.sgs
  pos := P.pos
  state := P.state
  back := P.back
  outs := P.outs.mono fun _ hp => List.mem_append.mpr (.inr hp)
  errs := P.errs.mono fun _ hp => List.mem_append.mpr (.inr hp)
  buffer := P.buffer
  last := P.last
  done := P.done
  waiting := P.waiting
  handed := P.handed
  dr := by
    have q := P.dr
    cases hd : A.dr with
    | none => rw [hd] at q; cases D with
      | none => trivial
      | some D => exact q
    | some d => rw [hd] at q; cases D with
      | none => exact q
      | some D =>
        obtain ⟨q1, q2, q3, q4, q5, q6⟩ := q
        refine ⟨q1, q2, q3, q4.mono fun _ hp => List.mem_append.mpr (.inr hp), q5, ?_⟩
        have m1 : ∀ p ∈ ex, D.dd < p.1 := fun p hp => (h p hp).b (D.dd, dictOf (drEs w D) 8) (List.mem_append.mpr (.inl (by simp [DLo])))
        have m2 : ∀ p ∈ ex, D.attrs < p.1 := fun p hp => (h p hp).b (D.attrs, listOf D.avs.toArray D.an) (List.mem_append.mpr (.inl (by simp [DLo])))
        exact ⟨List.forall_mem_append.mpr ⟨fun p hp => Nat.ne_of_gt (m1 p hp), q6.f1⟩, List.forall_mem_append.mpr ⟨fun p hp => Nat.ne_of_gt (m2 p hp), q6.f2⟩⟩
  ord := P.ord
  off := Off.many (fun p hp => (h p hp).a) P.ord P.off
theorem DrRep.of {R1 : Raw} {d : Option Dr} (h1 : R1.T.draft = R.T.draft) (h2 : R1.T.errors = R.T.errors) (q : DrRep R rest d D) : DrRep R1 rest d D := by
  cases d with
  | none => cases D with
    | none => trivial
    | some D => exact q
  | some d => cases D with
    | none => exact q
    | some D =>
      obtain ⟨q1, q2, q3, q4, q5, q6⟩ := q
      exact ⟨h1.trans q1, q2, q3, q4, ⟨by rw [h2]; exact q5.o1, q5.o2, q5.o3⟩, q6⟩
/-- the token's objects go behind the draft -/
theorem sub_swap {M X Y Z : Led} : ∀ p ∈ M ++ (Y ++ (X ++ Z)), p ∈ M ++ (X ++ (Y ++ Z)) := by
  intro p hp
  simp only [List.mem_append] at hp ⊢
  rcases hp with h | h | h | h <;> simp [h]
theorem stepped1 {w : World} {R1 : Raw} {ex1 : Led} {A1 A' : Abs} (e1 : R1.T.states = R.T.states) (P : Rep cs t R1 D (ex1 ++ rest) A1) (h : A1 = A') : Stepped w cs t R rest A' .none (ML w t R1 ++ (DLo w D ++ (ex1 ++ rest))) :=
  ⟨rfl, R1, D, ex1, e1, rfl, h ▸ P⟩
theorem stepped2 {w : World} {R1 R2 : Raw} {ex1 ex2 : Led} {A1 A' : Abs} (e1 : R1.T.states = R.T.states) (e2 : R2.T.states = R1.T.states) (P : Rep cs t R2 D (ex2 ++ (ex1 ++ rest)) A1) (h : A1 = A') : Stepped w cs t R rest A' .none (ML w t R2 ++ (DLo w D ++ (ex2 ++ (ex1 ++ rest)))) :=
  ⟨rfl, R2, D, ex2 ++ ex1, e2.trans e1, by rw [List.append_assoc], by rw [List.append_assoc]; exact h ▸ P⟩
theorem stepped3 {w : World} {R1 R2 R3 : Raw} {ex1 ex2 ex3 : Led} {A1 A' : Abs} (e1 : R1.T.states = R.T.states) (e2 : R2.T.states = R1.T.states) (e3 : R3.T.states = R2.T.states) (P : Rep cs t R3 D (ex3 ++ (ex2 ++ (ex1 ++ rest))) A1) (h : A1 = A') : Stepped w cs t R rest A' .none (ML w t R3 ++ (DLo w D ++ (ex3 ++ (ex2 ++ (ex1 ++ rest))))) :=
  ⟨rfl, R3, D, ex3 ++ (ex2 ++ ex1), e3.trans (e2.trans e1), by simp only [List.append_assoc], by simp only [List.append_assoc]; exact h ▸ P⟩
theorem Rep.setBack (P : Rep cs t R D rest A) (k : Kd) (tk : Tok) : Rep cs t { R with T := { R.T with back := kindS k, bkT := tk } } D rest { A with back := some k } :=
  ⟨P.sgs, P.pos, P.state, rfl, P.outs, P.errs, P.buffer, P.last, P.done, P.waiting, P.handed, DrRep.of (R := R) rfl rfl P.dr, ⟨P.ord.o1, P.ord.o2, P.ord.o3, P.ord.o4, P.ord.o5, P.ord.o6⟩, ⟨P.off.f1, P.off.f2, P.off.f3⟩⟩
theorem Rep.setBuffer (P : Rep cs t R D rest A) (x : PySem.Str) (l : List Nat) (tk : Tok) (e : x = tx l) : Rep cs t { R with T := { R.T with buffer := x, bfT := tk } } D rest { A with buffer := l } :=
  ⟨P.sgs, P.pos, P.state, P.back, P.outs, P.errs, e, P.last, P.done, P.waiting, P.handed, DrRep.of (R := R) rfl rfl P.dr, ⟨P.ord.o1, P.ord.o2, P.ord.o3, P.ord.o4, P.ord.o5, P.ord.o6⟩, ⟨P.off.f1, P.off.f2, P.off.f3⟩⟩
theorem Rep.setDraft {d : Dr} {D' : DRaw} (P : Rep cs t R none rest A) (h2 : D'.name = tx d.name) (h3 : D'.closing = d.closing) (h4 : DatAll rest D'.avs (d.attrs.map a3D)) (h5 : OrdD R D') (h6 : OffD D' rest) :
    Rep cs t { R with T := { R.T with draft := .ref D'.d } } (some D') rest { A with dr := some d } :=
  ⟨P.sgs, P.pos, P.state, P.back, P.outs, P.errs, P.buffer, P.last, P.done, P.waiting, rfl, ⟨rfl, h2, h3, h4, ⟨h5.o1, h5.o2, h5.o3⟩, h6⟩, ⟨P.ord.o1, P.ord.o2, P.ord.o3, P.ord.o4, P.ord.o5, P.ord.o6⟩, ⟨P.off.f1, P.off.f2, P.off.f3⟩⟩
end
end
section
open PySem PySem.W PyProof.Rows PyProof.V PySem.Spec PySem.Calls
section
variable {w : World} {f : Addr} {vs : List Value} {dd uu : Nat} {news : Led} {cs : List Nat} {t : Nat} {R : Raw} {D : Option DRaw} {rest : Led} {A' : Abs}
/-! a contract's use, and what it leaves taken apart away from the walk: the goal stands in no motive -/
theorem use_next {x : PySem.Str} (S : Spec w f vs dd uu news (fun v n => (∃ tk, v = Value.str x tk) ∧ After w cs t R D rest A' n))
    {mean : ExcName → Option Value} {mg mb : PySem.Str → Option Value} {A A₀ : Around} {env : PySem.Env} {outer : List PySem.Env} {base h₀ : Heap} {L : Addr} {m : PySem.Str → Option Value} {s : Shared} {Q E : Value → Shared → Prop}
    (B : Below A₀ base outer h₀) (F : Fr h₀ L s.heap m) (X : (hd.heap_39 w.params).In h₀) (N : News h₀ L s.heap news)
    (T : Top hd.view_39 (looseW hd.view_39 []) mean mg mb h₀) (hh : A.handled = none) (hA : A.frames = some (env :: outer)) (hf : env.frame = some L) (hk : env.scope.kind = .function) (hd' : A.depth + dd < recursionLimit) (hu : A.units + uu < cLine)
    (k : ∀ tk R' ex h' tk', R'.T.states = R.T.states → Rep cs t R' D (ex ++ rest) A' → Fr h₀ L h' m → News h₀ L h' (ML w t R' ++ (DLo w D ++ (ex ++ rest))) → Q (.str x tk) { s with heap := h', toks := tk' }) :
    wpAny (model PySem.Challenge.rw_nt0604_01.row.prog w) A (call (.ref f) vs) Q E s := by
  refine spec_use S B F X N T hh hA hf hk hd' hu ?_
  rintro v n h' tk' ⟨⟨tk, rfl⟩, R', ex, e, rfl, P⟩ F N
  exact k tk R' ex h' tk' e P F N
theorem use_after (S : Spec w f vs dd uu news (fun v n => v = Value.none ∧ After w cs t R D rest A' n))
    {mean : ExcName → Option Value} {mg mb : PySem.Str → Option Value} {A A₀ : Around} {env : PySem.Env} {outer : List PySem.Env} {base h₀ : Heap} {L : Addr} {m : PySem.Str → Option Value} {s : Shared} {Q E : Value → Shared → Prop}
    (B : Below A₀ base outer h₀) (F : Fr h₀ L s.heap m) (X : (hd.heap_39 w.params).In h₀) (N : News h₀ L s.heap news)
    (T : Top hd.view_39 (looseW hd.view_39 []) mean mg mb h₀) (hh : A.handled = none) (hA : A.frames = some (env :: outer)) (hf : env.frame = some L) (hk : env.scope.kind = .function) (hd' : A.depth + dd < recursionLimit) (hu : A.units + uu < cLine)
    (k : ∀ R' ex h' tk', R'.T.states = R.T.states → Rep cs t R' D (ex ++ rest) A' → Fr h₀ L h' m → News h₀ L h' (ML w t R' ++ (DLo w D ++ (ex ++ rest))) → Q .none { s with heap := h', toks := tk' }) :
    wpAny (model PySem.Challenge.rw_nt0604_01.row.prog w) A (call (.ref f) vs) Q E s := by
  refine spec_use S B F X N T hh hA hf hk hd' hu ?_
  rintro v n h' tk' ⟨rfl, R', ex, e, rfl, P⟩ F N
  exact k R' ex h' tk' e P F N
theorem use_stepped (S : Spec w f vs dd uu news (Stepped w cs t R rest A'))
    {mean : ExcName → Option Value} {mg mb : PySem.Str → Option Value} {A A₀ : Around} {env : PySem.Env} {outer : List PySem.Env} {base h₀ : Heap} {L : Addr} {m : PySem.Str → Option Value} {s : Shared} {Q E : Value → Shared → Prop}
    (B : Below A₀ base outer h₀) (F : Fr h₀ L s.heap m) (X : (hd.heap_39 w.params).In h₀) (N : News h₀ L s.heap news)
    (T : Top hd.view_39 (looseW hd.view_39 []) mean mg mb h₀) (hh : A.handled = none) (hA : A.frames = some (env :: outer)) (hf : env.frame = some L) (hk : env.scope.kind = .function) (hd' : A.depth + dd < recursionLimit) (hu : A.units + uu < cLine)
    (k : ∀ R' D' ex h' tk', R'.T.states = R.T.states → Rep cs t R' D' (ex ++ rest) A' → Fr h₀ L h' m → News h₀ L h' (ML w t R' ++ (DLo w D' ++ (ex ++ rest))) → Q .none { s with heap := h', toks := tk' }) :
    wpAny (model PySem.Challenge.rw_nt0604_01.row.prog w) A (call (.ref f) vs) Q E s := by
  refine spec_use S B F X N T hh hA hf hk hd' hu ?_
  rintro v n h' tk' ⟨rfl, R', D', ex, e, rfl, P⟩ F N
  exact k R' D' ex h' tk' e P F N
/-- a contract's use, what it leaves taken apart by an eliminator -/
theorem spec_elim {Ret : Value → Led → Prop} (S : Spec w f vs dd uu news Ret)
    {mean : ExcName → Option Value} {mg mb : PySem.Str → Option Value} {A A₀ : Around} {env : PySem.Env} {outer : List PySem.Env} {base h₀ : Heap} {L : Addr} {m : PySem.Str → Option Value} {s : Shared} {Q E : Value → Shared → Prop}
    (B : Below A₀ base outer h₀) (F : Fr h₀ L s.heap m) (X : (hd.heap_39 w.params).In h₀) (N : News h₀ L s.heap news)
    (T : Top hd.view_39 (looseW hd.view_39 []) mean mg mb h₀) (hh : A.handled = none) (hA : A.frames = some (env :: outer)) (hf : env.frame = some L) (hk : env.scope.kind = .function) (hd' : A.depth + dd < recursionLimit) (hu : A.units + uu < cLine)
    (k : ∀ v n, Ret v n → ∀ h' tk', Fr h₀ L h' m → News h₀ L h' n → Q v { s with heap := h', toks := tk' }) :
    wpAny (model PySem.Challenge.rw_nt0604_01.row.prog w) A (call (.ref f) vs) Q E s :=
  spec_use S B F X N T hh hA hf hk hd' hu fun v n h' tk' r F N => k v n r h' tk' F N
theorem use_eq {x : Value} {n₀ : Led} (S : Spec w f vs dd uu news (fun v n => v = x ∧ n = n₀))
    {mean : ExcName → Option Value} {mg mb : PySem.Str → Option Value} {A A₀ : Around} {env : PySem.Env} {outer : List PySem.Env} {base h₀ : Heap} {L : Addr} {m : PySem.Str → Option Value} {s : Shared} {Q E : Value → Shared → Prop}
    (B : Below A₀ base outer h₀) (F : Fr h₀ L s.heap m) (X : (hd.heap_39 w.params).In h₀) (N : News h₀ L s.heap news)
    (T : Top hd.view_39 (looseW hd.view_39 []) mean mg mb h₀) (hh : A.handled = none) (hA : A.frames = some (env :: outer)) (hf : env.frame = some L) (hk : env.scope.kind = .function) (hd' : A.depth + dd < recursionLimit) (hu : A.units + uu < cLine)
    (k : ∀ h' tk', Fr h₀ L h' m → News h₀ L h' n₀ → Q x { s with heap := h', toks := tk' }) :
    wpAny (model PySem.Challenge.rw_nt0604_01.row.prog w) A (call (.ref f) vs) Q E s := by
  refine spec_use S B F X N T hh hA hf hk hd' hu ?_
  rintro v n h' tk' ⟨rfl, rfl⟩ F N
  exact k h' tk' F N
theorem use_tok {x : PySem.Str} {n₀ : Led} (S : Spec w f vs dd uu news (fun v n => (∃ tk, v = Value.str x tk) ∧ n = n₀))
    {mean : ExcName → Option Value} {mg mb : PySem.Str → Option Value} {A A₀ : Around} {env : PySem.Env} {outer : List PySem.Env} {base h₀ : Heap} {L : Addr} {m : PySem.Str → Option Value} {s : Shared} {Q E : Value → Shared → Prop}
    (B : Below A₀ base outer h₀) (F : Fr h₀ L s.heap m) (X : (hd.heap_39 w.params).In h₀) (N : News h₀ L s.heap news)
    (T : Top hd.view_39 (looseW hd.view_39 []) mean mg mb h₀) (hh : A.handled = none) (hA : A.frames = some (env :: outer)) (hf : env.frame = some L) (hk : env.scope.kind = .function) (hd' : A.depth + dd < recursionLimit) (hu : A.units + uu < cLine)
    (k : ∀ tk h' tk', Fr h₀ L h' m → News h₀ L h' n₀ → Q (.str x tk) { s with heap := h', toks := tk' }) :
    wpAny (model PySem.Challenge.rw_nt0604_01.row.prog w) A (call (.ref f) vs) Q E s := by
  refine spec_use S B F X N T hh hA hf hk hd' hu ?_
  rintro v n h' tk' ⟨⟨tk, rfl⟩, rfl⟩ F N
  exact k tk h' tk' F N
end
theorem add_fit {x y : PySem.Str} (hx : x.length ≤ 1000) (hy : y.length ≤ 1000) : x.length + y.length ≤ sizeLine := by rw [sizeLine_eq]; omega
theorem sg_fit (n : Nat) : (sg n).length ≤ 1000 := by show 1 ≤ 1000; omega
theorem tx_fit {l : List Nat} (h : l.length ≤ 1000) : (tx l).length ≤ 1000 := h
theorem lit_fit {s : String} (h : Nat.ble (Str.ofString s).length 1000 = true) : (Str.ofString s).length ≤ 1000 := Nat.le_of_ble_eq_true h
/-- the ways of a statement meet -/
noncomputable def JoinP (h₀ : Heap) (L : Addr) (m : PySem.Str → Option Value) (J : Led → Prop) (s : Shared) (fl : Flow) (s' : Shared) : Prop := fl = .next ∧ ∃ h tk nx, s' = { s with heap := h, toks := tk } ∧ Fr h₀ L h m ∧ News h₀ L h nx ∧ J nx
theorem JoinP.intro {h₀ h : Heap} {L : Addr} {m : PySem.Str → Option Value} {J : Led → Prop} {s : Shared} {nx : Led} {tk : Nat} (F : Fr h₀ L h m) (N : News h₀ L h nx) (j : J nx) : JoinP h₀ L m J s .next { s with heap := h, toks := tk } := ⟨rfl, h, tk, nx, rfl, F, N, j⟩
theorem execs_joinR {M : Model} {A : Around} {env : PySem.Env} {st : Stmt} {rest : List Stmt} {Q : Flow → Shared → Prop} {E : Value → Shared → Prop} {s : Shared} {h₀ : Heap} {L : Addr} {m : PySem.Str → Option Value} (_ : Fr h₀ L s.heap m) (J : Led → Prop)
    (h1 : wpAny M A (exec st env) (JoinP h₀ L m J s) E s)
    (h2 : ∀ h tk nx, Fr h₀ L h m → News h₀ L h nx → J nx → wpAny M A (execs rest env) Q E { s with heap := h, toks := tk }) : wpAny M A (execs (st :: rest) env) Q E s := by
  refine wpAny_execs_cons (wpAny_mono h1 (fun fl s' hs => ?_) fun _ _ h => h)
  obtain ⟨rfl, h, tk, nx, rfl, F, N, hJ⟩ := hs
  exact h2 h tk nx F N hJ
section
variable {prog : Program} {w : World} {A : Around} {E : Value → Shared → Prop} {s : Shared} {h₀ : Heap} {L : Addr} {m : PySem.Str → Option Value} {cn : PySem.Str} {cs : Scope} {a : Addr} {ccd : Value} {cl : List (PySem.Str × Addr)} {x : PySem.Str} {px pos : Pos} {e : PySem.Expr} {rest : List PySem.Expr} {v : Value} {env : PySem.Env} {k : Nat}
/-! arguments that are a local name or a constant: in one step -/
theorem args_nameX {Q : List Value → Shared → Prop} (F : Fr h₀ L s.heap m) (hv : m x = some v) (h : wpAny (model prog w) A (spliced (backTo pos (starEach (e :: rest) (envX cn cs L a ccd cl)))) (fun vs s₂ => Q (v :: vs) s₂) E s)
    (hk : cs.kind = .function) (hx : (envX cn cs L a ccd cl).kindOf x = some .local) (hd : (x == Str.ofString "__debug__") = false) :
    wpAny (model prog w) A (spliced (backTo pos (starEach (.Name x px :: e :: rest) (envX cn cs L a ccd cl)))) Q E s := args_cons (nameX_L F hv h hk hx hd)
theorem args_nameX1 {Q : List Value → Shared → Prop} (F : Fr h₀ L s.heap m) (hv : m x = some v) (h : Q [v] s)
    (hk : cs.kind = .function) (hx : (envX cn cs L a ccd cl).kindOf x = some .local) (hd : (x == Str.ofString "__debug__") = false) :
    wpAny (model prog w) A (spliced (backTo pos (starEach [.Name x px] (envX cn cs L a ccd cl)))) Q E s := args_cons (nameX_L F hv (args_nil h) hk hx hd)
theorem args_str {Q : List Value → Shared → Prop} (h : wpAny (model prog w) A (spliced (backTo pos (starEach (e :: rest) env))) (fun vs s₂ => Q (.str x s.toks :: vs) s₂) E { s with toks := s.toks + 1 }) :
    wpAny (model prog w) A (spliced (backTo pos (starEach (.Constant (.str x) k px :: e :: rest) env))) Q E s := args_cons (PySem.Calls.Constant_str h)
theorem args_str1 {Q : List Value → Shared → Prop} (h : Q [.str x s.toks] { s with toks := s.toks + 1 }) :
    wpAny (model prog w) A (spliced (backTo pos (starEach [.Constant (.str x) k px] env))) Q E s := args_cons (PySem.Calls.Constant_str (args_nil h))
end
end
section
open PySem PySem.W PyProof.Rows PyProof.V PySem.Spec PySem.Calls
section
variable {prog : Program} {w : World} {A : Around} {E : Value → Shared → Prop} {s : Shared} {h₀ : Heap} {L : Addr} {m : PySem.Str → Option Value} {env : PySem.Env}
/-- a list made from a text's signs -/
theorem lc_text {elt iter : PySem.Expr} {x : PySem.Str} {px : Pos} {scope : Scope} {cl : List (PySem.Str × Addr)} {pos : Pos} {xt : PySem.Str} {tx : Tok} {news : Led} {Q : Value → Shared → Prop} (F₀ : Fr h₀ L s.heap m)
    (hclos : closureFor scope env = pure cl) (hcell : ∀ y ∈ scope.names, y.2 ≠ .cell) (hkind : scope.kind = .function)
    (hnames : ∀ y ∈ scope.names, y.2 = .local → scope.names.lookup y.1 = some .local) (hx : scope.names.lookup x = some .local)
    (hh : A.handled = none) (hsz : xt.cps.size ≤ sizeLine)
    (h : wpAny (model prog w) A (eval iter env) (fun xv s₁ => xv = .str xt tx ∧ Fr h₀ L s₁.heap m ∧ News h₀ L s₁.heap news ∧
      ∀ s₂ : Shared, (∃ g, s₂ = { s₁ with heap := g }) → LCg.CompRest prog w A h₀ L m env elt x scope cl s₂ (fun _ => True) (SignAt xt) (LCg.FinE h₀ L m s₂ Q) xt.cps.size 0 [] news) E s)
    (hs : ∀ x, foldedSetIterable iter env x = pure x := by intro _; rfl) :
    wpAny (model prog w) A (eval (.ListComp elt [⟨.Name x px, iter, [], 0⟩] scope pos) env) Q E s := by
  rw [eval_ListComp]
  refine wpAny_comprehension_free (use := none) rfl hs hclos hkind hnames (wpAny_mono h (fun xv s₁ h₁ => ?_) fun _ _ e => e)
  obtain ⟨rfl, F, N, R⟩ := h₁
  refine wpAny_pyIter_strU ?_
  obtain ⟨cls, W, h0⟩ : ∃ cls, Walks prog w A s₁.heap.objs.size [s₁.heap.objs.size] [s₁.heap.objs.size] xt.cps.size (SignAt xt) (fun i h => h.IsStrIter s₁.heap.objs.size cls xt tx i) ∧
      (s₁.heap.push { cls := .type (strIterType xt), data := .fields #[.str xt tx, .int 0 0] }).IsStrIter s₁.heap.objs.size cls xt tx 0 := by
    cases ha : xt.cps.all (· < 128) with
    | true => exact ⟨"str_ascii_iterator", Walks.strAscii hh _ xt tx, _, Heap.get?_push_size _ rfl, by simp [strIterType, ha], rfl⟩
    | false => exact ⟨"str_iterator", Walks.strWide hh _ xt tx, _, Heap.get?_push_size _ rfl, by simp [strIterType, ha], rfl⟩
  refine LCg.block_U (S := fun _ => True) W hsz (fun i h st => by obtain ⟨o, e, _⟩ := st; exact ⟨o, e⟩)
      (fun i h h' o nw st e e' _ _ _ => by obtain ⟨o', q, r⟩ := st; rw [e] at q; cases q; exact ⟨o, e', r⟩) hcell hkind hx h0 (fun b hb => ?_)
      (F.keeps fun _ _ e => Heap.get?_push_of_some _ e) (N.grown fun _ _ e => Heap.get?_push_of_some _ e) (Nat.ne_of_lt F.ns.lt) (next_is_new F) (fun p hp => Nat.ne_of_lt (Heap.lt_size (N p hp).1)) trivial (R _ ⟨_, rfl⟩) ?_
  · rw [List.mem_singleton.mp hb]
    show s₁.heap.objs.size < (s₁.heap.push _).objs.size
    rw [Heap.size_push]; exact Nat.lt_succ_self _
  · intro D C h tk m' ys news' F' N' o1 hn hC₀ hD₀ hCL hDL hCD offC fin
    refine ⟨m', hn, fun h'' hs'' => fin D h'' tk (F'.change hs'' hCL hC₀) (fun p hp => ?_) o1⟩
    refine ⟨hs''.extBut _ _ ?_ (N' p hp).1, (N' p hp).2⟩
    rcases List.mem_cons.mp hp with rfl | hp
    · exact Ne.symm hCD
    · exact offC p hp
theorem comp_rest {elt : PySem.Expr} {x : PySem.Str} {scope : Scope} {cl : List (PySem.Str × Addr)} {S : Led → Prop} {P : Nat → Value → Prop} {Fin : List Value → Led → Prop} (J : Nat → List Value → Led → Prop) (n : Nat)
    (step : ∀ i ys news v I oI C oC D m₂ h tk (E' : Value → Shared → Prop), i < n → J i ys news → P i v → LCg.NsObj oC m₂ → m₂ x = some v → Fr h₀ L h m → News h₀ L h ((I, oI) :: (C, oC) :: (D, LCg.lst ys) :: news) → LCg.Off3 I C D news → ((@Ne Nat I C) ∧ (@Ne Nat I D) ∧ (@Ne Nat C D)) →
      wpAny (model prog w) A (eval elt (compEnvC scope cl C env)) (LCg.CompEnd h₀ L m { s with heap := h, toks := tk } I oI C oC D (LCg.lst ys) S (fun y news' => J (i + 1) (ys ++ [y]) news')) E' { s with heap := h, toks := tk })
    (fin : ∀ ys news, J n ys news → Fin ys news) : ∀ k i ys news, i + k = n → J i ys news → LCg.CompRest prog w A h₀ L m env elt x scope cl s S P Fin k i ys news := by
  intro k
  induction k with
  | zero =>
    intro i ys news hik hj
    have : i = n := by omega
    subst this
    exact fin ys news hj
  | succ k ih =>
    intro i ys news hik hj
    refine LCg.CompRest.succ fun v I oI C oC D m₂ h tk E' hP hN hx F N hO hne => wpAny_mono (step i ys news v I oI C oC D m₂ h tk E' (by omega) hj hP hN hx F N hO hne) (fun y s₂ hy => ?_) fun _ _ h => h
    obtain ⟨h', tk', news', e, F', N', O', S', hJ'⟩ := hy
    exact ⟨h', tk', news', e, F', N', O', S', ih (i + 1) (ys ++ [y]) news' (by omega) hJ'⟩
end
end
section
open PySem PySem.W PyProof.Rows PyProof.V PySem.Spec PySem.Calls
section
variable {prog : Program} {w : World} {A : Around} {E : Value → Shared → Prop} {s : Shared} {env : PySem.Env} {h₀ : Heap} {target : PySem.Expr} {body : List Stmt} {Q : Flow → Shared → Prop}
set_option maxHeartbeats 3200000 in
/-- a loop over a list of the ledger, any target -/
theorem loop_listT {l : Addr} {vs : List Value} {nn : Nat} {m₀ : PySem.Str → Option Value} {news : Led} (J : Nat → (PySem.Str → Option Value) → Led → Prop)
    (hh : A.handled = none) (hl : (l, listOf vs.toArray nn) ∈ news) (F : Fr h₀ env.locals s.heap m₀) (N : News h₀ env.locals s.heap news) (hj : J 0 m₀ news)
    (turn : ∀ i v m₁ nx h tk own, vs[i]? = some v → (∀ p ∈ own, p.2.cls = .type "list_iterator") → OwnOff own (nx.map (·.1)) → (l, listOf vs.toArray nn) ∈ nx → J i m₁ nx → Fr h₀ env.locals h m₁ → News h₀ env.locals h (nx ++ own) →
      wpAny (model prog w) A (assign target env v) (fun _ s₃ => wpAny (model prog w) A (execs body env) (InvPostG h₀ env.locals (fun m' nx => (l, listOf vs.toArray nn) ∈ nx ∧ J (i + 1) m' nx) own { s with heap := h, toks := tk } Q) E s₃) E { s with heap := h, toks := tk })
    (done : ∀ m₁ nx h tk, J vs.length m₁ nx → Fr h₀ env.locals h m₁ → News h₀ env.locals h nx → Q .next { s with heap := h, toks := tk }) :
    wpAny (model prog w) A (pyIter (.ref l)) (fun it s₂ => TurnsAt prog w A h₀ env target body Q E it s₂) E s := by
  have hol : s.heap.get? l = some (listOf vs.toArray nn) := (N _ hl).1
  have hls : s.heap.IsList l vs.toArray := ⟨_, hol, rfl, nn, rfl⟩
  have hne : l ≠ s.heap.objs.size := Nat.ne_of_lt (Heap.lt_size hol)
  refine wpAny_pyIter_list hls ?_
  have W := Walks.list (prog := prog) (w := w) hh s.heap.objs.size l hne vs.toArray
  have hlen : vs.toArray.size = vs.length := by simp
  rw [hlen] at W
  have W2 := KTurns.ofWalks (target := target) W fun i v s' Q' E' st q => letGo_listiter st.1 q
  refine ⟨_, _, _, vs.length, _, _, _, m₀, news, (fun i m nx => (l, listOf vs.toArray nn) ∈ nx ∧ J i m nx), rfl, W2, ?_, ?_, ?_, ⟨⟨_, Heap.get?_push_size _ rfl, rfl, rfl⟩, hls.at fun o e => Heap.get?_push_of_some _ e⟩, F.push _, (fun p hp => ⟨Heap.get?_push_of_some _ (N p hp).1, (N p hp).2⟩), ⟨hl, hj⟩, ?_, ?_⟩
  · intro hm
    rcases List.mem_cons.mp hm with e | hm
    · exact absurd F.ns.lt (e ▸ Nat.lt_irrefl _)
    · exact (N _ hl).2.1 ((List.mem_singleton.mp hm).symm)
  · intro b hb
    rw [List.mem_singleton.mp hb]
    exact next_is_new F
  · intro p hp hI
    exact absurd (Heap.lt_size (N p hp).1) ((List.mem_singleton.mp hI) ▸ Nat.lt_irrefl _)
  · rintro i v m₁ news₁ hh' tk' own hin hP ⟨hl₁, hJ⟩ hoff hown hget hfp hst F₁ N₁
    have hP' : vs[i]? = some v := by simpa using hP
    have hI0 : h₀.get? s.heap.objs.size = none := next_is_new F
    obtain ⟨⟨oI, hoI, hcI, _⟩, _⟩ := id hst
    have hIown : (s.heap.objs.size, oI) ∈ own.filter fun p => decide (p.1 = s.heap.objs.size) := List.mem_filter.mpr ⟨hfp _ (List.mem_cons.mpr (.inl rfl)) hI0 _ hoI, by simp⟩
    have hsep : OwnOff (own.filter fun p => decide (p.1 = s.heap.objs.size)) (news₁.map (·.1)) := by
      intro p hp b hb e
      obtain ⟨q, hq, rfl⟩ := List.mem_map.mp hb
      have h1 : p.1 = s.heap.objs.size := by simpa using (List.mem_filter.mp hp).2
      exact hoff q hq (List.mem_singleton.mpr (e ▸ h1))
    have hcls : ∀ p ∈ own.filter fun p => decide (p.1 = s.heap.objs.size), p.2.cls = .type "list_iterator" := by
      intro p hp
      have h1 : p.1 = s.heap.objs.size := by simpa using (List.mem_filter.mp hp).2
      have h2 : hh'.get? p.1 = some p.2 := hget p (List.mem_filter.mp hp).1
      rw [h1, hoI] at h2
      rw [← Option.some.inj h2]; exact hcI
    have N₂ : News h₀ env.locals hh' (news₁ ++ own.filter fun p => decide (p.1 = s.heap.objs.size)) := fun p hp => N₁ p ((List.mem_append.mp hp).elim (fun h => List.mem_append.mpr (.inr h)) fun h => List.mem_append.mpr (.inl ((List.mem_filter.mp h).1)))
    have hlo : hh'.get? l = some (listOf vs.toArray nn) := (N₁ _ (List.mem_append.mpr (.inr hl₁))).1
    refine wpAny_mono (turn i v m₁ news₁ hh' tk' _ hP' hcls hsep hl₁ hJ F₁ N₂) (fun _ s₃ h₃ => wpAny_mono h₃ (fun f s₂ p => ?_) fun _ _ e => e) fun _ _ e => e
    have fin : InvEndG h₀ env.locals (fun m' nx => (l, listOf vs.toArray nn) ∈ nx ∧ J (i + 1) m' nx) (own.filter fun p => decide (p.1 = s.heap.objs.size)) { s with heap := hh', toks := tk' } s₂ →
        LoopStepU h₀ env.locals [s.heap.objs.size] own (fun m nx => (l, listOf vs.toArray nn) ∈ nx ∧ J (i + 1) m nx) { s with heap := hh', toks := tk' } .next s₂ := by
      rintro ⟨h', tk, m', news', nx, e, F', N', hn, ho, ha, hm⟩
      refine ⟨rfl, h', tk, m', nx, e, F', fun p hp => ?_, fun p hp hq => ?_, hm⟩
      · rcases List.mem_append.mp hp with h | h
        · by_cases hI : p.1 = s.heap.objs.size
          · exact N' p (ho p (List.mem_filter.mpr ⟨h, by simpa using hI⟩))
          · have h1 : p.1 = l := by
              rcases List.mem_cons.mp (hown p h) with h2 | h2
              · exact absurd h2 hI
              · exact List.mem_singleton.mp h2
            have h2 : hh'.get? p.1 = some p.2 := hget p h
            rw [h1, hlo] at h2
            have h3 : p = (l, listOf vs.toArray nn) := Prod.ext h1 (Option.some.inj h2).symm
            rw [h3]
            exact N' _ (hn _ hm.1)
        · exact N' p (hn p h)
      · exact ha _ hIown p.1 (List.mem_map.mpr ⟨p, hp, rfl⟩) (List.mem_singleton.mp hq).symm
    cases f with
    | ret v => exact .ret p
    | brk => exact .brk p
    | next => exact .next (fin p)
    | cont => exact .cont (fin p)
  · rintro h' tk m' news' F' N' _ hJ
    exact done m' news' h' tk hJ.2 F' N'
/-- where a break leaves by a relation of its own -/
noncomputable def InvPostB (h₀ : Heap) (L : Addr) (J JB : (PySem.Str → Option Value) → Led → Prop) (own : Led) (s₁ : Shared) (Q : Flow → Shared → Prop) (f : Flow) (s₂ : Shared) : Prop :=
  match f with
  | .ret v => Q (.ret v) s₂
  | .brk => ∃ m nx h tk, s₂ = { s₁ with heap := h, toks := tk } ∧ JB m nx ∧ Fr h₀ L h m ∧ News h₀ L h nx
  | _ => InvEndG h₀ L J own s₁ s₂
theorem loop_listTB {l : Addr} {vs : List Value} {nn : Nat} {m₀ : PySem.Str → Option Value} {news : Led} (J : Nat → (PySem.Str → Option Value) → Led → Prop) (JB : (PySem.Str → Option Value) → Led → Prop)
    (hh : A.handled = none) (hl : (l, listOf vs.toArray nn) ∈ news) (F : Fr h₀ env.locals s.heap m₀) (N : News h₀ env.locals s.heap news) (hj : J 0 m₀ news)
    (turn : ∀ i v m₁ nx h tk own, vs[i]? = some v → (∀ p ∈ own, p.2.cls = .type "list_iterator") → OwnOff own (nx.map (·.1)) → (l, listOf vs.toArray nn) ∈ nx → J i m₁ nx → Fr h₀ env.locals h m₁ → News h₀ env.locals h (nx ++ own) →
      wpAny (model prog w) A (assign target env v) (fun _ s₃ => wpAny (model prog w) A (execs body env) (InvPostB h₀ env.locals (fun m' nx => (l, listOf vs.toArray nn) ∈ nx ∧ J (i + 1) m' nx) JB own { s with heap := h, toks := tk } Q) E s₃) E { s with heap := h, toks := tk })
    (done : ∀ m₁ nx h tk, (J vs.length m₁ nx ∨ JB m₁ nx) → Fr h₀ env.locals h m₁ → News h₀ env.locals h nx → Q .next { s with heap := h, toks := tk }) :
    wpAny (model prog w) A (pyIter (.ref l)) (fun it s₂ => TurnsAt prog w A h₀ env target body Q E it s₂) E s := by
  refine loop_listT J hh hl F N hj (fun i v m₁ nx h tk own a a2 b c d e f => wpAny_mono (turn i v m₁ nx h tk own a a2 b c d e f) (fun _ s₃ h₃ => wpAny_mono h₃ (fun f s₂ p => ?_) fun _ _ e => e) fun _ _ e => e) (fun m₁ nx h tk hJ F N => done m₁ nx h tk (.inl hJ) F N)
  cases f with
  | ret v => exact p
  | brk =>
    obtain ⟨m, nx, h', tk', rfl, hJB, F', N'⟩ := p
    exact done m nx h' tk' (.inr hJB) F' N'
  | next => exact p
  | cont => exact p
end
end
section
open PySem PySem.W PyProof.Rows PyProof.V PySem.Spec PySem.Calls
noncomputable def isData : St → Bool
  | .data => true
  | _ => false
noncomputable def readyA (A : Abs) : Bool := !A.done && !isData A.st
noncomputable def runA (cs : List Nat) : Nat → Abs → Abs
  | 0, A => A
  | n + 1, A => if readyA A then runA cs n (stepA cs A) else A
noncomputable def rank : St → Nat
  | .eto _ => 2
  | .lt _ => 1 | .etn _ => 1 | .ref => 1 | .sol => 1
  | _ => 0
noncomputable def mA (cs : List Nat) (A : Abs) : Nat := 4 * (cs.length + 1 - A.pos) + rank A.st
/-- the signs that are held back -/
noncomputable def pend (A : Abs) : Nat := match A.st with
  | .lt _ => 1
  | .ref => 1
  | .eto _ => 2
  | .etn _ => 2 + A.buffer.length
  | _ => 0
noncomputable def Fit (A : Abs) : Prop := match A.st with
  | .held _ => A.dr = none
  | .lt _ => A.dr = none
  | .eto _ => A.dr = none ∧ A.buffer = []
  | .ref => A.dr = none
  | .data => A.dr = none
  | _ => ∃ d, A.dr = some d
structure Inv (cs : List Nat) (K : Nat) (A : Abs) : Prop where
  len : cs.length ≤ 40
  pos : A.done = false → A.pos ≤ cs.length
  out : A.out.length + pend A ≤ A.pos + K
  errs : A.errs.length ≤ 2 * A.pos
  buf : A.buffer.length ≤ A.pos
  dr : ∀ d, A.dr = some d → d.attrs.length ≤ A.pos ∧ d.name.length ≤ A.pos
  last : A.last ≠ []
  fit : Fit A
theorem Inv.good {cs : List Nat} {K : Nat} {A : Abs} (I : Inv cs K A) (hK : K ≤ 10) (hd : A.done = false) : Good cs A := by
  have p := I.pos hd
  have l := I.len
  have o := I.out
  have e := I.errs
  have b := I.buf
  exact ⟨l, p, by omega, by omega, by omega, fun d h => by have := (I.dr d h).1; omega⟩
theorem run_off {cs : List Nat} {A : Abs} (h : readyA A = false) : ∀ n, runA cs n A = A
  | 0 => rfl
  | n + 1 => by unfold runA; rw [h]; rfl
theorem emitDraft_len (A : Abs) (p : Nat) (d : Dr) : (emitDraft A p d).out.length = A.out.length + 1 ∧ (emitDraft A p d).errs.length ≤ A.errs.length + 2 := by
  unfold emitDraft
  dsimp only
  constructor
  · simp
  · simp only [List.length_append]
    by_cases h1 : d.attrs = [] <;> by_cases h2 : d.closing = true <;> simp [h1, h2]
theorem e_up {a p : Nat} (h : a ≤ 2 * p) : a ≤ 2 * (p + 1) := by omega
theorem e_up1 {a p : Nat} (h : a ≤ 2 * p) : a + 1 ≤ 2 * (p + 1) := by omega
theorem m_up {n p r r' : Nat} (h : p < n) (e : Nat.ble r' (r + 3) = true) : 4 * (n + 1 - (p + 1)) + r' < 4 * (n + 1 - p) + r := by
  have := Nat.le_of_ble_eq_true e
  omega
theorem m_st {m r r' : Nat} (e : Nat.ble (r' + 1) r = true) : m + r' < m + r := Nat.add_lt_add_left (Nat.le_of_ble_eq_true e) m
theorem o_up {a p K : Nat} (h : a + 0 ≤ p + K) : a + 0 ≤ p + 1 + K := by omega
theorem o_up1 {a p K : Nat} (h : a + 0 ≤ p + K) : a + 1 + 0 ≤ p + 1 + K := by omega
theorem o_to1 {a p K : Nat} (h : a + 0 ≤ p + K) : a + 1 ≤ p + 1 + K := by omega
theorem o_mid {a b p K : Nat} (h : a + b ≤ p + K) : a + (b + 1) ≤ p + 1 + K := by omega
theorem step_inv {cs : List Nat} {K : Nat} {A : Abs} (I : Inv cs K A) (hr : readyA A = true) : Inv cs K (stepA cs A) ∧ mA cs (stepA cs A) < mA cs A := by
  have hdn : A.done = false := by
    unfold readyA at hr
    cases h : A.done <;> simp_all
  have hp := I.pos hdn
  obtain ⟨pos, st, back, out, errs, buffer, last, done, dr⟩ := A
  obtain ⟨l, p, o, e, b, d, la, f⟩ := I
  dsimp only at hdn hp l p o e b d la
  subst hdn
  have hlt : ∀ c, cs[pos]? = some c → pos < cs.length := fun c h => (List.getElem?_eq_some_iff.mp h).1
  have hnone : cs[pos]? = none → pos = cs.length := fun h => by have := List.getElem?_eq_none_iff.mp h; omega
  cases st with
  | data => simp [readyA, isData] at hr
  | held k =>
    simp only [Fit, pend] at f o
    subst f
    rcases hc : cs[pos]? with _ | c
    · have := hnone hc
      simp only [stepA, stHeld, stLt, stEto, stEtn, stRef, stBa, stSol, hc, eof]
      ((refine ⟨⟨by assumption, ?q1, ?q2, ?q3, ?q4, ?q5, by assumption, ?q6⟩, ?q7⟩); (case q1 => (dsimp only; first | (intro _; assumption) | (intro _; omega) | (intro h; cases h))); (case q2 => (simp only [pend, List.length_append, List.length_map, List.length_cons, List.length_nil]; first | assumption | exact o_up (by assumption) | exact o_up1 (by assumption) | exact o_to1 (by assumption) | exact o_mid (by assumption) | omega)); (case q3 => ((try dsimp only); (try simp only [List.length_append, List.length_cons, List.length_nil]); first | assumption | exact e_up (by assumption) | exact e_up1 (by assumption) | omega)); (case q4 => ((try dsimp only); (try simp only [List.length_append, List.length_cons, List.length_nil]); first | assumption | exact Nat.zero_le _ | exact Nat.le_succ_of_le (by assumption) | exact Nat.succ_le_succ (by assumption) | omega)); (case q5 => first | (intro d h; cases h; done) | (intro d' h; cases h; (try dsimp only); (try simp only [List.length_append, List.length_cons, List.length_nil]); constructor <;> first | assumption | exact Nat.zero_le _ | exact Nat.le_succ_of_le (by assumption) | exact Nat.succ_le_succ (by assumption) | omega)); (case q6 => first | rfl | exact ⟨rfl, rfl⟩ | exact ⟨_, rfl⟩); (case q7 => (simp only [mA, rank]; first | exact m_up (by assumption) rfl | exact m_st rfl | omega)))
    · have := hlt c hc
      simp only [stepA, stHeld, stLt, stEto, stEtn, stRef, stBa, stSol, hc]
      split
      · ((refine ⟨⟨by assumption, ?q1, ?q2, ?q3, ?q4, ?q5, by assumption, ?q6⟩, ?q7⟩); (case q1 => (dsimp only; first | (intro _; assumption) | (intro _; omega) | (intro h; cases h))); (case q2 => (simp only [pend, List.length_append, List.length_map, List.length_cons, List.length_nil]; first | assumption | exact o_up (by assumption) | exact o_up1 (by assumption) | exact o_to1 (by assumption) | exact o_mid (by assumption) | omega)); (case q3 => ((try dsimp only); (try simp only [List.length_append, List.length_cons, List.length_nil]); first | assumption | exact e_up (by assumption) | exact e_up1 (by assumption) | omega)); (case q4 => ((try dsimp only); (try simp only [List.length_append, List.length_cons, List.length_nil]); first | assumption | exact Nat.zero_le _ | exact Nat.le_succ_of_le (by assumption) | exact Nat.succ_le_succ (by assumption) | omega)); (case q5 => first | (intro d h; cases h; done) | (intro d' h; cases h; (try dsimp only); (try simp only [List.length_append, List.length_cons, List.length_nil]); constructor <;> first | assumption | exact Nat.zero_le _ | exact Nat.le_succ_of_le (by assumption) | exact Nat.succ_le_succ (by assumption) | omega)); (case q6 => first | rfl | exact ⟨rfl, rfl⟩ | exact ⟨_, rfl⟩); (case q7 => (simp only [mA, rank]; first | exact m_up (by assumption) rfl | exact m_st rfl | omega)))
      · split
        · ((refine ⟨⟨by assumption, ?q1, ?q2, ?q3, ?q4, ?q5, by assumption, ?q6⟩, ?q7⟩); (case q1 => (dsimp only; first | (intro _; assumption) | (intro _; omega) | (intro h; cases h))); (case q2 => (simp only [pend, List.length_append, List.length_map, List.length_cons, List.length_nil]; first | assumption | exact o_up (by assumption) | exact o_up1 (by assumption) | exact o_to1 (by assumption) | exact o_mid (by assumption) | omega)); (case q3 => ((try dsimp only); (try simp only [List.length_append, List.length_cons, List.length_nil]); first | assumption | exact e_up (by assumption) | exact e_up1 (by assumption) | omega)); (case q4 => ((try dsimp only); (try simp only [List.length_append, List.length_cons, List.length_nil]); first | assumption | exact Nat.zero_le _ | exact Nat.le_succ_of_le (by assumption) | exact Nat.succ_le_succ (by assumption) | omega)); (case q5 => first | (intro d h; cases h; done) | (intro d' h; cases h; (try dsimp only); (try simp only [List.length_append, List.length_cons, List.length_nil]); constructor <;> first | assumption | exact Nat.zero_le _ | exact Nat.le_succ_of_le (by assumption) | exact Nat.succ_le_succ (by assumption) | omega)); (case q6 => first | rfl | exact ⟨rfl, rfl⟩ | exact ⟨_, rfl⟩); (case q7 => (simp only [mA, rank]; first | exact m_up (by assumption) rfl | exact m_st rfl | omega)))
        · split
          · ((refine ⟨⟨by assumption, ?q1, ?q2, ?q3, ?q4, ?q5, by assumption, ?q6⟩, ?q7⟩); (case q1 => (dsimp only; first | (intro _; assumption) | (intro _; omega) | (intro h; cases h))); (case q2 => (simp only [pend, List.length_append, List.length_map, List.length_cons, List.length_nil]; first | assumption | exact o_up (by assumption) | exact o_up1 (by assumption) | exact o_to1 (by assumption) | exact o_mid (by assumption) | omega)); (case q3 => ((try dsimp only); (try simp only [List.length_append, List.length_cons, List.length_nil]); first | assumption | exact e_up (by assumption) | exact e_up1 (by assumption) | omega)); (case q4 => ((try dsimp only); (try simp only [List.length_append, List.length_cons, List.length_nil]); first | assumption | exact Nat.zero_le _ | exact Nat.le_succ_of_le (by assumption) | exact Nat.succ_le_succ (by assumption) | omega)); (case q5 => first | (intro d h; cases h; done) | (intro d' h; cases h; (try dsimp only); (try simp only [List.length_append, List.length_cons, List.length_nil]); constructor <;> first | assumption | exact Nat.zero_le _ | exact Nat.le_succ_of_le (by assumption) | exact Nat.succ_le_succ (by assumption) | omega)); (case q6 => first | rfl | exact ⟨rfl, rfl⟩ | exact ⟨_, rfl⟩); (case q7 => (simp only [mA, rank]; first | exact m_up (by assumption) rfl | exact m_st rfl | omega)))
          · ((refine ⟨⟨by assumption, ?q1, ?q2, ?q3, ?q4, ?q5, by assumption, ?q6⟩, ?q7⟩); (case q1 => (dsimp only; first | (intro _; assumption) | (intro _; omega) | (intro h; cases h))); (case q2 => (simp only [pend, List.length_append, List.length_map, List.length_cons, List.length_nil]; first | assumption | exact o_up (by assumption) | exact o_up1 (by assumption) | exact o_to1 (by assumption) | exact o_mid (by assumption) | omega)); (case q3 => ((try dsimp only); (try simp only [List.length_append, List.length_cons, List.length_nil]); first | assumption | exact e_up (by assumption) | exact e_up1 (by assumption) | omega)); (case q4 => ((try dsimp only); (try simp only [List.length_append, List.length_cons, List.length_nil]); first | assumption | exact Nat.zero_le _ | exact Nat.le_succ_of_le (by assumption) | exact Nat.succ_le_succ (by assumption) | omega)); (case q5 => first | (intro d h; cases h; done) | (intro d' h; cases h; (try dsimp only); (try simp only [List.length_append, List.length_cons, List.length_nil]); constructor <;> first | assumption | exact Nat.zero_le _ | exact Nat.le_succ_of_le (by assumption) | exact Nat.succ_le_succ (by assumption) | omega)); (case q6 => first | rfl | exact ⟨rfl, rfl⟩ | exact ⟨_, rfl⟩); (case q7 => (simp only [mA, rank]; first | exact m_up (by assumption) rfl | exact m_st rfl | omega)))
  | lt k =>
    simp only [Fit, pend] at f o
    subst f
    simp only [stepA, stHeld, stLt, stEto, stEtn, stRef, stBa, stSol]
    split
    · rename_i hc
      have := hlt _ hc
      ((refine ⟨⟨by assumption, ?q1, ?q2, ?q3, ?q4, ?q5, by assumption, ?q6⟩, ?q7⟩); (case q1 => (dsimp only; first | (intro _; assumption) | (intro _; omega) | (intro h; cases h))); (case q2 => (simp only [pend, List.length_append, List.length_map, List.length_cons, List.length_nil]; first | assumption | exact o_up (by assumption) | exact o_up1 (by assumption) | exact o_to1 (by assumption) | exact o_mid (by assumption) | omega)); (case q3 => ((try dsimp only); (try simp only [List.length_append, List.length_cons, List.length_nil]); first | assumption | exact e_up (by assumption) | exact e_up1 (by assumption) | omega)); (case q4 => ((try dsimp only); (try simp only [List.length_append, List.length_cons, List.length_nil]); first | assumption | exact Nat.zero_le _ | exact Nat.le_succ_of_le (by assumption) | exact Nat.succ_le_succ (by assumption) | omega)); (case q5 => first | (intro d h; cases h; done) | (intro d' h; cases h; (try dsimp only); (try simp only [List.length_append, List.length_cons, List.length_nil]); constructor <;> first | assumption | exact Nat.zero_le _ | exact Nat.le_succ_of_le (by assumption) | exact Nat.succ_le_succ (by assumption) | omega)); (case q6 => first | rfl | exact ⟨rfl, rfl⟩ | exact ⟨_, rfl⟩); (case q7 => (simp only [mA, rank]; first | exact m_up (by assumption) rfl | exact m_st rfl | omega)))
    · ((refine ⟨⟨by assumption, ?q1, ?q2, ?q3, ?q4, ?q5, by assumption, ?q6⟩, ?q7⟩); (case q1 => (dsimp only; first | (intro _; assumption) | (intro _; omega) | (intro h; cases h))); (case q2 => (simp only [pend, List.length_append, List.length_map, List.length_cons, List.length_nil]; first | assumption | exact o_up (by assumption) | exact o_up1 (by assumption) | exact o_to1 (by assumption) | exact o_mid (by assumption) | omega)); (case q3 => ((try dsimp only); (try simp only [List.length_append, List.length_cons, List.length_nil]); first | assumption | exact e_up (by assumption) | exact e_up1 (by assumption) | omega)); (case q4 => ((try dsimp only); (try simp only [List.length_append, List.length_cons, List.length_nil]); first | assumption | exact Nat.zero_le _ | exact Nat.le_succ_of_le (by assumption) | exact Nat.succ_le_succ (by assumption) | omega)); (case q5 => first | (intro d h; cases h; done) | (intro d' h; cases h; (try dsimp only); (try simp only [List.length_append, List.length_cons, List.length_nil]); constructor <;> first | assumption | exact Nat.zero_le _ | exact Nat.le_succ_of_le (by assumption) | exact Nat.succ_le_succ (by assumption) | omega)); (case q6 => first | rfl | exact ⟨rfl, rfl⟩ | exact ⟨_, rfl⟩); (case q7 => (simp only [mA, rank]; first | exact m_up (by assumption) rfl | exact m_st rfl | omega)))
  | eto k =>
    simp only [Fit, pend] at f o
    obtain ⟨f, f2⟩ := f
    subst f
    subst f2
    rcases hc : cs[pos]? with _ | c
    · simp only [stepA, stHeld, stLt, stEto, stEtn, stRef, stBa, stSol, hc]
      ((refine ⟨⟨by assumption, ?q1, ?q2, ?q3, ?q4, ?q5, by assumption, ?q6⟩, ?q7⟩); (case q1 => (dsimp only; first | (intro _; assumption) | (intro _; omega) | (intro h; cases h))); (case q2 => (simp only [pend, List.length_append, List.length_map, List.length_cons, List.length_nil]; first | assumption | exact o_up (by assumption) | exact o_up1 (by assumption) | exact o_to1 (by assumption) | exact o_mid (by assumption) | omega)); (case q3 => ((try dsimp only); (try simp only [List.length_append, List.length_cons, List.length_nil]); first | assumption | exact e_up (by assumption) | exact e_up1 (by assumption) | omega)); (case q4 => ((try dsimp only); (try simp only [List.length_append, List.length_cons, List.length_nil]); first | assumption | exact Nat.zero_le _ | exact Nat.le_succ_of_le (by assumption) | exact Nat.succ_le_succ (by assumption) | omega)); (case q5 => first | (intro d h; cases h; done) | (intro d' h; cases h; (try dsimp only); (try simp only [List.length_append, List.length_cons, List.length_nil]); constructor <;> first | assumption | exact Nat.zero_le _ | exact Nat.le_succ_of_le (by assumption) | exact Nat.succ_le_succ (by assumption) | omega)); (case q6 => first | rfl | exact ⟨rfl, rfl⟩ | exact ⟨_, rfl⟩); (case q7 => (simp only [mA, rank]; first | exact m_up (by assumption) rfl | exact m_st rfl | omega)))
    · simp only [stepA, stHeld, stLt, stEto, stEtn, stRef, stBa, stSol, hc]
      split
      · ((refine ⟨⟨by assumption, ?q1, ?q2, ?q3, ?q4, ?q5, by assumption, ?q6⟩, ?q7⟩); (case q1 => (dsimp only; first | (intro _; assumption) | (intro _; omega) | (intro h; cases h))); (case q2 => (simp only [pend, List.length_append, List.length_map, List.length_cons, List.length_nil]; first | assumption | exact o_up (by assumption) | exact o_up1 (by assumption) | exact o_to1 (by assumption) | exact o_mid (by assumption) | omega)); (case q3 => ((try dsimp only); (try simp only [List.length_append, List.length_cons, List.length_nil]); first | assumption | exact e_up (by assumption) | exact e_up1 (by assumption) | omega)); (case q4 => ((try dsimp only); (try simp only [List.length_append, List.length_cons, List.length_nil]); first | assumption | exact Nat.zero_le _ | exact Nat.le_succ_of_le (by assumption) | exact Nat.succ_le_succ (by assumption) | omega)); (case q5 => first | (intro d h; cases h; done) | (intro d' h; cases h; (try dsimp only); (try simp only [List.length_append, List.length_cons, List.length_nil]); constructor <;> first | assumption | exact Nat.zero_le _ | exact Nat.le_succ_of_le (by assumption) | exact Nat.succ_le_succ (by assumption) | omega)); (case q6 => first | rfl | exact ⟨rfl, rfl⟩ | exact ⟨_, rfl⟩); (case q7 => (simp only [mA, rank]; first | exact m_up (by assumption) rfl | exact m_st rfl | omega)))
      · ((refine ⟨⟨by assumption, ?q1, ?q2, ?q3, ?q4, ?q5, by assumption, ?q6⟩, ?q7⟩); (case q1 => (dsimp only; first | (intro _; assumption) | (intro _; omega) | (intro h; cases h))); (case q2 => (simp only [pend, List.length_append, List.length_map, List.length_cons, List.length_nil]; first | assumption | exact o_up (by assumption) | exact o_up1 (by assumption) | exact o_to1 (by assumption) | exact o_mid (by assumption) | omega)); (case q3 => ((try dsimp only); (try simp only [List.length_append, List.length_cons, List.length_nil]); first | assumption | exact e_up (by assumption) | exact e_up1 (by assumption) | omega)); (case q4 => ((try dsimp only); (try simp only [List.length_append, List.length_cons, List.length_nil]); first | assumption | exact Nat.zero_le _ | exact Nat.le_succ_of_le (by assumption) | exact Nat.succ_le_succ (by assumption) | omega)); (case q5 => first | (intro d h; cases h; done) | (intro d' h; cases h; (try dsimp only); (try simp only [List.length_append, List.length_cons, List.length_nil]); constructor <;> first | assumption | exact Nat.zero_le _ | exact Nat.le_succ_of_le (by assumption) | exact Nat.succ_le_succ (by assumption) | omega)); (case q6 => first | rfl | exact ⟨rfl, rfl⟩ | exact ⟨_, rfl⟩); (case q7 => (simp only [mA, rank]; first | exact m_up (by assumption) rfl | exact m_st rfl | omega)))
  | etn k =>
    simp only [Fit, pend] at f o
    obtain ⟨d0, f⟩ := f
    subst f
    have d1 := d d0 rfl
    clear d
    obtain ⟨d1, d2⟩ := d1
    rcases hc : cs[pos]? with _ | c
    · simp only [stepA, stHeld, stLt, stEto, stEtn, stRef, stBa, stSol, hc]
      ((refine ⟨⟨by assumption, ?q1, ?q2, ?q3, ?q4, ?q5, by assumption, ?q6⟩, ?q7⟩); (case q1 => (dsimp only; first | (intro _; assumption) | (intro _; omega) | (intro h; cases h))); (case q2 => (simp only [pend, List.length_append, List.length_map, List.length_cons, List.length_nil]; first | assumption | exact o_up (by assumption) | exact o_up1 (by assumption) | exact o_to1 (by assumption) | exact o_mid (by assumption) | omega)); (case q3 => ((try dsimp only); (try simp only [List.length_append, List.length_cons, List.length_nil]); first | assumption | exact e_up (by assumption) | exact e_up1 (by assumption) | omega)); (case q4 => ((try dsimp only); (try simp only [List.length_append, List.length_cons, List.length_nil]); first | assumption | exact Nat.zero_le _ | exact Nat.le_succ_of_le (by assumption) | exact Nat.succ_le_succ (by assumption) | omega)); (case q5 => first | (intro d h; cases h; done) | (intro d' h; cases h; (try dsimp only); (try simp only [List.length_append, List.length_cons, List.length_nil]); constructor <;> first | assumption | exact Nat.zero_le _ | exact Nat.le_succ_of_le (by assumption) | exact Nat.succ_le_succ (by assumption) | omega)); (case q6 => first | rfl | exact ⟨rfl, rfl⟩ | exact ⟨_, rfl⟩); (case q7 => (simp only [mA, rank]; first | exact m_up (by assumption) rfl | exact m_st rfl | omega)))
    · have := hlt c hc
      simp only [stepA, stHeld, stLt, stEto, stEtn, stRef, stBa, stSol, hc]
      split
      · ((refine ⟨⟨by assumption, ?q1, ?q2, ?q3, ?q4, ?q5, by assumption, ?q6⟩, ?q7⟩); (case q1 => (dsimp only; first | (intro _; assumption) | (intro _; omega) | (intro h; cases h))); (case q2 => (simp only [pend, List.length_append, List.length_map, List.length_cons, List.length_nil]; first | assumption | exact o_up (by assumption) | exact o_up1 (by assumption) | exact o_to1 (by assumption) | exact o_mid (by assumption) | omega)); (case q3 => ((try dsimp only); (try simp only [List.length_append, List.length_cons, List.length_nil]); first | assumption | exact e_up (by assumption) | exact e_up1 (by assumption) | omega)); (case q4 => ((try dsimp only); (try simp only [List.length_append, List.length_cons, List.length_nil]); first | assumption | exact Nat.zero_le _ | exact Nat.le_succ_of_le (by assumption) | exact Nat.succ_le_succ (by assumption) | omega)); (case q5 => first | (intro d h; cases h; done) | (intro d' h; cases h; (try dsimp only); (try simp only [List.length_append, List.length_cons, List.length_nil]); constructor <;> first | assumption | exact Nat.zero_le _ | exact Nat.le_succ_of_le (by assumption) | exact Nat.succ_le_succ (by assumption) | omega)); (case q6 => first | rfl | exact ⟨rfl, rfl⟩ | exact ⟨_, rfl⟩); (case q7 => (simp only [mA, rank]; first | exact m_up (by assumption) rfl | exact m_st rfl | omega)))
      · split
        · ((refine ⟨⟨by assumption, ?q1, ?q2, ?q3, ?q4, ?q5, by assumption, ?q6⟩, ?q7⟩); (case q1 => (dsimp only; first | (intro _; assumption) | (intro _; omega) | (intro h; cases h))); (case q2 => (simp only [pend, List.length_append, List.length_map, List.length_cons, List.length_nil]; first | assumption | exact o_up (by assumption) | exact o_up1 (by assumption) | exact o_to1 (by assumption) | exact o_mid (by assumption) | omega)); (case q3 => ((try dsimp only); (try simp only [List.length_append, List.length_cons, List.length_nil]); first | assumption | exact e_up (by assumption) | exact e_up1 (by assumption) | omega)); (case q4 => ((try dsimp only); (try simp only [List.length_append, List.length_cons, List.length_nil]); first | assumption | exact Nat.zero_le _ | exact Nat.le_succ_of_le (by assumption) | exact Nat.succ_le_succ (by assumption) | omega)); (case q5 => first | (intro d h; cases h; done) | (intro d' h; cases h; (try dsimp only); (try simp only [List.length_append, List.length_cons, List.length_nil]); constructor <;> first | assumption | exact Nat.zero_le _ | exact Nat.le_succ_of_le (by assumption) | exact Nat.succ_le_succ (by assumption) | omega)); (case q6 => first | rfl | exact ⟨rfl, rfl⟩ | exact ⟨_, rfl⟩); (case q7 => (simp only [mA, rank]; first | exact m_up (by assumption) rfl | exact m_st rfl | omega)))
        · split
          · ((refine ⟨⟨by assumption, ?q1, ?q2, ?q3, ?q4, ?q5, by assumption, ?q6⟩, ?q7⟩); (case q1 => (dsimp only; first | (intro _; assumption) | (intro _; omega) | (intro h; cases h))); (case q2 => (simp only [pend, List.length_append, List.length_map, List.length_cons, List.length_nil]; first | assumption | exact o_up (by assumption) | exact o_up1 (by assumption) | exact o_to1 (by assumption) | exact o_mid (by assumption) | omega)); (case q3 => ((try dsimp only); (try simp only [List.length_append, List.length_cons, List.length_nil]); first | assumption | exact e_up (by assumption) | exact e_up1 (by assumption) | omega)); (case q4 => ((try dsimp only); (try simp only [List.length_append, List.length_cons, List.length_nil]); first | assumption | exact Nat.zero_le _ | exact Nat.le_succ_of_le (by assumption) | exact Nat.succ_le_succ (by assumption) | omega)); (case q5 => first | (intro d h; cases h; done) | (intro d' h; cases h; (try dsimp only); (try simp only [List.length_append, List.length_cons, List.length_nil]); constructor <;> first | assumption | exact Nat.zero_le _ | exact Nat.le_succ_of_le (by assumption) | exact Nat.succ_le_succ (by assumption) | omega)); (case q6 => first | rfl | exact ⟨rfl, rfl⟩ | exact ⟨_, rfl⟩); (case q7 => (simp only [mA, rank]; first | exact m_up (by assumption) rfl | exact m_st rfl | omega)))
          · split
            · obtain ⟨x1, x2⟩ := emitDraft_len ⟨pos, .etn k, back, out, errs, buffer, last, false, some d0⟩ pos d0
              refine ⟨⟨l, fun _ => by simp only [emitDraft]; omega, ?_, ?_, by simp only [emitDraft]; omega, (fun d h => by cases h), la, rfl⟩, by simp only [mA, emitDraft, rank]; omega⟩
              · rw [x1]; simp only [emitDraft, pend]; omega
              · refine Nat.le_trans x2 ?_; simp only [emitDraft]; omega
            · ((refine ⟨⟨by assumption, ?q1, ?q2, ?q3, ?q4, ?q5, by assumption, ?q6⟩, ?q7⟩); (case q1 => (dsimp only; first | (intro _; assumption) | (intro _; omega) | (intro h; cases h))); (case q2 => (simp only [pend, List.length_append, List.length_map, List.length_cons, List.length_nil]; first | assumption | exact o_up (by assumption) | exact o_up1 (by assumption) | exact o_to1 (by assumption) | exact o_mid (by assumption) | omega)); (case q3 => ((try dsimp only); (try simp only [List.length_append, List.length_cons, List.length_nil]); first | assumption | exact e_up (by assumption) | exact e_up1 (by assumption) | omega)); (case q4 => ((try dsimp only); (try simp only [List.length_append, List.length_cons, List.length_nil]); first | assumption | exact Nat.zero_le _ | exact Nat.le_succ_of_le (by assumption) | exact Nat.succ_le_succ (by assumption) | omega)); (case q5 => first | (intro d h; cases h; done) | (intro d' h; cases h; (try dsimp only); (try simp only [List.length_append, List.length_cons, List.length_nil]); constructor <;> first | assumption | exact Nat.zero_le _ | exact Nat.le_succ_of_le (by assumption) | exact Nat.succ_le_succ (by assumption) | omega)); (case q6 => first | rfl | exact ⟨rfl, rfl⟩ | exact ⟨_, rfl⟩); (case q7 => (simp only [mA, rank]; first | exact m_up (by assumption) rfl | exact m_st rfl | omega)))
  | ref =>
    simp only [Fit, pend] at f o
    subst f
    simp only [stepA, stHeld, stLt, stEto, stEtn, stRef, stBa, stSol]
    cases back with
    | none =>
      dsimp only [backSt]
      ((refine ⟨⟨by assumption, ?q1, ?q2, ?q3, ?q4, ?q5, by assumption, ?q6⟩, ?q7⟩); (case q1 => (dsimp only; first | (intro _; assumption) | (intro _; omega) | (intro h; cases h))); (case q2 => (simp only [pend, List.length_append, List.length_map, List.length_cons, List.length_nil]; first | assumption | exact o_up (by assumption) | exact o_up1 (by assumption) | exact o_to1 (by assumption) | exact o_mid (by assumption) | omega)); (case q3 => ((try dsimp only); (try simp only [List.length_append, List.length_cons, List.length_nil]); first | assumption | exact e_up (by assumption) | exact e_up1 (by assumption) | omega)); (case q4 => ((try dsimp only); (try simp only [List.length_append, List.length_cons, List.length_nil]); first | assumption | exact Nat.zero_le _ | exact Nat.le_succ_of_le (by assumption) | exact Nat.succ_le_succ (by assumption) | omega)); (case q5 => first | (intro d h; cases h; done) | (intro d' h; cases h; (try dsimp only); (try simp only [List.length_append, List.length_cons, List.length_nil]); constructor <;> first | assumption | exact Nat.zero_le _ | exact Nat.le_succ_of_le (by assumption) | exact Nat.succ_le_succ (by assumption) | omega)); (case q6 => first | rfl | exact ⟨rfl, rfl⟩ | exact ⟨_, rfl⟩); (case q7 => (simp only [mA, rank]; first | exact m_up (by assumption) rfl | exact m_st rfl | omega)))
    | some k =>
      dsimp only [backSt]
      ((refine ⟨⟨by assumption, ?q1, ?q2, ?q3, ?q4, ?q5, by assumption, ?q6⟩, ?q7⟩); (case q1 => (dsimp only; first | (intro _; assumption) | (intro _; omega) | (intro h; cases h))); (case q2 => (simp only [pend, List.length_append, List.length_map, List.length_cons, List.length_nil]; first | assumption | exact o_up (by assumption) | exact o_up1 (by assumption) | exact o_to1 (by assumption) | exact o_mid (by assumption) | omega)); (case q3 => ((try dsimp only); (try simp only [List.length_append, List.length_cons, List.length_nil]); first | assumption | exact e_up (by assumption) | exact e_up1 (by assumption) | omega)); (case q4 => ((try dsimp only); (try simp only [List.length_append, List.length_cons, List.length_nil]); first | assumption | exact Nat.zero_le _ | exact Nat.le_succ_of_le (by assumption) | exact Nat.succ_le_succ (by assumption) | omega)); (case q5 => first | (intro d h; cases h; done) | (intro d' h; cases h; (try dsimp only); (try simp only [List.length_append, List.length_cons, List.length_nil]); constructor <;> first | assumption | exact Nat.zero_le _ | exact Nat.le_succ_of_le (by assumption) | exact Nat.succ_le_succ (by assumption) | omega)); (case q6 => first | rfl | exact ⟨rfl, rfl⟩ | exact ⟨_, rfl⟩); (case q7 => (simp only [mA, rank]; first | exact m_up (by assumption) rfl | exact m_st rfl | omega)))
  | ba =>
    simp only [Fit, pend] at f o
    obtain ⟨d0, f⟩ := f
    subst f
    have d1 := d d0 rfl
    clear d
    obtain ⟨d1, d2⟩ := d1
    rcases hc : cs[pos]? with _ | c
    · have := hnone hc
      simp only [stepA, stHeld, stLt, stEto, stEtn, stRef, stBa, stSol, hc, eof]
      ((refine ⟨⟨by assumption, ?q1, ?q2, ?q3, ?q4, ?q5, by assumption, ?q6⟩, ?q7⟩); (case q1 => (dsimp only; first | (intro _; assumption) | (intro _; omega) | (intro h; cases h))); (case q2 => (simp only [pend, List.length_append, List.length_map, List.length_cons, List.length_nil]; first | assumption | exact o_up (by assumption) | exact o_up1 (by assumption) | exact o_to1 (by assumption) | exact o_mid (by assumption) | omega)); (case q3 => ((try dsimp only); (try simp only [List.length_append, List.length_cons, List.length_nil]); first | assumption | exact e_up (by assumption) | exact e_up1 (by assumption) | omega)); (case q4 => ((try dsimp only); (try simp only [List.length_append, List.length_cons, List.length_nil]); first | assumption | exact Nat.zero_le _ | exact Nat.le_succ_of_le (by assumption) | exact Nat.succ_le_succ (by assumption) | omega)); (case q5 => first | (intro d h; cases h; done) | (intro d' h; cases h; (try dsimp only); (try simp only [List.length_append, List.length_cons, List.length_nil]); constructor <;> first | assumption | exact Nat.zero_le _ | exact Nat.le_succ_of_le (by assumption) | exact Nat.succ_le_succ (by assumption) | omega)); (case q6 => first | rfl | exact ⟨rfl, rfl⟩ | exact ⟨_, rfl⟩); (case q7 => (simp only [mA, rank]; first | exact m_up (by assumption) rfl | exact m_st rfl | omega)))
    · have := hlt c hc
      simp only [stepA, stHeld, stLt, stEto, stEtn, stRef, stBa, stSol, hc]
      split
      · obtain ⟨x1, x2⟩ := emitDraft_len ⟨pos, .ba, back, out, errs, buffer, last, false, some d0⟩ pos d0
        refine ⟨⟨l, fun _ => by simp only [emitDraft]; omega, ?_, ?_, by simp only [emitDraft]; omega, (fun d h => by cases h), la, rfl⟩, by simp only [mA, emitDraft, rank]; omega⟩
        · rw [x1]; simp only [emitDraft, pend]; omega
        · refine Nat.le_trans x2 ?_; simp only [emitDraft]; omega
      · split
        · ((refine ⟨⟨by assumption, ?q1, ?q2, ?q3, ?q4, ?q5, by assumption, ?q6⟩, ?q7⟩); (case q1 => (dsimp only; first | (intro _; assumption) | (intro _; omega) | (intro h; cases h))); (case q2 => (simp only [pend, List.length_append, List.length_map, List.length_cons, List.length_nil]; first | assumption | exact o_up (by assumption) | exact o_up1 (by assumption) | exact o_to1 (by assumption) | exact o_mid (by assumption) | omega)); (case q3 => ((try dsimp only); (try simp only [List.length_append, List.length_cons, List.length_nil]); first | assumption | exact e_up (by assumption) | exact e_up1 (by assumption) | omega)); (case q4 => ((try dsimp only); (try simp only [List.length_append, List.length_cons, List.length_nil]); first | assumption | exact Nat.zero_le _ | exact Nat.le_succ_of_le (by assumption) | exact Nat.succ_le_succ (by assumption) | omega)); (case q5 => first | (intro d h; cases h; done) | (intro d' h; cases h; (try dsimp only); (try simp only [List.length_append, List.length_cons, List.length_nil]); constructor <;> first | assumption | exact Nat.zero_le _ | exact Nat.le_succ_of_le (by assumption) | exact Nat.succ_le_succ (by assumption) | omega)); (case q6 => first | rfl | exact ⟨rfl, rfl⟩ | exact ⟨_, rfl⟩); (case q7 => (simp only [mA, rank]; first | exact m_up (by assumption) rfl | exact m_st rfl | omega)))
        · split
          · ((refine ⟨⟨by assumption, ?q1, ?q2, ?q3, ?q4, ?q5, by assumption, ?q6⟩, ?q7⟩); (case q1 => (dsimp only; first | (intro _; assumption) | (intro _; omega) | (intro h; cases h))); (case q2 => (simp only [pend, List.length_append, List.length_map, List.length_cons, List.length_nil]; first | assumption | exact o_up (by assumption) | exact o_up1 (by assumption) | exact o_to1 (by assumption) | exact o_mid (by assumption) | omega)); (case q3 => ((try dsimp only); (try simp only [List.length_append, List.length_cons, List.length_nil]); first | assumption | exact e_up (by assumption) | exact e_up1 (by assumption) | omega)); (case q4 => ((try dsimp only); (try simp only [List.length_append, List.length_cons, List.length_nil]); first | assumption | exact Nat.zero_le _ | exact Nat.le_succ_of_le (by assumption) | exact Nat.succ_le_succ (by assumption) | omega)); (case q5 => first | (intro d h; cases h; done) | (intro d' h; cases h; (try dsimp only); (try simp only [List.length_append, List.length_cons, List.length_nil]); constructor <;> first | assumption | exact Nat.zero_le _ | exact Nat.le_succ_of_le (by assumption) | exact Nat.succ_le_succ (by assumption) | omega)); (case q6 => first | rfl | exact ⟨rfl, rfl⟩ | exact ⟨_, rfl⟩); (case q7 => (simp only [mA, rank]; first | exact m_up (by assumption) rfl | exact m_st rfl | omega)))
          · split
            · ((refine ⟨⟨by assumption, ?q1, ?q2, ?q3, ?q4, ?q5, by assumption, ?q6⟩, ?q7⟩); (case q1 => (dsimp only; first | (intro _; assumption) | (intro _; omega) | (intro h; cases h))); (case q2 => (simp only [pend, List.length_append, List.length_map, List.length_cons, List.length_nil]; first | assumption | exact o_up (by assumption) | exact o_up1 (by assumption) | exact o_to1 (by assumption) | exact o_mid (by assumption) | omega)); (case q3 => ((try dsimp only); (try simp only [List.length_append, List.length_cons, List.length_nil]); first | assumption | exact e_up (by assumption) | exact e_up1 (by assumption) | omega)); (case q4 => ((try dsimp only); (try simp only [List.length_append, List.length_cons, List.length_nil]); first | assumption | exact Nat.zero_le _ | exact Nat.le_succ_of_le (by assumption) | exact Nat.succ_le_succ (by assumption) | omega)); (case q5 => first | (intro d h; cases h; done) | (intro d' h; cases h; (try dsimp only); (try simp only [List.length_append, List.length_cons, List.length_nil]); constructor <;> first | assumption | exact Nat.zero_le _ | exact Nat.le_succ_of_le (by assumption) | exact Nat.succ_le_succ (by assumption) | omega)); (case q6 => first | rfl | exact ⟨rfl, rfl⟩ | exact ⟨_, rfl⟩); (case q7 => (simp only [mA, rank]; first | exact m_up (by assumption) rfl | exact m_st rfl | omega)))
            · ((refine ⟨⟨by assumption, ?q1, ?q2, ?q3, ?q4, ?q5, by assumption, ?q6⟩, ?q7⟩); (case q1 => (dsimp only; first | (intro _; assumption) | (intro _; omega) | (intro h; cases h))); (case q2 => (simp only [pend, List.length_append, List.length_map, List.length_cons, List.length_nil]; first | assumption | exact o_up (by assumption) | exact o_up1 (by assumption) | exact o_to1 (by assumption) | exact o_mid (by assumption) | omega)); (case q3 => ((try dsimp only); (try simp only [List.length_append, List.length_cons, List.length_nil]); first | assumption | exact e_up (by assumption) | exact e_up1 (by assumption) | omega)); (case q4 => ((try dsimp only); (try simp only [List.length_append, List.length_cons, List.length_nil]); first | assumption | exact Nat.zero_le _ | exact Nat.le_succ_of_le (by assumption) | exact Nat.succ_le_succ (by assumption) | omega)); (case q5 => first | (intro d h; cases h; done) | (intro d' h; cases h; (try dsimp only); (try simp only [List.length_append, List.length_cons, List.length_nil]); constructor <;> first | assumption | exact Nat.zero_le _ | exact Nat.le_succ_of_le (by assumption) | exact Nat.succ_le_succ (by assumption) | omega)); (case q6 => first | rfl | exact ⟨rfl, rfl⟩ | exact ⟨_, rfl⟩); (case q7 => (simp only [mA, rank]; first | exact m_up (by assumption) rfl | exact m_st rfl | omega)))
  | sol =>
    simp only [Fit, pend] at f o
    obtain ⟨d0, f⟩ := f
    subst f
    have d1 := d d0 rfl
    clear d
    obtain ⟨d1, d2⟩ := d1
    rcases hc : cs[pos]? with _ | c
    · have := hnone hc
      simp only [stepA, stHeld, stLt, stEto, stEtn, stRef, stBa, stSol, hc, eof]
      ((refine ⟨⟨by assumption, ?q1, ?q2, ?q3, ?q4, ?q5, by assumption, ?q6⟩, ?q7⟩); (case q1 => (dsimp only; first | (intro _; assumption) | (intro _; omega) | (intro h; cases h))); (case q2 => (simp only [pend, List.length_append, List.length_map, List.length_cons, List.length_nil]; first | assumption | exact o_up (by assumption) | exact o_up1 (by assumption) | exact o_to1 (by assumption) | exact o_mid (by assumption) | omega)); (case q3 => ((try dsimp only); (try simp only [List.length_append, List.length_cons, List.length_nil]); first | assumption | exact e_up (by assumption) | exact e_up1 (by assumption) | omega)); (case q4 => ((try dsimp only); (try simp only [List.length_append, List.length_cons, List.length_nil]); first | assumption | exact Nat.zero_le _ | exact Nat.le_succ_of_le (by assumption) | exact Nat.succ_le_succ (by assumption) | omega)); (case q5 => first | (intro d h; cases h; done) | (intro d' h; cases h; (try dsimp only); (try simp only [List.length_append, List.length_cons, List.length_nil]); constructor <;> first | assumption | exact Nat.zero_le _ | exact Nat.le_succ_of_le (by assumption) | exact Nat.succ_le_succ (by assumption) | omega)); (case q6 => first | rfl | exact ⟨rfl, rfl⟩ | exact ⟨_, rfl⟩); (case q7 => (simp only [mA, rank]; first | exact m_up (by assumption) rfl | exact m_st rfl | omega)))
    · have := hlt c hc
      simp only [stepA, stHeld, stLt, stEto, stEtn, stRef, stBa, stSol, hc]
      split
      · obtain ⟨x1, x2⟩ := emitDraft_len ⟨pos, .sol, back, out, errs, buffer, last, false, some d0⟩ pos { d0 with closing := true }
        refine ⟨⟨l, fun _ => by simp only [emitDraft]; omega, ?_, ?_, by simp only [emitDraft]; omega, (fun d h => by cases h), la, rfl⟩, by simp only [mA, emitDraft, rank]; omega⟩
        · rw [x1]; simp only [emitDraft, pend]; omega
        · refine Nat.le_trans x2 ?_; simp only [emitDraft]; omega
      · ((refine ⟨⟨by assumption, ?q1, ?q2, ?q3, ?q4, ?q5, by assumption, ?q6⟩, ?q7⟩); (case q1 => (dsimp only; first | (intro _; assumption) | (intro _; omega) | (intro h; cases h))); (case q2 => (simp only [pend, List.length_append, List.length_map, List.length_cons, List.length_nil]; first | assumption | exact o_up (by assumption) | exact o_up1 (by assumption) | exact o_to1 (by assumption) | exact o_mid (by assumption) | omega)); (case q3 => ((try dsimp only); (try simp only [List.length_append, List.length_cons, List.length_nil]); first | assumption | exact e_up (by assumption) | exact e_up1 (by assumption) | omega)); (case q4 => ((try dsimp only); (try simp only [List.length_append, List.length_cons, List.length_nil]); first | assumption | exact Nat.zero_le _ | exact Nat.le_succ_of_le (by assumption) | exact Nat.succ_le_succ (by assumption) | omega)); (case q5 => first | (intro d h; cases h; done) | (intro d' h; cases h; (try dsimp only); (try simp only [List.length_append, List.length_cons, List.length_nil]); constructor <;> first | assumption | exact Nat.zero_le _ | exact Nat.le_succ_of_le (by assumption) | exact Nat.succ_le_succ (by assumption) | omega)); (case q6 => first | rfl | exact ⟨rfl, rfl⟩ | exact ⟨_, rfl⟩); (case q7 => (simp only [mA, rank]; first | exact m_up (by assumption) rfl | exact m_st rfl | omega)))
end
section
open PySem PySem.W PyProof.Rows PyProof.V PySem.Spec PySem.Calls
/-! the plain law -/
noncomputable def fin (cs : List Nat) (A : Abs) : Abs := runA cs (mA cs A) A
theorem runA_eq {cs : List Nat} {K : Nat} : ∀ (n m : Nat) (A : Abs), Inv cs K A → mA cs A ≤ n → mA cs A ≤ m → runA cs n A = runA cs m A := by
  intro n
  induction n with
  | zero =>
    intro m A I hn hm
    cases hr : readyA A with
    | false => rw [run_off hr, run_off hr]
    | true => have := (step_inv I hr).2; omega
  | succ n ih =>
    intro m A I hn hm
    cases hr : readyA A with
    | false => rw [run_off hr, run_off hr]
    | true =>
      have h := step_inv I hr
      obtain ⟨m', rfl⟩ : ∃ m', m = m' + 1 := ⟨m - 1, by omega⟩
      show (if readyA A then runA cs n (stepA cs A) else A) = (if readyA A then runA cs m' (stepA cs A) else A)
      rw [hr]
      exact ih m' _ h.1 (by omega) (by omega)
/-- the machine comes from A to B -/
noncomputable def Reach (cs : List Nat) (A B : Abs) : Prop := ∀ K, Inv cs K A → Inv cs K B ∧ fin cs A = fin cs B
theorem Reach.refl (cs : List Nat) (A : Abs) : Reach cs A A := fun _ I => ⟨I, rfl⟩
theorem Reach.trans {cs : List Nat} {A B C : Abs} (h1 : Reach cs A B) (h2 : Reach cs B C) : Reach cs A C := fun K I => ⟨(h2 K (h1 K I).1).1, (h1 K I).2.trans (h2 K (h1 K I).1).2⟩
theorem Reach.step {cs : List Nat} {A B : Abs} (hr : readyA A = true) (h : stepA cs A = B) : Reach cs A B := by
  subst h
  intro K I
  have q := step_inv I hr
  refine ⟨q.1, ?_⟩
  unfold fin
  obtain ⟨n, hn⟩ : ∃ n, mA cs A = n + 1 := ⟨mA cs A - 1, by omega⟩
  rw [hn]
  show (if readyA A then runA cs n (stepA cs A) else A) = _
  rw [hr]
  exact runA_eq n _ _ q.1 (by omega) (Nat.le_refl _)
theorem Reach.stepH {cs : List Nat} {A B : Abs} (h : stepA cs A = B) (hr : readyA A = true) : Reach cs A B := Reach.step hr h
theorem fin_off {cs : List Nat} {A : Abs} (h : readyA A = false) : fin cs A = A := run_off h _
noncomputable def isStop (c : Nat) : Bool := c == 32 || c == 10 || c == 9 || c == 12 || c == 47 || c == 62
noncomputable def lowA (c : Nat) : Nat := if c = 84 then 116 else if c = 65 then 97 else c
noncomputable def tailHit : List Nat → List Nat → Bool
  | [], c :: _ => isStop c
  | [], [] => false
  | x :: ns, c :: r => lowA c == x && tailHit ns r
  | _ :: _, [] => false
/-- the end tag of the name begins here -/
noncomputable def hitL (name : List Nat) : List Nat → Bool
  | 60 :: 47 :: r => tailHit name r
  | _ => false
noncomputable def endL (name : List Nat) : List Nat → Nat
  | [] => 0
  | c :: r => if hitL name (c :: r) then 0 else endL name r + 1
noncomputable def chN (c : Nat) : Dat := chD (if c = 0 then 0xFFFD else c)
noncomputable def nulls : Nat → List Nat → List Dat
  | _, [] => []
  | p, c :: r => (if c = 0 then [erD nullE p] else []) ++ nulls (p + 1) r
theorem endL_le (name : List Nat) : ∀ l, endL name l ≤ l.length
  | [] => Nat.le_refl _
  | c :: r => by
    unfold endL
    split
    · exact Nat.zero_le _
    · have := endL_le name r; simp; omega
theorem nulls_app : ∀ (a b : List Nat) (p : Nat), nulls p (a ++ b) = nulls p a ++ nulls (p + a.length) b
  | [], b, p => by simp [nulls]
  | c :: a, b, p => by
    simp only [List.cons_append, nulls, nulls_app a b (p + 1), List.append_assoc, List.length_cons]
    rw [show p + 1 + a.length = p + (a.length + 1) by omega]
theorem drop_at {cs : List Nat} {p c : Nat} {r : List Nat} (h : cs.drop p = c :: r) : cs[p]? = some c ∧ cs.drop (p + 1) = r ∧ p < cs.length := by
  have hl : p < cs.length := by
    apply Nat.lt_of_not_le
    intro hc
    rw [List.drop_eq_nil_of_le hc] at h
    cases h
  rw [List.drop_eq_getElem_cons hl] at h
  obtain ⟨h1, h2⟩ := List.cons.inj h
  exact ⟨by rw [List.getElem?_eq_getElem hl, h1], h2, hl⟩
theorem drop_nil {cs : List Nat} {p : Nat} (h : cs.drop p = []) : cs[p]? = none := List.getElem?_eq_none_iff.mpr (List.drop_eq_nil_iff.mp h)
/-- letters at the head -/
noncomputable def letters : List Nat → List Nat
  | [] => []
  | c :: r => if isLetter c then c :: letters r else []
noncomputable def afterL : List Nat → List Nat
  | [] => []
  | c :: r => if isLetter c then afterL r else c :: r
theorem letters_app : ∀ l, letters l ++ afterL l = l
  | [] => rfl
  | c :: r => by
    unfold letters afterL
    split
    · rw [List.cons_append, letters_app r]
    · rfl
theorem letters_all : ∀ l, ∀ c ∈ letters l, isLetter c = true
  | [], c, h => nomatch h
  | x :: r, c, h => by
    unfold letters at h
    split at h
    · rcases List.mem_cons.mp h with rfl | h
      · assumption
      · exact letters_all r c h
    · cases h
theorem afterL_head : ∀ l c r, afterL l = c :: r → isLetter c = false
  | [], c, r, h => nomatch h
  | x :: l, c, r, h => by
    unfold afterL at h
    split at h
    · exact afterL_head l c r h
    · cases h; simpa using ‹¬ isLetter _ = true›
theorem afterL_len (l : List Nat) : (letters l).length + (afterL l).length = l.length := by
  have := congrArg List.length (letters_app l)
  rwa [List.length_append] at this
theorem not_open {c : Nat} (h : isLetter c = true) : c ≠ 60 ∧ c ≠ 0 ∧ c ≠ 47 := by
  unfold isLetter at h
  simp only [Bool.or_eq_true, Bool.and_eq_true, decide_eq_true_eq] at h
  omega
theorem hitL_no {name : List Nat} {c : Nat} {r : List Nat} (h : c ≠ 60) : hitL name (c :: r) = false := by
  unfold hitL
  split
  · rename_i e; cases e; exact absurd rfl h
  · rfl
theorem endL_letters (name : List Nat) (rest : List Nat) : ∀ ls : List Nat, (∀ c ∈ ls, isLetter c = true) → endL name (ls ++ rest) = ls.length + endL name rest
  | [], _ => by simp
  | c :: ls, h => by
    have h1 := not_open (h c (.head _))
    rw [List.cons_append]
    show (if hitL name (c :: (ls ++ rest)) then 0 else endL name (ls ++ rest) + 1) = _
    rw [hitL_no h1.1, endL_letters name rest ls fun x hx => h x (.tail _ hx), if_neg (by decide), List.length_cons]
    omega
theorem chN_letters : ∀ ls : List Nat, (∀ c ∈ ls, isLetter c = true) → ls.map chN = ls.map chD := fun ls h => List.map_congr_left fun c hc => by
  have := (not_open (h c hc)).2.1
  simp [chN, this]
theorem nulls_letters : ∀ (ls : List Nat) (p : Nat), (∀ c ∈ ls, isLetter c = true) → nulls p ls = []
  | [], _, _ => rfl
  | c :: ls, p, h => by
    have := (not_open (h c (.head _))).2.1
    simp [nulls, this, nulls_letters ls (p + 1) fun x hx => h x (.tail _ hx)]
theorem low_lower {c x : Nat} (h : x = 97 ∨ x = 116) : lowA c = x ↔ lowerC c = x := by
  unfold lowA lowerC
  split <;> split <;> (try split) <;> omega
theorem stop_no {c : Nat} (h : isStop c = true) : isLetter c = false := by
  unfold isStop at h
  unfold isLetter
  simp only [Bool.or_eq_true, beq_iff_eq] at h
  rcases h with ((((rfl | rfl) | rfl) | rfl) | rfl) | rfl <;> decide
theorem low_letter {c x : Nat} (h : x = 97 ∨ x = 116) (e : lowA c = x) : isLetter c = true := by
  unfold lowA at e
  unfold isLetter
  simp only [Bool.or_eq_true, Bool.and_eq_true, decide_eq_true_eq]
  split at e
  · omega
  · split at e <;> omega
/-- a hit: letters that are the name, then a stop -/
theorem tailHit_iff : ∀ (name l : List Nat), (∀ x ∈ name, x = 97 ∨ x = 116) → (tailHit name l = true ↔ (letters l).map lowerC = name ∧ ∃ c r, afterL l = c :: r ∧ isStop c = true)
  | [], [], _ => by simp [tailHit, afterL]
  | [], c :: r, _ => by
    cases hl : isLetter c with
    | true =>
      have : isStop c = false := by
        cases hs : isStop c with
        | false => rfl
        | true => rw [stop_no hs] at hl; cases hl
      simp [tailHit, letters, hl, this]
    | false => simp [tailHit, letters, afterL, hl]
  | x :: ns, [], _ => by simp [tailHit, letters]
  | x :: ns, c :: r, h => by
    have hx := h x (.head _)
    have ih := tailHit_iff ns r fun y hy => h y (.tail _ hy)
    unfold tailHit
    rw [Bool.and_eq_true, beq_iff_eq, ih]
    cases hl : isLetter c with
    | true =>
      simp only [letters, afterL, hl, if_true, List.map_cons, List.cons.injEq, low_lower hx, and_assoc]
    | false =>
      have : lowA c ≠ x := fun e => by rw [low_letter hx e] at hl; cases hl
      simp [letters, hl, this]

section
variable {cs : List Nat} {k : Kd} {name : List Nat}
theorem ready_st {A : Abs} (h1 : A.done = false) (h2 : isData A.st = false) : readyA A = true := by
  unfold readyA; rw [h1, h2]; rfl
/-- letters into the draft's name -/
theorem etn_run : ∀ (ls rest : List Nat) (A : Abs) (nm : List Nat), (∀ c ∈ ls, isLetter c = true) → cs.drop A.pos = ls ++ rest → A.st = .etn k → A.done = false → A.dr = some ⟨nm, false, []⟩ →
    Reach cs A { A with pos := A.pos + ls.length, dr := some ⟨nm ++ ls.map lowerC, false, []⟩, buffer := A.buffer ++ ls }
  | [], rest, A, nm, _, _, _, _, hdr => by
    have e : ({ A with pos := A.pos + 0, dr := some ⟨nm ++ [], false, []⟩, buffer := A.buffer ++ [] } : Abs) = A := by
      simp only [Nat.add_zero, List.append_nil]
      rw [← hdr]
    show Reach cs A { A with pos := A.pos + 0, dr := some ⟨nm ++ [], false, []⟩, buffer := A.buffer ++ [] }
    rw [e]
    exact Reach.refl _ _
  | c :: ls, rest, A, nm, hl, hd, hst, hdn, hdr => by
    obtain ⟨h1, h2, h3⟩ := drop_at hd
    have hs : stepA cs A = { A with pos := A.pos + 1, dr := some ⟨nm ++ [lowerC c], false, []⟩, buffer := A.buffer ++ [c] } := by
      (first | rw [stepA_held hst] | rw [stepA_lt hst] | rw [stepA_eto hst] | rw [stepA_etn hst] | rw [stepA_ref hst] | rw [stepA_ba hst] | rw [stepA_sol hst])
      (first | unfold stHeld | unfold stLt | unfold stEto | unfold stEtn | unfold stRef | unfold stBa | unfold stSol)
      (try dsimp only)
      rw [hdr]
      dsimp only
      rw [h1]
      dsimp only
      rw [if_pos (hl c (.head _))]
    refine (Reach.stepH hs (ready_st hdn (by rw [hst]; rfl))).trans ?_
    have ih := etn_run ls rest { A with pos := A.pos + 1, dr := some ⟨nm ++ [lowerC c], false, []⟩, buffer := A.buffer ++ [c] } (nm ++ [lowerC c]) (fun x hx => hl x (.tail _ hx)) h2 hst hdn rfl
    have e : ({ { A with pos := A.pos + 1, dr := some ⟨nm ++ [lowerC c], false, []⟩, buffer := A.buffer ++ [c] } with pos := A.pos + 1 + ls.length, dr := some ⟨nm ++ [lowerC c] ++ ls.map lowerC, false, []⟩, buffer := A.buffer ++ [c] ++ ls } : Abs) =
        { A with pos := A.pos + (c :: ls).length, dr := some ⟨nm ++ (c :: ls).map lowerC, false, []⟩, buffer := A.buffer ++ (c :: ls) } := by
      simp only [List.length_cons, List.map_cons, List.append_assoc, List.singleton_append, Nat.add_assoc, Nat.add_comm 1]
    rw [← e]
    exact ih
/-- from the sign of an end tag's opening to the name's end -/
theorem open_run (A : Abs) (r : List Nat) (hd : cs.drop A.pos = 60 :: 47 :: r) (x : Nat) (r' : List Nat) (hr : r = x :: r') (hx : isLetter x = true) (hst : A.st = .held k) (hdn : A.done = false) :
    Reach cs A { A with st := .etn k, pos := A.pos + 2 + (letters r).length, dr := some ⟨(letters r).map lowerC, false, []⟩, buffer := letters r } := by
  obtain ⟨h1, h2, h3⟩ := drop_at hd
  obtain ⟨h4, h5, h6⟩ := drop_at h2
  have s1 : stepA cs A = { A with pos := A.pos + 1, st := .lt k } := by
    (first | rw [stepA_held hst] | rw [stepA_lt hst] | rw [stepA_eto hst] | rw [stepA_etn hst] | rw [stepA_ref hst] | rw [stepA_ba hst] | rw [stepA_sol hst])
    (first | unfold stHeld | unfold stLt | unfold stEto | unfold stEtn | unfold stRef | unfold stBa | unfold stSol)
    (try dsimp only)
    rw [h1]
    rfl
  refine (Reach.stepH s1 (ready_st hdn (by rw [hst]; rfl))).trans ?_
  have s2 : stepA cs { A with pos := A.pos + 1, st := .lt k } = { A with pos := A.pos + 2, st := .eto k, buffer := [] } := by
    (first | refine (stepA_held rfl).trans ?_ | refine (stepA_lt rfl).trans ?_ | refine (stepA_eto rfl).trans ?_ | refine (stepA_etn rfl).trans ?_ | refine (stepA_ref rfl).trans ?_ | refine (stepA_ba rfl).trans ?_ | refine (stepA_sol rfl).trans ?_)
    (first | unfold stHeld | unfold stLt | unfold stEto | unfold stEtn | unfold stRef | unfold stBa | unfold stSol)
    (try dsimp only)
    rw [h4]
    rfl
  refine (Reach.stepH s2 (ready_st hdn rfl)).trans ?_
  have h7 : cs.drop (A.pos + 2) = r := h5
  rw [hr] at h7
  obtain ⟨h8, _, _⟩ := drop_at h7
  have s3 : stepA cs { A with pos := A.pos + 2, st := .eto k, buffer := [] } = { A with pos := A.pos + 2, st := .etn k, buffer := [], dr := some ⟨[], false, []⟩ } := by
    (first | refine (stepA_held rfl).trans ?_ | refine (stepA_lt rfl).trans ?_ | refine (stepA_eto rfl).trans ?_ | refine (stepA_etn rfl).trans ?_ | refine (stepA_ref rfl).trans ?_ | refine (stepA_ba rfl).trans ?_ | refine (stepA_sol rfl).trans ?_)
    (first | unfold stHeld | unfold stLt | unfold stEto | unfold stEtn | unfold stRef | unfold stBa | unfold stSol)
    (try dsimp only)
    rw [h8]
    dsimp only
    rw [if_pos hx]
  refine (Reach.stepH s3 (ready_st hdn rfl)).trans ?_
  exact etn_run (cs := cs) (letters r) (afterL r) { A with pos := A.pos + 2, st := .etn k, buffer := [], dr := some ⟨[], false, []⟩ } [] (letters_all r) (by rw [letters_app]; exact h5) rfl hdn rfl
/-- one failed opening or one sign -/
theorem held_step (A : Abs) (c : Nat) (r : List Nat) (hname : ∀ x ∈ name, x = 97 ∨ x = 116) (hd : cs.drop A.pos = c :: r) (hno : hitL name (c :: r) = false) (hst : A.st = .held k) (hdn : A.done = false) (hdr : A.dr = none) (hla : A.last = name) :
    ∃ (a b : List Nat) (B : Abs), c :: r = a ++ b ∧ a ≠ [] ∧ endL name (c :: r) = a.length + endL name b ∧ Reach cs A B ∧ cs.drop B.pos = b ∧ B.pos = A.pos + a.length ∧ B.st = .held k ∧ B.done = false ∧ B.dr = none ∧ B.last = name ∧
      B.out = A.out ++ a.map chN ∧ B.errs = A.errs ++ nulls A.pos a := by
  obtain ⟨h1, h2, h3⟩ := drop_at hd
  have e1 : endL name (c :: r) = [c].length + endL name r := by
    show (if hitL name (c :: r) then 0 else endL name r + 1) = _
    rw [hno, if_neg (by decide)]
    simp [Nat.add_comm]
  by_cases c60 : c = 60
  · subst c60
    have s1 : stepA cs A = { A with pos := A.pos + 1, st := .lt k } := by
      (first | rw [stepA_held hst] | rw [stepA_lt hst] | rw [stepA_eto hst] | rw [stepA_etn hst] | rw [stepA_ref hst] | rw [stepA_ba hst] | rw [stepA_sol hst])
      (first | unfold stHeld | unfold stLt | unfold stEto | unfold stEtn | unfold stRef | unfold stBa | unfold stSol)
      (try dsimp only)
      rw [h1]
      rfl
    have R1 := Reach.stepH s1 (ready_st hdn (by rw [hst]; rfl))
    by_cases h47 : cs[A.pos + 1]? = some 47
    · obtain ⟨r2, hr2⟩ : ∃ r2, r = 47 :: r2 := by
        cases r with
        | nil => rw [drop_nil h2] at h47; cases h47
        | cons y r2 =>
          have := (drop_at h2).1
          rw [h47] at this
          cases this
          exact ⟨r2, rfl⟩
      subst hr2
      obtain ⟨h4, h5, h6⟩ := drop_at h2
      have h5' : cs.drop (A.pos + 2) = r2 := h5
      by_cases hx : ∃ x r', r2 = x :: r' ∧ isLetter x = true
      · obtain ⟨x, r', hr', hx⟩ := hx
        have R2 := open_run A r2 hd x r' hr' hx hst hdn
        have hqd : cs.drop (A.pos + 2 + (letters r2).length) = afterL r2 := by
          have := congrArg (List.drop (letters r2).length) h5'
          rw [List.drop_drop] at this
          rw [this]
          have q := List.drop_left (l₁ := letters r2) (l₂ := afterL r2)
          rwa [letters_app] at q
        have e2 : endL name (60 :: 47 :: r2) = (60 :: 47 :: letters r2).length + endL name (afterL r2) := by
          have e3 : endL name (47 :: r2) = 1 + endL name r2 := by
            show (if hitL name (47 :: r2) then 0 else endL name r2 + 1) = _
            rw [hitL_no (by decide), if_neg (by decide)]
            omega
          have e4 := endL_letters name (afterL r2) (letters r2) (letters_all r2)
          rw [letters_app] at e4
          rw [e1, e3, e4]
          simp
          omega
        have s4 : stepA cs { A with st := .etn k, pos := A.pos + 2 + (letters r2).length, dr := some ⟨(letters r2).map lowerC, false, []⟩, buffer := letters r2 } =
            { A with st := .held k, pos := A.pos + 2 + (letters r2).length, dr := none, buffer := letters r2, out := A.out ++ ([60, 47] ++ letters r2).map chD } := by
          (first | refine (stepA_held rfl).trans ?_ | refine (stepA_lt rfl).trans ?_ | refine (stepA_eto rfl).trans ?_ | refine (stepA_etn rfl).trans ?_ | refine (stepA_ref rfl).trans ?_ | refine (stepA_ba rfl).trans ?_ | refine (stepA_sol rfl).trans ?_)
          (first | unfold stHeld | unfold stLt | unfold stEto | unfold stEtn | unfold stRef | unfold stBa | unfold stSol)
          (try dsimp only)
          cases hq : afterL r2 with
          | nil =>
            rw [hq] at hqd
            rw [drop_nil hqd]
          | cons y r3 =>
            rw [hq] at hqd
            rw [(drop_at hqd).1]
            dsimp only
            have hy := afterL_head r2 y r3 hq
            rw [if_neg (by simp [hy])]
            have hnot : ¬ ((letters r2).map lowerC = name ∧ isStop y = true) := by
              rintro ⟨q1, q2⟩
              have : tailHit name r2 = true := (tailHit_iff name r2 hname).mpr ⟨q1, y, r3, hq, q2⟩
              have : hitL name (60 :: 47 :: r2) = true := this
              rw [hno] at this
              cases this
            have hb : (letters r2).map lowerC = A.last → isBlank y = false ∧ y ≠ 47 ∧ y ≠ 62 := by
              intro q1
              have q2 : isStop y = false := by
                cases hs : isStop y with
                | false => rfl
                | true => exact absurd ⟨q1.trans hla, hs⟩ hnot
              unfold isStop at q2
              unfold isBlank
              simp only [Bool.or_eq_false_iff, beq_eq_false_iff_ne] at q2 ⊢
              omega
            rw [if_neg (fun q => by have := (hb q.1).1; rw [this] at q; simp at q), if_neg (fun q => (hb q.1).2.1 q.2), if_neg (fun q => (hb q.1).2.2 q.2)]
        have R3 := Reach.stepH s4 (ready_st hdn rfl)
        refine ⟨60 :: 47 :: letters r2, afterL r2, _, by simp [letters_app], by simp, e2, R2.trans R3, hqd, by simp; omega, rfl, hdn, rfl, hla, ?_, ?_⟩
        · simp only [List.map_append, List.map_cons, List.map_nil, chN_letters _ (letters_all r2)]
          rfl
        · simp [nulls, nulls_letters _ _ (letters_all r2)]
      · have s2 : stepA cs { A with pos := A.pos + 1, st := .lt k } = { A with pos := A.pos + 2, st := .eto k, buffer := [] } := by
          (first | refine (stepA_held rfl).trans ?_ | refine (stepA_lt rfl).trans ?_ | refine (stepA_eto rfl).trans ?_ | refine (stepA_etn rfl).trans ?_ | refine (stepA_ref rfl).trans ?_ | refine (stepA_ba rfl).trans ?_ | refine (stepA_sol rfl).trans ?_)
          (first | unfold stHeld | unfold stLt | unfold stEto | unfold stEtn | unfold stRef | unfold stBa | unfold stSol)
          (try dsimp only)
          rw [h4]
          rfl
        have s3 : stepA cs { A with pos := A.pos + 2, st := .eto k, buffer := [] } = { A with pos := A.pos + 2, st := .held k, buffer := [], out := A.out ++ [chD 60, chD 47] } := by
          (first | refine (stepA_held rfl).trans ?_ | refine (stepA_lt rfl).trans ?_ | refine (stepA_eto rfl).trans ?_ | refine (stepA_etn rfl).trans ?_ | refine (stepA_ref rfl).trans ?_ | refine (stepA_ba rfl).trans ?_ | refine (stepA_sol rfl).trans ?_)
          (first | unfold stHeld | unfold stLt | unfold stEto | unfold stEtn | unfold stRef | unfold stBa | unfold stSol)
          (try dsimp only)
          cases hq : r2 with
          | nil =>
            rw [hq] at h5'
            rw [drop_nil h5']
          | cons y r3 =>
            rw [hq] at h5'
            rw [(drop_at h5').1]
            dsimp only
            rw [if_neg (fun q => hx ⟨y, r3, hq, q⟩)]
        have e3 : endL name (47 :: r2) = 1 + endL name r2 := by
          show (if hitL name (47 :: r2) then 0 else endL name r2 + 1) = _
          rw [hitL_no (by decide), if_neg (by decide)]
          omega
        refine ⟨[60, 47], r2, _, rfl, by simp, by rw [e1, e3]; simp; omega, (R1.trans (Reach.stepH s2 (ready_st hdn rfl))).trans (Reach.stepH s3 (ready_st hdn rfl)), h5', rfl, rfl, hdn, hdr, hla, rfl, by simp [nulls]⟩
    · have s2 : stepA cs { A with pos := A.pos + 1, st := .lt k } = { A with pos := A.pos + 1, st := .held k, out := A.out ++ [chD 60] } := by
        (first | refine (stepA_held rfl).trans ?_ | refine (stepA_lt rfl).trans ?_ | refine (stepA_eto rfl).trans ?_ | refine (stepA_etn rfl).trans ?_ | refine (stepA_ref rfl).trans ?_ | refine (stepA_ba rfl).trans ?_ | refine (stepA_sol rfl).trans ?_)
        (first | unfold stHeld | unfold stLt | unfold stEto | unfold stEtn | unfold stRef | unfold stBa | unfold stSol)
        (try dsimp only)
        rw [if_neg h47]
      exact ⟨[60], r, _, rfl, by simp, e1, R1.trans (Reach.stepH s2 (ready_st hdn rfl)), h2, rfl, rfl, hdn, hdr, hla, rfl, by simp [nulls]⟩
  · by_cases c38 : c = 38 ∧ k = .rc
    · obtain ⟨rfl, rfl⟩ := c38
      have s1 : stepA cs A = { A with pos := A.pos + 1, st := .ref, back := some .rc } := by
        (first | rw [stepA_held hst] | rw [stepA_lt hst] | rw [stepA_eto hst] | rw [stepA_etn hst] | rw [stepA_ref hst] | rw [stepA_ba hst] | rw [stepA_sol hst])
        (first | unfold stHeld | unfold stLt | unfold stEto | unfold stEtn | unfold stRef | unfold stBa | unfold stSol)
        (try dsimp only)
        rw [h1]
        rfl
      have s2 : stepA cs { A with pos := A.pos + 1, st := .ref, back := some .rc } = { A with pos := A.pos + 1, st := .held .rc, back := some .rc, buffer := [], out := A.out ++ [chD 38] } := rfl
      exact ⟨[38], r, _, rfl, by simp, e1, (Reach.stepH s1 (ready_st hdn (by rw [hst]; rfl))).trans (Reach.stepH s2 (ready_st hdn rfl)), h2, rfl, rfl, hdn, hdr, hla, rfl, by simp [nulls]⟩
    · by_cases c0 : c = 0
      · subst c0
        have s1 : stepA cs A = { A with pos := A.pos + 1, st := .held k, errs := A.errs ++ [erD nullE A.pos], out := A.out ++ [chD 0xFFFD] } := by
          (first | rw [stepA_held hst] | rw [stepA_lt hst] | rw [stepA_eto hst] | rw [stepA_etn hst] | rw [stepA_ref hst] | rw [stepA_ba hst] | rw [stepA_sol hst])
          (first | unfold stHeld | unfold stLt | unfold stEto | unfold stEtn | unfold stRef | unfold stBa | unfold stSol)
          (try dsimp only)
          rw [h1]
          dsimp only
          rw [if_neg c38, if_neg c60, if_pos rfl, ← hst]
        exact ⟨[0], r, _, rfl, by simp, e1, Reach.stepH s1 (ready_st hdn (by rw [hst]; rfl)), h2, rfl, rfl, hdn, hdr, hla, rfl, by simp [nulls]⟩
      · have s1 : stepA cs A = { A with pos := A.pos + 1, st := .held k, out := A.out ++ [chD c] } := by
          (first | rw [stepA_held hst] | rw [stepA_lt hst] | rw [stepA_eto hst] | rw [stepA_etn hst] | rw [stepA_ref hst] | rw [stepA_ba hst] | rw [stepA_sol hst])
          (first | unfold stHeld | unfold stLt | unfold stEto | unfold stEtn | unfold stRef | unfold stBa | unfold stSol)
          (try dsimp only)
          rw [h1]
          dsimp only
          rw [if_neg c38, if_neg c60, if_neg c0, ← hst]
        exact ⟨[c], r, _, rfl, by simp, e1, Reach.stepH s1 (ready_st hdn (by rw [hst]; rfl)), h2, rfl, rfl, hdn, hdr, hla, by simp [chN, c0], by simp [nulls, c0]⟩
/-- the content, up to the end's place -/
theorem content (hname : ∀ x ∈ name, x = 97 ∨ x = 116) : ∀ (n : Nat) (l : List Nat) (A : Abs), l.length ≤ n → cs.drop A.pos = l → A.st = .held k → A.done = false → A.dr = none → A.last = name →
    ∃ B, Reach cs A B ∧ B.pos = A.pos + endL name l ∧ cs.drop B.pos = l.drop (endL name l) ∧ B.st = .held k ∧ B.done = false ∧ B.dr = none ∧ B.last = name ∧
      B.out = A.out ++ (l.take (endL name l)).map chN ∧ B.errs = A.errs ++ nulls A.pos (l.take (endL name l)) := by
  intro n
  induction n with
  | zero =>
    intro l A hl hd hst hdn hdr hla
    have : l = [] := List.length_eq_zero_iff.mp (Nat.le_zero.mp hl)
    subst this
    exact ⟨A, Reach.refl _ _, rfl, by simpa [endL] using hd, hst, hdn, hdr, hla, by simp [endL], by simp [endL, nulls]⟩
  | succ n ih =>
    intro l A hl hd hst hdn hdr hla
    cases l with
    | nil => exact ⟨A, Reach.refl _ _, rfl, by simpa [endL] using hd, hst, hdn, hdr, hla, by simp [endL], by simp [endL, nulls]⟩
    | cons c r =>
      cases hh : hitL name (c :: r) with
      | true =>
        have e0 : endL name (c :: r) = 0 := by
          show (if hitL name (c :: r) then 0 else endL name r + 1) = 0
          rw [hh, if_pos rfl]
        rw [e0]
        exact ⟨A, Reach.refl _ _, rfl, by simpa using hd, hst, hdn, hdr, hla, by simp, by simp [nulls]⟩
      | false =>
        obtain ⟨a, b, B, hab, hne, he, R, hBd, hBp, hBs, hBn, hBr, hBl, hBo, hBe⟩ := held_step A c r hname hd hh hst hdn hdr hla
        have hbl : b.length ≤ n := by
          have := congrArg List.length hab
          have h1 : 0 < a.length := List.length_pos_iff.mpr hne
          rw [List.length_append] at this
          omega
        obtain ⟨C, R2, hCp, hCd, hCs, hCn, hCr, hCl, hCo, hCe⟩ := ih b B hbl hBd hBs hBn hBr hBl
        rw [he, hab]
        refine ⟨C, R.trans R2, by rw [hCp, hBp]; omega, ?_, hCs, hCn, hCr, hCl, ?_, ?_⟩
        · rw [hCd, List.drop_append]
          simp [List.drop_eq_nil_of_le (Nat.le_add_right _ _)]
        · rw [hCo, hBo, List.take_append]
          simp [List.take_of_length_le (Nat.le_add_right _ _)]
        · rw [hCe, hBe, hBp, List.take_append, List.take_of_length_le (Nat.le_add_right _ _), Nat.add_sub_cancel_left, nulls_app, List.append_assoc]
end
end
section
open PySem PySem.W PyProof.Rows PyProof.V PySem.Spec PySem.Calls
noncomputable def tagL (names : List Nat) (p : Nat) : List Nat → List Nat × List Dat × Nat
  | [] => (names, [], p)
  | c :: r => if c = 62 then (names, [], p)
    else if names.contains c then ((tagL names (p + 1) r).1, erD dupE p :: (tagL names (p + 1) r).2.1, (tagL names (p + 1) r).2.2)
    else if isBlank c || c == 47 then tagL names (p + 1) r
    else tagL (names ++ [c]) (p + 1) r
noncomputable def keptA (as : List (Nat × Bool)) : List Nat := (as.filter (·.2)).map (·.1)
theorem any_kept (c : Nat) : ∀ as : List (Nat × Bool), (as.any fun a => a.2 && a.1 == c) = (keptA as).contains c
  | [] => rfl
  | (x, b) :: as => by
    have ih := any_kept c as
    cases b with
    | false =>
      have e : keptA ((x, false) :: as) = keptA as := by simp [keptA]
      rw [e, ← ih]; rfl
    | true =>
      have e : keptA ((x, true) :: as) = x :: keptA as := by simp [keptA]
      rw [e, List.contains_cons, ← ih]
      simp only [List.any_cons, Bool.true_and]
      rw [BEq.comm]
/-- one sign in a tag -/
noncomputable def tagSt (c : Nat) : St := if c = 47 then .sol else .ba
structure TagOk (cs : List Nat) (A : Abs) (nm : List Nat) (attrs : List (Nat × Bool)) (names : List Nat) : Prop where
  dr : A.dr = some ⟨nm, false, attrs⟩
  kept : keptA attrs = names
  none : attrs = [] ↔ names = []
  ok : ∀ x ∈ names, isBlank x = false ∧ x ≠ 47
  live : A.done = false
section
variable {cs : List Nat}
theorem ba_step (A : Abs) (c : Nat) (r nm names : List Nat) (attrs : List (Nat × Bool)) (hd : cs.drop A.pos = c :: r) (h62 : c ≠ 62) (hst : A.st = .ba) (T : TagOk cs A nm attrs names) :
    ∃ B attrs', Reach cs A B ∧ B.pos = A.pos + 1 ∧ B.st = tagSt c ∧ B.out = A.out ∧ B.last = A.last ∧
      ((names.contains c = true ∧ TagOk cs B nm attrs' names ∧ B.errs = A.errs ++ [erD dupE A.pos]) ∨
       (names.contains c = false ∧ (isBlank c || c == 47) = true ∧ TagOk cs B nm attrs' names ∧ B.errs = A.errs) ∨
       (names.contains c = false ∧ (isBlank c || c == 47) = false ∧ TagOk cs B nm attrs' (names ++ [c]) ∧ B.errs = A.errs)) := by
  obtain ⟨h1, h2, h3⟩ := drop_at hd
  have hr := ready_st T.live (by rw [hst]; rfl)
  by_cases c47 : c = 47
  · subst c47
    have hn : names.contains 47 = false := by
      cases hc : names.contains 47 with
      | false => rfl
      | true => exact absurd rfl (T.ok 47 (by simpa using hc)).2
    have s : stepA cs A = { A with pos := A.pos + 1, st := .sol } := by
      (first | rw [stepA_held hst] | rw [stepA_lt hst] | rw [stepA_eto hst] | rw [stepA_etn hst] | rw [stepA_ref hst] | rw [stepA_ba hst] | rw [stepA_sol hst])
      (first | unfold stHeld | unfold stLt | unfold stEto | unfold stEtn | unfold stRef | unfold stBa | unfold stSol)
      (try dsimp only)
      rw [T.dr]
      dsimp only
      rw [h1]
      dsimp only
      rw [if_neg h62, if_pos rfl]
    exact ⟨_, attrs, Reach.stepH s hr, rfl, rfl, rfl, rfl, .inr (.inl ⟨hn, by simp, ⟨T.dr, T.kept, T.none, T.ok, T.live⟩, rfl⟩)⟩
  · cases hb : isBlank c with
    | true =>
      have hn : names.contains c = false := by
        cases hc : names.contains c with
        | false => rfl
        | true => have := (T.ok c (by simpa using hc)).1; rw [hb] at this; cases this
      have s : stepA cs A = { A with pos := A.pos + 1 } := by
        (first | rw [stepA_held hst] | rw [stepA_lt hst] | rw [stepA_eto hst] | rw [stepA_etn hst] | rw [stepA_ref hst] | rw [stepA_ba hst] | rw [stepA_sol hst])
        (first | unfold stHeld | unfold stLt | unfold stEto | unfold stEtn | unfold stRef | unfold stBa | unfold stSol)
        (try dsimp only)
        rw [T.dr]
        dsimp only
        rw [h1]
        dsimp only
        rw [if_neg h62, if_neg c47, if_pos hb]
      exact ⟨_, attrs, Reach.stepH s hr, rfl, by rw [hst]; simp [tagSt, c47], rfl, rfl, .inr (.inl ⟨hn, by simp, ⟨T.dr, T.kept, T.none, T.ok, T.live⟩, rfl⟩)⟩
    | false =>
      cases hn : names.contains c with
      | true =>
        have s : stepA cs A = { A with pos := A.pos + 1, dr := some ⟨nm, false, attrs ++ [(c, false)]⟩, errs := A.errs ++ [erD dupE A.pos] } := by
          (first | rw [stepA_held hst] | rw [stepA_lt hst] | rw [stepA_eto hst] | rw [stepA_etn hst] | rw [stepA_ref hst] | rw [stepA_ba hst] | rw [stepA_sol hst])
          (first | unfold stHeld | unfold stLt | unfold stEto | unfold stEtn | unfold stRef | unfold stBa | unfold stSol)
          (try dsimp only)
          rw [T.dr]
          dsimp only
          rw [h1]
          dsimp only
          rw [if_neg h62, if_neg c47, if_neg (by simp [hb]), any_kept, T.kept, hn, if_pos rfl]
        refine ⟨_, attrs ++ [(c, false)], Reach.stepH s hr, rfl, by rw [hst]; simp [tagSt, c47], rfl, rfl, .inl ⟨rfl, ⟨rfl, ?_, ?_, T.ok, T.live⟩, rfl⟩⟩
        · rw [← T.kept]; simp [keptA]
        · have hne : names ≠ [] := by rintro rfl; simp at hn
          simp [hne]
      | false =>
        have s : stepA cs A = { A with pos := A.pos + 1, dr := some ⟨nm, false, attrs ++ [(c, true)]⟩ } := by
          (first | rw [stepA_held hst] | rw [stepA_lt hst] | rw [stepA_eto hst] | rw [stepA_etn hst] | rw [stepA_ref hst] | rw [stepA_ba hst] | rw [stepA_sol hst])
          (first | unfold stHeld | unfold stLt | unfold stEto | unfold stEtn | unfold stRef | unfold stBa | unfold stSol)
          (try dsimp only)
          rw [T.dr]
          dsimp only
          rw [h1]
          dsimp only
          rw [if_neg h62, if_neg c47, if_neg (by simp [hb]), any_kept, T.kept, hn, if_neg (by simp)]
        refine ⟨_, attrs ++ [(c, true)], Reach.stepH s hr, rfl, by rw [hst]; simp [tagSt, c47], rfl, rfl, .inr (.inr ⟨rfl, by simp [c47], ⟨rfl, ?_, by simp, ?_, T.live⟩, rfl⟩)⟩
        · rw [← T.kept]; simp [keptA]
        · intro x hx
          rcases List.mem_append.mp hx with hx | hx
          · exact T.ok x hx
          · rw [List.mem_singleton.mp hx]; exact ⟨hb, c47⟩
/-- the state tells whether the sign before was a solidus -/
noncomputable def TagSt (cs : List Nat) (A : Abs) : Prop := (A.st = .sol ∧ cs[A.pos - 1]? = some 47) ∨ (A.st = .ba ∧ cs[A.pos - 1]? ≠ some 47)
noncomputable def slash (cs : List Nat) (q : Nat) : Bool := cs[q - 1]? == some 47
/-- what a tag's end leaves -/
noncomputable def TagEnd (cs : List Nat) (A B : Abs) (nm : List Nat) (t : List Nat × List Dat × Nat) : Prop :=
  B.last = A.last ∧ B.pos = t.2.2 + 1 ∧
  if t.2.2 = cs.length then B.out = A.out ++ [eofD] ∧ B.errs = A.errs ++ t.2.1 ++ [erD eofE t.2.2] ∧ B.done = true ∧ B.st = (if slash cs t.2.2 then .sol else .ba)
  else B.out = A.out ++ [endD nm t.1 (slash cs t.2.2)] ∧ B.errs = A.errs ++ t.2.1 ++ (if t.1 = [] then [] else [erD attrE t.2.2]) ++ (if slash cs t.2.2 then [erD solE t.2.2] else []) ∧ B.done = false ∧ B.st = .data ∧ B.dr = none
theorem tagL_pos : ∀ (l names : List Nat) (p : Nat), (tagL names p l).2.2 = p + l.length ∨ ∃ i, i < l.length ∧ (tagL names p l).2.2 = p + i ∧ l[i]? = some 62
  | [], names, p => .inl rfl
  | c :: r, names, p => by
    unfold tagL
    split
    · rename_i h; exact .inr ⟨0, by simp, rfl, by simp [h]⟩
    · have key : ∀ ns, (tagL ns (p + 1) r).2.2 = p + (c :: r).length ∨ ∃ i, i < (c :: r).length ∧ (tagL ns (p + 1) r).2.2 = p + i ∧ (c :: r)[i]? = some 62 := by
        intro ns
        rcases tagL_pos r ns (p + 1) with h | ⟨i, h1, h2, h3⟩
        · exact .inl (by rw [h]; simp; omega)
        · exact .inr ⟨i + 1, by simp; omega, by rw [h2]; omega, by simpa using h3⟩
      split
      · exact key names
      · split
        · exact key names
        · exact key _
theorem tag_run : ∀ (l : List Nat) (A : Abs) (nm names : List Nat) (attrs : List (Nat × Bool)), cs.drop A.pos = l → A.pos ≤ cs.length → 1 ≤ A.pos → TagSt cs A → TagOk cs A nm attrs names →
    ∃ B, Reach cs A B ∧ TagEnd cs A B nm (tagL names A.pos l)
  | [], A, nm, names, attrs, hd, hle, h1, hst, T => by
    have hp : A.pos = cs.length := by have := List.drop_eq_nil_iff.mp hd; omega
    have hn := drop_nil hd
    have s : stepA cs A = { A with pos := A.pos + 1, out := A.out ++ [eofD], done := true, errs := A.errs ++ [erD eofE A.pos] } := by
      rcases hst with ⟨h, _⟩ | ⟨h, _⟩
      · (first | rw [stepA_held h] | rw [stepA_lt h] | rw [stepA_eto h] | rw [stepA_etn h] | rw [stepA_ref h] | rw [stepA_ba h] | rw [stepA_sol h]); (first | unfold stHeld | unfold stLt | unfold stEto | unfold stEtn | unfold stRef | unfold stBa | unfold stSol); (try dsimp only); rw [T.dr]; dsimp only; rw [hn]; simp only [eof, h, T.dr]
      · (first | rw [stepA_held h] | rw [stepA_lt h] | rw [stepA_eto h] | rw [stepA_etn h] | rw [stepA_ref h] | rw [stepA_ba h] | rw [stepA_sol h]); (first | unfold stHeld | unfold stLt | unfold stEto | unfold stEtn | unfold stRef | unfold stBa | unfold stSol); (try dsimp only); rw [T.dr]; dsimp only; rw [hn]; simp only [eof, h, T.dr]
    refine ⟨_, Reach.stepH s (ready_st T.live (by rcases hst with ⟨h, _⟩ | ⟨h, _⟩ <;> (rw [h]; rfl))), rfl, rfl, ?_⟩
    show if A.pos = cs.length then _ else _
    rw [if_pos hp]
    refine ⟨rfl, by simp [tagL], rfl, ?_⟩
    show A.st = if slash cs A.pos then .sol else .ba
    unfold slash
    rcases hst with ⟨h, h2⟩ | ⟨h, h2⟩
    · rw [h, h2]; rfl
    · rw [h, if_neg (by simpa using h2)]
  | c :: r, A, nm, names, attrs, hd, hle, h1, hst, T => by
    obtain ⟨g1, g2, g3⟩ := drop_at hd
    by_cases h62 : c = 62
    · subst h62
      have e : tagL names A.pos (62 :: r) = (names, [], A.pos) := by unfold tagL; rw [if_pos rfl]
      rw [e]
      have hne : A.pos ≠ cs.length := by omega
      rcases hst with ⟨h, h2⟩ | ⟨h, h2⟩
      · have s : stepA cs A = emitDraft A A.pos ⟨nm, true, attrs⟩ := by
          (first | rw [stepA_held h] | rw [stepA_lt h] | rw [stepA_eto h] | rw [stepA_etn h] | rw [stepA_ref h] | rw [stepA_ba h] | rw [stepA_sol h])
          (first | unfold stHeld | unfold stLt | unfold stEto | unfold stEtn | unfold stRef | unfold stBa | unfold stSol)
          (try dsimp only)
          rw [T.dr]; dsimp only; rw [g1]; dsimp only; rw [if_pos rfl]
        refine ⟨_, Reach.stepH s (ready_st T.live (by rw [h]; rfl)), rfl, rfl, ?_⟩
        show if A.pos = cs.length then _ else _
        have hs : slash cs A.pos = true := by unfold slash; rw [h2]; rfl
        rw [if_neg hne]
        dsimp only
        rw [hs]
        refine ⟨by rw [← T.kept]; rfl, ?_, T.live, rfl, rfl⟩
        unfold emitDraft
        by_cases ha : attrs = []
        · have := T.none.mp ha; simp [ha, this]
        · have : names ≠ [] := fun q => ha (T.none.mpr q); simp [ha, this]
      · have s : stepA cs A = emitDraft A A.pos ⟨nm, false, attrs⟩ := by
          (first | rw [stepA_held h] | rw [stepA_lt h] | rw [stepA_eto h] | rw [stepA_etn h] | rw [stepA_ref h] | rw [stepA_ba h] | rw [stepA_sol h])
          (first | unfold stHeld | unfold stLt | unfold stEto | unfold stEtn | unfold stRef | unfold stBa | unfold stSol)
          (try dsimp only)
          rw [T.dr]; dsimp only; rw [g1]; dsimp only; rw [if_pos rfl]
        refine ⟨_, Reach.stepH s (ready_st T.live (by rw [h]; rfl)), rfl, rfl, ?_⟩
        show if A.pos = cs.length then _ else _
        have hs : slash cs A.pos = false := by unfold slash; simpa using h2
        rw [if_neg hne]
        dsimp only
        rw [hs]
        refine ⟨by rw [← T.kept]; rfl, ?_, T.live, rfl, rfl⟩
        unfold emitDraft
        by_cases ha : attrs = []
        · have := T.none.mp ha; simp [ha, this]
        · have : names ≠ [] := fun q => ha (T.none.mpr q); simp [ha, this]
    · -- come to the state before an attribute's name
      obtain ⟨A1, R1, p1, st1, o1, e1, l1, T1⟩ : ∃ A1, Reach cs A A1 ∧ A1.pos = A.pos ∧ A1.st = .ba ∧ A1.out = A.out ∧ A1.errs = A.errs ∧ A1.last = A.last ∧ TagOk cs A1 nm attrs names := by
        rcases hst with ⟨h, h2⟩ | ⟨h, h2⟩
        · have s : stepA cs A = { A with st := .ba } := by
            (first | rw [stepA_held h] | rw [stepA_lt h] | rw [stepA_eto h] | rw [stepA_etn h] | rw [stepA_ref h] | rw [stepA_ba h] | rw [stepA_sol h])
            (first | unfold stHeld | unfold stLt | unfold stEto | unfold stEtn | unfold stRef | unfold stBa | unfold stSol)
            (try dsimp only)
            rw [T.dr]; dsimp only; rw [g1]; dsimp only; rw [if_neg h62, ← T.dr]
          exact ⟨_, Reach.stepH s (ready_st T.live (by rw [h]; rfl)), rfl, rfl, rfl, rfl, rfl, ⟨T.dr, T.kept, T.none, T.ok, T.live⟩⟩
        · exact ⟨A, Reach.refl _ _, rfl, h, rfl, rfl, rfl, T⟩
      obtain ⟨B, attrs', R2, p2, st2, o2, l2, hB⟩ := ba_step A1 c r nm names attrs (by rw [p1]; exact hd) h62 st1 T1
      have hBp : B.pos = A.pos + 1 := by rw [p2, p1]
      have hBst : TagSt cs B := by
        unfold TagSt
        rw [st2, hBp, Nat.add_sub_cancel, g1]
        unfold tagSt
        by_cases c47 : c = 47
        · exact .inl ⟨if_pos c47, by rw [c47]⟩
        · exact .inr ⟨if_neg c47, by simpa using c47⟩
      have hBd : cs.drop B.pos = r := by rw [hBp]; exact g2
      have lift : ∀ ns attrs'', TagOk cs B nm attrs'' ns → ∀ es, B.errs = A.errs ++ es → tagL names A.pos (c :: r) = ((tagL ns (A.pos + 1) r).1, es ++ (tagL ns (A.pos + 1) r).2.1, (tagL ns (A.pos + 1) r).2.2) → ∃ B', Reach cs A B' ∧ TagEnd cs A B' nm (tagL names A.pos (c :: r)) := by
        intro ns attrs'' TB es hes htl
        obtain ⟨C, R3, q1, q2, q3⟩ := tag_run r B nm ns attrs'' hBd (by omega) (by omega) hBst TB
        refine ⟨C, (R1.trans R2).trans R3, by rw [q1, l2, l1], ?_, ?_⟩
        · rw [q2, htl, hBp]
        · rw [htl]
          rw [hBp, hes, o2, o1] at q3
          simpa only [List.append_assoc] using q3
      rcases hB with ⟨hn, TB, he⟩ | ⟨hn, hb, TB, he⟩ | ⟨hn, hb, TB, he⟩
      · refine lift names attrs' TB [erD dupE A.pos] (by rw [he, e1, p1]) ?_
        conv => lhs; unfold tagL
        rw [if_neg h62, if_pos hn]
        rfl
      · refine lift names attrs' TB [] (by rw [he, e1, List.append_nil]) ?_
        conv => lhs; unfold tagL
        rw [if_neg h62, if_neg (by rw [hn]; simp), if_pos hb]
        rfl
      · refine lift (names ++ [c]) attrs' TB [] (by rw [he, e1, List.append_nil]) ?_
        conv => lhs; unfold tagL
        rw [if_neg h62, if_neg (by rw [hn]; simp), if_neg (by rw [hb]; simp)]
        rfl
end
end
section
open PySem PySem.W PyProof.Rows PyProof.V PySem.Spec PySem.Calls
structure Res where
  out : List Dat
  errs : List Dat
  pos : Nat
  st : St
  done : Bool
  last : List Nat
noncomputable def resOf (A : Abs) : Res := ⟨A.out, A.errs, A.pos, A.st, A.done, A.last⟩
/-- an element begins -/
noncomputable def startA (A : Abs) (e : Kd × List Nat) : Abs := { A with out := A.out ++ [startD e.2], last := e.2, st := .held e.1 }
/-- the law's loop over the elements, by the machine -/
noncomputable def lawA (cs : List Nat) : List (Kd × List Nat) → Abs → Abs
  | [], A => A
  | e :: r, A => if (fin cs (startA A e)).done then fin cs (startA A e) else lawA cs r (fin cs (startA A e))
/-- what the tag gives, by the law: names, errors, place -/
noncomputable def lawTag (cs : List Nat) (q : Nat) : List Nat × List Dat × Nat :=
  if (tagL [] q (cs.drop q)).2.2 = cs.length then ((tagL [] q (cs.drop q)).1, (tagL [] q (cs.drop q)).2.1 ++ [erD eofE (tagL [] q (cs.drop q)).2.2], (tagL [] q (cs.drop q)).2.2)
  else ((tagL [] q (cs.drop q)).1, (tagL [] q (cs.drop q)).2.1 ++ (if (tagL [] q (cs.drop q)).1 = [] then [] else [erD attrE (tagL [] q (cs.drop q)).2.2]) ++ (if slash cs (tagL [] q (cs.drop q)).2.2 then [erD solE (tagL [] q (cs.drop q)).2.2] else []), (tagL [] q (cs.drop q)).2.2)
/-- the law's reading -/
noncomputable def readL (cs : List Nat) : List (Kd × List Nat) → List Dat → List Dat → Nat → List Nat → Res
  | [], out, errs, p, last => ⟨out, errs, p, .data, false, last⟩
  | (k, name) :: r, out, errs, p, _ =>
    let n := endL name (cs.drop p)
    let out2 := out ++ [startD name] ++ ((cs.drop p).take n).map chN
    let errs2 := errs ++ nulls p ((cs.drop p).take n)
    if p + n = cs.length then ⟨out2 ++ [eofD], errs2, p + n + 1, .held k, true, name⟩
    else
      let t := lawTag cs (p + n + 2 + name.length)
      if t.2.2 = cs.length then ⟨out2 ++ [eofD], errs2 ++ t.2.1, t.2.2 + 1, if slash cs cs.length then .sol else .ba, true, name⟩
      else readL cs r (out2 ++ [endD name t.1 (slash cs t.2.2)]) (errs2 ++ t.2.1) (t.2.2 + 1) name
noncomputable def ElOk (e : Kd × List Nat) : Prop := e.2 ∈ [[116, 97], [97], [116], [116, 116, 97]]
theorem ElOk.of {e : Kd × List Nat} (h : ElOk e) : e.2 ≠ [] ∧ ∀ x ∈ e.2, x = 97 ∨ x = 116 := by
  unfold ElOk at h
  simp only [List.mem_cons, List.not_mem_nil, or_false] at h
  rcases h with h | h | h | h <;> (rw [h]; simp)
theorem hit_split {name l : List Nat} (h : hitL name l = true) : ∃ r, l = 60 :: 47 :: r ∧ tailHit name r = true := by
  unfold hitL at h
  split at h
  · exact ⟨_, rfl, h⟩
  · cases h
theorem endL_hit (name : List Nat) : ∀ l, endL name l < l.length → hitL name (l.drop (endL name l)) = true
  | [], h => absurd h (Nat.not_lt_zero _)
  | c :: r, h => by
    unfold endL at h ⊢
    split
    · rename_i h'; simpa using h'
    · rename_i h'
      rw [if_neg h'] at h
      have := endL_hit name r (by simpa using h)
      simpa using this
section
variable {cs : List Nat}
/-- from the end tag's place into the tag -/
theorem into_tag {k : Kd} {name : List Nat} (hname : ∀ x ∈ name, x = 97 ∨ x = 116) (hne : name ≠ []) (B : Abs) (hh : hitL name (cs.drop B.pos) = true) (hst : B.st = .held k) (hdn : B.done = false) (hla : B.last = name) :
    ∃ C', Reach cs B C' ∧ TagEnd cs B C' name (tagL [] (B.pos + 2 + name.length) (cs.drop (B.pos + 2 + name.length))) ∧ B.pos + 2 + name.length < cs.length := by
  obtain ⟨r, hd, ht⟩ := hit_split hh
  obtain ⟨hl, c, r', ha, hs⟩ := (tailHit_iff name r hname).mp ht
  have hlen : (letters r).length = name.length := by rw [← hl, List.length_map]
  obtain ⟨x, r1, hr1, hx⟩ : ∃ x r1, r = x :: r1 ∧ isLetter x = true := by
    cases r with
    | nil => simp [letters] at hl; exact absurd hl hne
    | cons x r1 =>
      cases hx : isLetter x with
      | true => exact ⟨x, r1, rfl, hx⟩
      | false => simp [letters, hx] at hl; exact absurd hl hne
  have R1 := open_run (cs := cs) (k := k) B r hd x r1 hr1 hx hst hdn
  have hqd : cs.drop (B.pos + 2 + name.length) = c :: r' := by
    have h5 : cs.drop (B.pos + 2) = r := by
      have := congrArg (List.drop 2) hd
      rw [List.drop_drop] at this
      exact this
    have := congrArg (List.drop (letters r).length) h5
    rw [List.drop_drop, hlen] at this
    rw [this, ← ha]
    have q := List.drop_left (l₁ := letters r) (l₂ := afterL r)
    rw [letters_app, hlen] at q
    exact q
  obtain ⟨g1, g2, g3⟩ := drop_at hqd
  -- the state before an attribute's name, at the same place, goes the same way
  have hA : ∀ (E : Abs), E = { B with st := .etn k, pos := B.pos + 2 + name.length, dr := some ⟨name, false, []⟩, buffer := letters r } → stepA cs E = stepA cs { E with st := .ba } := by
    rintro E rfl
    refine (stepA_etn (k := k) rfl).trans (Eq.trans ?_ (stepA_ba rfl).symm)
    unfold stEtn stBa
    (try dsimp only)
    rw [g1]
    dsimp only
    rw [if_neg (by simp [stop_no hs]), hla]
    unfold isStop at hs
    simp only [Bool.or_eq_true, beq_iff_eq] at hs
    rcases hs with ((((rfl | rfl) | rfl) | rfl) | rfl) | rfl <;> simp [isBlank, emitDraft]
  rw [hl, hlen] at R1
  have hprev : cs[B.pos + 2 + name.length - 1]? ≠ some 47 := by
    have h5 : cs.drop (B.pos + 2) = r := by
      have := congrArg (List.drop 2) hd
      rw [List.drop_drop] at this
      exact this
    have hpos : 0 < name.length := List.length_pos_iff.mpr hne
    have e : cs[B.pos + 2 + name.length - 1]? = r[name.length - 1]? := by
      rw [← h5, List.getElem?_drop]
      congr 1
      omega
    rw [e]
    intro q
    have hlt : name.length - 1 < (letters r).length := by omega
    have e2 : r[name.length - 1]? = (letters r)[name.length - 1]? := by
      conv => lhs; rw [← letters_app r]
      rw [List.getElem?_append_left hlt]
    rw [e2, List.getElem?_eq_getElem hlt] at q
    have := letters_all r _ (List.getElem_mem hlt)
    rw [Option.some.inj q] at this
    exact absurd this (by decide)
  let E : Abs := { B with st := .etn k, pos := B.pos + 2 + name.length, dr := some ⟨name, false, []⟩, buffer := letters r }
  let C : Abs := { E with st := .ba }
  have T : TagOk cs C name [] [] := ⟨rfl, rfl, ⟨fun _ => rfl, fun _ => rfl⟩, (fun _ h => nomatch h), hdn⟩
  obtain ⟨C', R2, hT⟩ := tag_run (cs := cs) (c :: r') C name [] [] hqd (Nat.le_of_lt g3) (by show 1 ≤ B.pos + 2 + name.length; omega) (.inr ⟨rfl, hprev⟩) T
  have hEC : Reach cs E C := by
    intro K I
    have IC : Inv cs K C := ⟨I.len, I.pos, Nat.le_trans (Nat.le_of_eq (by simp [pend, C])) (Nat.le_trans (Nat.le_add_right _ (pend E)) I.out), I.errs, I.buf, I.dr, I.last, ⟨_, rfl⟩⟩
    refine ⟨IC, ?_⟩
    have r1 := (Reach.stepH (cs := cs) (A := E) rfl (ready_st hdn rfl) K I).2
    have r2 := (Reach.stepH (cs := cs) (A := C) rfl (ready_st hdn rfl) K IC).2
    rw [r1, r2, hA E rfl]
  rw [← hqd] at hT
  exact ⟨C', (R1.trans hEC).trans R2, hT, g3⟩
theorem lawTag_names (q : Nat) : (lawTag cs q).1 = (tagL [] q (cs.drop q)).1 ∧ (lawTag cs q).2.2 = (tagL [] q (cs.drop q)).2.2 := by
  unfold lawTag
  split <;> exact ⟨rfl, rfl⟩
/-- an element's turn -/
theorem turn_law (A : Abs) (k : Kd) (name : List Nat) (hname : ∀ x ∈ name, x = 97 ∨ x = 116) (hne : name ≠ []) (hdn : A.done = false) (hdr : A.dr = none) (hp : A.pos ≤ cs.length) (K : Nat) (I : Inv cs K (startA A (k, name))) :
    let n := endL name (cs.drop A.pos)
    let out2 := A.out ++ [startD name] ++ ((cs.drop A.pos).take n).map chN
    let errs2 := A.errs ++ nulls A.pos ((cs.drop A.pos).take n)
    let t := lawTag cs (A.pos + n + 2 + name.length)
    let F := fin cs (startA A (k, name))
    Inv cs K F ∧ if A.pos + n = cs.length then resOf F = ⟨out2 ++ [eofD], errs2, A.pos + n + 1, .held k, true, name⟩
    else if t.2.2 = cs.length then resOf F = ⟨out2 ++ [eofD], errs2 ++ t.2.1, t.2.2 + 1, if slash cs cs.length then .sol else .ba, true, name⟩
    else F.out = out2 ++ [endD name t.1 (slash cs t.2.2)] ∧ F.errs = errs2 ++ t.2.1 ∧ F.pos = t.2.2 + 1 ∧ F.st = .data ∧ F.done = false ∧ F.last = name ∧ F.dr = none ∧ F.pos ≤ cs.length := by
  intro n out2 errs2 t F
  obtain ⟨B, R, hBp, hBd, hBs, hBn, hBr, hBl, hBo, hBe⟩ := content (cs := cs) (k := k) hname _ _ (startA A (k, name)) (Nat.le_refl _) rfl rfl hdn hdr rfl
  have hBp' : B.pos = A.pos + n := hBp
  have hBo' : B.out = out2 := hBo
  have hBe' : B.errs = errs2 := hBe
  have hn : n ≤ cs.length - A.pos := by have := endL_le name (cs.drop A.pos); rw [List.length_drop] at this; exact this
  obtain ⟨IB, eB⟩ := R K I
  by_cases he : A.pos + n = cs.length
  · rw [if_pos he]
    have hnone : cs[B.pos]? = none := by rw [hBp', he]; exact List.getElem?_eq_none_iff.mpr (Nat.le_refl _)
    have s : stepA cs B = eof B B.pos := by
      rw [stepA_held hBs]
      unfold stHeld
      rw [hnone]
    obtain ⟨I2, e2⟩ := Reach.stepH s (ready_st hBn (by rw [hBs]; rfl)) K IB
    have e3 : F = eof B B.pos := (eB.trans e2).trans (fin_off rfl)
    refine ⟨e3 ▸ I2, ?_⟩
    rw [e3]
    show (⟨B.out ++ [eofD], B.errs, B.pos + 1, B.st, true, B.last⟩ : Res) = _
    rw [hBo', hBe', hBp', hBs, hBl]
  · rw [if_neg he]
    have hh : hitL name (cs.drop B.pos) = true := by
      have q := endL_hit name (cs.drop A.pos) (by rw [List.length_drop]; show n < _; omega)
      rw [hBd]
      exact q
    obtain ⟨C, R2, hT, hq⟩ := into_tag (cs := cs) (k := k) hname hne B hh hBs hBn hBl
    rw [hBp'] at hT hq
    obtain ⟨I2, e2⟩ := R2 K IB
    obtain ⟨t1, t2, t3⟩ := hT
    obtain ⟨u1, u2⟩ := lawTag_names (cs := cs) (A.pos + n + 2 + name.length)
    have u1' : t.1 = _ := u1
    have u2' : t.2.2 = _ := u2
    rw [← u1', ← u2'] at t3
    rw [← u2'] at t2
    by_cases hf : t.2.2 = cs.length
    · rw [if_pos hf] at t3 ⊢
      obtain ⟨v1, v2, v3, v4⟩ := t3
      have e3 : F = C := (eB.trans e2).trans (fin_off (by unfold readyA; rw [v3]; rfl))
      refine ⟨e3 ▸ I2, ?_⟩
      rw [e3]
      have ht : t.2.1 = (tagL [] (A.pos + n + 2 + name.length) (cs.drop (A.pos + n + 2 + name.length))).2.1 ++ [erD eofE t.2.2] := by
        have hf' := hf
        rw [u2'] at hf'
        show (lawTag cs _).2.1 = _
        unfold lawTag
        rw [if_pos hf', u2']
      show (⟨C.out, C.errs, C.pos, C.st, C.done, C.last⟩ : Res) = _
      rw [v1, v2, t2, v3, v4, t1, hBo', hBe', hBl, ht, hf, List.append_assoc errs2]
    · rw [if_neg hf] at t3 ⊢
      obtain ⟨v1, v2, v3, v4, v5⟩ := t3
      have e3 : F = C := (eB.trans e2).trans (fin_off (by unfold readyA; rw [v4]; simp [isData]))
      refine ⟨e3 ▸ I2, ?_⟩
      rw [e3]
      have ht : t.2.1 = (tagL [] (A.pos + n + 2 + name.length) (cs.drop (A.pos + n + 2 + name.length))).2.1 ++ (if t.1 = [] then [] else [erD attrE t.2.2]) ++ (if slash cs t.2.2 then [erD solE t.2.2] else []) := by
        have hf' := hf
        rw [u2'] at hf'
        show (lawTag cs _).2.1 = _
        unfold lawTag
        rw [if_neg hf', u2', u1']
      refine ⟨by rw [v1, hBo'], ?_, t2, v4, v3, by rw [t1, hBl], v5, I2.pos v3⟩
      rw [v2, hBe', ht]
      simp only [List.append_assoc]
/-- the machine reads as the law reads -/
theorem law_read : ∀ (els : List (Kd × List Nat)) (A : Abs) (K : Nat), (∀ e ∈ els, ElOk e) → A.done = false → A.dr = none → A.st = .data → A.pos ≤ cs.length → cs.length ≤ 40 → A.out.length ≤ A.pos + K → A.errs.length ≤ 2 * A.pos → A.buffer.length ≤ A.pos →
    resOf (lawA cs els A) = readL cs els A.out A.errs A.pos A.last
  | [], A, K, _, hdn, hdr, hst, hp, hc, ho, he, hb => by
    show (⟨A.out, A.errs, A.pos, A.st, A.done, A.last⟩ : Res) = _
    rw [hst, hdn]
    rfl
  | (k, name) :: r, A, K, hok, hdn, hdr, hst, hp, hc, ho, he, hb => by
    obtain ⟨hne, hname⟩ := (hok _ (.head _)).of
    have I : Inv cs (K + 1) (startA A (k, name)) := ⟨hc, fun _ => hp, by simp [startA, pend]; omega, he, hb, (fun d h => by rw [show (startA A (k, name)).dr = A.dr from rfl, hdr] at h; cases h), hne, hdr⟩
    obtain ⟨IF, h⟩ := turn_law A k name hname hne hdn hdr hp (K + 1) I
    show resOf (if (fin cs (startA A (k, name))).done then fin cs (startA A (k, name)) else lawA cs r (fin cs (startA A (k, name)))) = _
    unfold readL
    dsimp only at h ⊢
    by_cases h1 : A.pos + endL name (cs.drop A.pos) = cs.length
    · rw [if_pos h1] at h ⊢
      have hd : (fin cs (startA A (k, name))).done = true := congrArg Res.done h
      rw [hd, if_pos rfl]
      exact h
    · rw [if_neg h1] at h ⊢
      by_cases h2 : (lawTag cs (A.pos + endL name (cs.drop A.pos) + 2 + name.length)).2.2 = cs.length
      · rw [if_pos h2] at h ⊢
        have hd : (fin cs (startA A (k, name))).done = true := congrArg Res.done h
        rw [hd, if_pos rfl]
        exact h
      · rw [if_neg h2] at h ⊢
        obtain ⟨w1, w2, w3, w4, w5, w6, w7, w8⟩ := h
        rw [w5, if_neg (by decide)]
        have ho' := IF.out
        rw [show pend (fin cs (startA A (k, name))) = 0 by unfold pend; rw [w4]] at ho'
        have ih := law_read r (fin cs (startA A (k, name))) (K + 1) (fun e he => hok e (.tail _ he)) w5 w7 w4 w8 hc (by omega) IF.errs IF.buf
        rw [ih, w1, w2, w3, w6]
end
end
section
open PySem PySem.W PyProof.Rows PyProof.V PySem.Spec PySem.Calls
theorem tail_low : ∀ (name r : List Nat), tailHit name r = true ↔ (r.map lowA).take name.length = name ∧ ∃ c, r[name.length]? = some c ∧ isStop c = true
  | [], [] => by simp [tailHit]
  | [], c :: r => by simp [tailHit]
  | x :: ns, [] => by simp [tailHit]
  | x :: ns, c :: r => by
    unfold tailHit
    rw [Bool.and_eq_true, beq_iff_eq, tail_low ns r]
    simp only [List.map_cons, List.length_cons, List.take_succ_cons, List.cons.injEq, List.getElem?_cons_succ, and_assoc]
theorem low60 (x : Nat) : lowA x = 60 ↔ x = 60 := by unfold lowA; split <;> (try split) <;> omega
theorem low47 (x : Nat) : lowA x = 47 ↔ x = 47 := by unfold lowA; split <;> (try split) <;> omega
theorem hit_low (name l : List Nat) : hitL name l = true ↔ (l.map lowA).take (name.length + 2) = 60 :: 47 :: name ∧ ∃ c, l[name.length + 2]? = some c ∧ isStop c = true := by
  match l with
  | [] => simp [hitL]
  | [x] => simp [hitL]
  | x :: y :: r =>
    have e : hitL name (x :: y :: r) = true ↔ x = 60 ∧ y = 47 ∧ tailHit name r = true := by
      constructor
      · intro h
        obtain ⟨r', h1, h2⟩ := hit_split h
        cases h1
        exact ⟨rfl, rfl, h2⟩
      · rintro ⟨rfl, rfl, h⟩
        exact h
    rw [e, tail_low]
    simp only [List.map_cons, List.take_succ_cons, List.cons.injEq, List.getElem?_cons_succ, low60, low47, and_assoc]
theorem endL_first (name : List Nat) : ∀ (l : List Nat) (i : Nat), (∀ j, j < i → hitL name (l.drop j) = false) → (i ≤ l.length) → ((i = l.length ∨ hitL name (l.drop i) = true) → endL name l = i)
  | [], i, _, hl, _ => by simp at hl; subst hl; rfl
  | c :: r, 0, _, _, h => by
    rcases h with h | h
    · simp at h
    · show (if hitL name (c :: r) then 0 else endL name r + 1) = 0
      rw [if_pos (by simpa using h)]
  | c :: r, i + 1, hno, hl, h => by
    have h0 := hno 0 (by omega)
    show (if hitL name (c :: r) then 0 else endL name r + 1) = i + 1
    rw [if_neg (by simpa using h0)]
    rw [endL_first name r i (fun j hj => by simpa using hno (j + 1) (by omega)) (by simpa using hl) (by simpa using h)]
theorem hit_long {name l : List Nat} (h : hitL name l = true) : name.length + 2 < l.length := by
  obtain ⟨_, c, hc, _⟩ := (hit_low name l).mp h
  exact (List.getElem?_eq_some_iff.mp hc).1
/-- the end's place is found, or there is none -/
theorem end_found {cs name : List Nat} {a i : Nat} (hno : ∀ j, j < i → hitL name (cs.drop (a + j)) = false) (h : hitL name (cs.drop (a + i)) = true) : a + endL name (cs.drop a) = a + i := by
  have hl := hit_long h
  rw [List.length_drop] at hl
  rw [endL_first name (cs.drop a) i (fun j hj => by rw [List.drop_drop]; exact hno j hj) (by rw [List.length_drop]; omega) (.inr (by rw [List.drop_drop]; exact h))]
theorem end_none {cs name : List Nat} {a : Nat} (ha : a ≤ cs.length) (hno : ∀ j, a + j + (name.length + 2) < cs.length → hitL name (cs.drop (a + j)) = false) : a + endL name (cs.drop a) = cs.length := by
  rw [endL_first name (cs.drop a) (cs.length - a) (fun j hj => ?_) (by rw [List.length_drop]; omega) (.inl (by rw [List.length_drop]))]
  · omega
  · rw [List.drop_drop]
    cases hh : hitL name (cs.drop (a + j)) with
    | false => rfl
    | true =>
      have hl := hit_long hh
      rw [List.length_drop] at hl
      rw [← hh]
      exact hno j (by omega)
end
section
open PySem PySem.W PyProof.Rows PyProof.V PySem.Spec PySem.Calls
/-! data that a deep comparison can read, bools too -/
noncomputable def okD : Nat → Dat → Bool
  | _, .none => true
  | _, .bool _ => true
  | _, .int _ => true
  | _, .str x => PyData.strOk x
  | n + 1, .tuple ds => ds.all (okD n)
  | n + 1, .list ds => ds.all (okD n)
  | _, _ => false
section
variable {h₀ h : Heap} {L : Addr} {news : Led}
mutual
theorem okD_in (N : News h₀ L h news) : ∀ {v : Value} {d : Dat} (n : Nat), DatIn news v d → okD n d = true → ∃ as, Reads h v (kqdP d) as
  | _, _, _, .none, _ => ⟨_, Reads.none⟩
  | _, _, _, .bool b, _ => ⟨_, Reads.bool b⟩
  | _, _, _, .int i t, _ => ⟨_, Reads.int i t⟩
  | _, _, _, .str x t, _ => ⟨_, Reads.str x t⟩
  | _, _, n, .bytes _ _, hk => by cases n <;> simp [okD] at hk
  | _, _, 0, .tuple _ _, hk => by simp [okD] at hk
  | _, _, 0, .list _ _, hk => by simp [okD] at hk
  | _, _, n + 1, .tuple hm r, hk => by
    obtain ⟨as, q⟩ := okD_all N n r (by simpa [okD] using hk)
    rw [kqdP]
    exact ⟨as, reads_tuple_at (N.get hm) rfl rfl (by simpa using q)⟩
  | _, _, n + 1, .list hm r, hk => by
    obtain ⟨as, q⟩ := okD_all N n r (by simpa [okD] using hk)
    rw [kqdP]
    exact ⟨_, reads_list_at (N.get hm) rfl rfl (by simpa [W.listOf] using q)⟩
theorem okD_all (N : News h₀ L h news) : ∀ {vs : List Value} {ds : List Dat} (n : Nat), DatAll news vs ds → (∀ d ∈ ds, okD n d = true) → ∃ as, ReadsAll h vs (kqdPs ds) as
  | _, _, _, .nil, _ => ⟨_, ReadsAll.nil⟩
  | _, _, n, .cons hd r, hk => by
    obtain ⟨as, q⟩ := okD_in N n hd (hk _ (.head _))
    obtain ⟨bs, p⟩ := okD_all N n r fun d hm => hk d (.tail _ hm)
    rw [kqdPs]
    exact ⟨_, ReadsAll.cons q p⟩
end
end
theorem okD_lay : ∀ (n : Nat) (d : Dat), okD n d = true → (kqdP d).canLay0 = true ∧ (kqdP d).depth ≤ n := by
  have all : ∀ (n : Nat), (∀ d, okD n d = true → (kqdP d).canLay0 = true ∧ (kqdP d).depth ≤ n) → ∀ ds : List Dat, (∀ d ∈ ds, okD n d = true) → PyData.canLayAll0 (kqdPs ds) = true ∧ PyData.depthAll (kqdPs ds) ≤ n := by
    intro n ih ds
    induction ds with
    | nil => intro _; simp [kqdPs, PyData.canLayAll0, PyData.depthAll]
    | cons d ds hi =>
      intro h
      have h1 := ih d (h d (.head _))
      have h2 := hi fun e he => h e (.tail _ he)
      simp only [kqdPs, PyData.canLayAll0, PyData.depthAll, h1.1, h2.1, Bool.and_self, true_and]
      have a1 := h1.2
      have a2 := h2.2
      omega
  intro n
  induction n with
  | zero =>
    intro d h
    cases d <;> simp_all [okD, kqdP, PyData.canLay0, PyData.depth]
  | succ n ih =>
    intro d h
    cases d with
    | none => simp [kqdP, PyData.canLay0, PyData.depth]
    | bool b => simp [kqdP, PyData.canLay0, PyData.depth]
    | int i => simp [kqdP, PyData.canLay0, PyData.depth]
    | str x => simp [okD] at h; simp [kqdP, PyData.canLay0, PyData.depth, h]
    | bytes b => simp [okD] at h
    | tuple ds =>
      have q := all n ih ds (by simpa [okD] using h)
      have q2 := q.2
      simp only [kqdP, PyData.canLay0, PyData.depth, q.1, true_and]
      omega
    | list ds =>
      have q := all n ih ds (by simpa [okD] using h)
      have q2 := q.2
      simp only [kqdP, PyData.canLay0, PyData.depth, q.1, true_and]
      omega
/-- two objects of the same data are equal -/
theorem eq_okD {prog : Program} {w : World} {A : Around} {E : Value → Shared → Prop} {s : Shared} {h₀ : Heap} {L : Addr} {news : Led} {va vb : Value} {d : Dat} {Q : Value → Shared → Prop} (N : News h₀ L s.heap news) (Da : DatIn news va d) (Db : DatIn news vb d) (hk : okD 8 d = true) (hu : A.units + 64 < cLine) (h : Q (.bool true) s) :
    wpAny (model prog w) A (compareOp .Eq va vb) Q E s := by
  obtain ⟨as, ra⟩ := okD_in N 8 Da hk
  obtain ⟨bs, rb⟩ := okD_in N 8 Db hk
  have l := okD_lay 8 d hk
  have sh : PySem.SeqAt.shaped (kqdP d) = true := by unfold PySem.SeqAt.shaped; rw [l.1, Bool.true_and]; exact decide_eq_true (Nat.le_trans l.2 (by decide))
  refine eq_dataH ra rb sh sh hu ?_
  rw [PySem.SeqAt.eqv_refl _ l.1]
  exact h
/-- what is read, as data -/
noncomputable def resD (r : Res) : Dat := .tuple [.list r.out, .list r.errs, .int r.pos, .str (stS r.st), .bool r.done, .str (tx r.last)]
theorem strOk_tx {l : List Nat} (h : ∀ c ∈ l, c < 1114112) : PyData.strOk (tx l) = true := by
  simpa [PyData.strOk] using h
theorem strOk_sg {c : Nat} (h : c < 1114112) : PyData.strOk (sg c) = true := by
  simp [PyData.strOk, h]
theorem okD_name {e : Kd × List Nat} (h : ElOk e) : PyData.strOk (tx e.2) = true := strOk_tx fun c hc => by
  have := h.of.2 c hc
  omega
theorem okD_ch {c : Nat} (h : c < 1114112) : okD 6 (chN c) = true := by
  have e : PyData.strOk (Str.ofString "char") = true := by decide +kernel
  have h2 : (if c = 0 then 0xFFFD else c) < 1114112 := by split <;> omega
  show ([Dat.str (Str.ofString "char"), Dat.str (sg (if c = 0 then 0xFFFD else c))].all (okD 5)) = true
  simp only [List.all_cons, List.all_nil, okD, e, strOk_sg h2, Bool.and_self]
theorem okD_er {x : PySem.Str} {p : Nat} (h : PyData.strOk x = true) : okD 6 (erD x p) = true := by
  show ([Dat.str x, Dat.int p].all (okD 5)) = true
  simp only [List.all_cons, List.all_nil, okD, h, Bool.and_self]
theorem okD_start {n : List Nat} (h : PyData.strOk (tx n) = true) : okD 6 (startD n) = true := by
  have e : PyData.strOk (Str.ofString "start") = true := by decide +kernel
  show ([Dat.str (Str.ofString "start"), Dat.str (tx n), Dat.tuple [], Dat.bool false].all (okD 5)) = true
  simp only [List.all_cons, List.all_nil, okD, h, e, Bool.and_self]
theorem okD_end {n ks : List Nat} {b : Bool} (h : PyData.strOk (tx n) = true) (hk : ∀ c ∈ ks, c < 1114112) : okD 6 (endD n ks b) = true := by
  have e : PyData.strOk (Str.ofString "end") = true := by decide +kernel
  have e2 : PyData.strOk (Str.ofString "") = true := by decide +kernel
  have q : (ks.map atD).all (okD 4) = true := by
    rw [List.all_map, List.all_eq_true]
    intro c hc
    show ([Dat.str (sg c), Dat.str (Str.ofString "")].all (okD 3)) = true
    simp only [List.all_cons, List.all_nil, okD, strOk_sg (hk c hc), e2, Bool.and_self]
  show ([Dat.str (Str.ofString "end"), Dat.str (tx n), Dat.tuple (ks.map atD), Dat.bool b].all (okD 5)) = true
  simp only [List.all_cons, List.all_nil, okD, h, e, q, Bool.and_self]
theorem okD_nulls : ∀ (l : List Nat) (p : Nat), ∀ d ∈ nulls p l, okD 6 d = true
  | [], _, d, h => by cases h
  | c :: r, p, d, h => by
    unfold nulls at h
    rcases List.mem_append.mp h with h | h
    · split at h
      · rw [List.mem_singleton.mp h]; exact okD_er (by decide +kernel)
      · cases h
    · exact okD_nulls r (p + 1) d h
theorem okD_tagL : ∀ (l names : List Nat) (p : Nat), (∀ c ∈ l, c < 1114112) → (∀ c ∈ names, c < 1114112) → (∀ c ∈ (tagL names p l).1, c < 1114112) ∧ ∀ d ∈ (tagL names p l).2.1, okD 6 d = true
  | [], names, p, _, h2 => ⟨h2, fun d h => nomatch h⟩
  | c :: r, names, p, h1, h2 => by
    have hr : ∀ x ∈ r, x < 1114112 := fun x hx => h1 x (.tail _ hx)
    have i1 := okD_tagL r names (p + 1) hr h2
    have i2 := okD_tagL r (names ++ [c]) (p + 1) hr fun x hx => (List.mem_append.mp hx).elim (h2 x) fun hx => by rw [List.mem_singleton.mp hx]; exact h1 c (.head _)
    unfold tagL
    split
    · exact ⟨h2, fun d h => nomatch h⟩
    · split
      · refine ⟨i1.1, fun d h => ?_⟩
        rcases List.mem_cons.mp h with rfl | h
        · exact okD_er (by decide +kernel)
        · exact i1.2 d h
      · split
        · exact i1
        · exact i2
theorem okD_lawTag {cs : List Nat} (a : Nat) (hc : ∀ c ∈ cs, c < 1114112) : (∀ c ∈ (lawTag cs a).1, c < 1114112) ∧ ∀ d ∈ (lawTag cs a).2.1, okD 6 d = true := by
  obtain ⟨t1, t2⟩ := okD_tagL (cs.drop a) [] a (fun c h => hc c (List.mem_of_mem_drop h)) (fun _ h => nomatch h)
  unfold lawTag
  split
  · refine ⟨t1, fun d h => ?_⟩
    rcases List.mem_append.mp h with h | h
    · exact t2 d h
    · rw [List.mem_singleton.mp h]; exact okD_er (by decide +kernel)
  · refine ⟨t1, fun d h => ?_⟩
    rcases List.mem_append.mp h with h | h
    · rcases List.mem_append.mp h with h | h
      · exact t2 d h
      · split at h
        · cases h
        · rw [List.mem_singleton.mp h]; exact okD_er (by decide +kernel)
    · split at h
      · rw [List.mem_singleton.mp h]; exact okD_er (by decide +kernel)
      · cases h
structure OkR (r : Res) : Prop where
  o : ∀ d ∈ r.out, okD 6 d = true
  e : ∀ d ∈ r.errs, okD 6 d = true
  l : PyData.strOk (tx r.last) = true
theorem okD_eof : okD 6 eofD = true := by decide +kernel
theorem okD_app {a b : List Dat} (h1 : ∀ d ∈ a, okD 6 d = true) (h2 : ∀ d ∈ b, okD 6 d = true) : ∀ d ∈ a ++ b, okD 6 d = true := fun d h => (List.mem_append.mp h).elim (h1 d) (h2 d)
theorem okD_one {a : Dat} (h : okD 6 a = true) : ∀ d ∈ [a], okD 6 d = true := fun d hd => by rw [List.mem_singleton.mp hd]; exact h
theorem okD_read {cs : List Nat} (hc : ∀ c ∈ cs, c < 1114112) : ∀ (els : List (Kd × List Nat)) (out errs : List Dat) (p : Nat) (last : List Nat), (∀ e ∈ els, ElOk e) → (∀ d ∈ out, okD 6 d = true) → (∀ d ∈ errs, okD 6 d = true) → PyData.strOk (tx last) = true → OkR (readL cs els out errs p last)
  | [], out, errs, p, last, _, ho, he, hl => ⟨ho, he, hl⟩
  | (k, name) :: r, out, errs, p, last, hel, ho, he, hl => by
    have hnm := okD_name (hel _ (.head _))
    have ho2 : ∀ d ∈ out ++ [startD name] ++ ((cs.drop p).take (endL name (cs.drop p))).map chN, okD 6 d = true := by
      refine okD_app (okD_app ho (okD_one (okD_start hnm))) fun d h => ?_
      obtain ⟨c, hm, rfl⟩ := List.mem_map.mp h
      exact okD_ch (hc c (List.mem_of_mem_drop (List.mem_of_mem_take hm)))
    have he2 : ∀ d ∈ errs ++ nulls p ((cs.drop p).take (endL name (cs.drop p))), okD 6 d = true := okD_app he (okD_nulls _ _)
    have ht := okD_lawTag (cs := cs) (p + endL name (cs.drop p) + 2 + name.length) hc
    unfold readL
    dsimp only
    split
    · exact ⟨okD_app ho2 (okD_one okD_eof), he2, hnm⟩
    · split
      · exact ⟨okD_app ho2 (okD_one okD_eof), okD_app he2 ht.2, hnm⟩
      · exact okD_read hc r _ _ _ _ (fun e h => hel e (.tail _ h)) (okD_app ho2 (okD_one (okD_end hnm ht.1))) (okD_app he2 ht.2) hnm
theorem okD_res {r : Res} (h : OkR r) : okD 8 (resD r) = true := by
  have e : PyData.strOk (stS r.st) = true := by
    cases r.st with
    | held k => cases k <;> decide +kernel
    | lt k => cases k <;> decide +kernel
    | eto k => cases k <;> decide +kernel
    | etn k => cases k <;> decide +kernel
    | ref => decide +kernel
    | ba => decide +kernel
    | sol => decide +kernel
    | data => decide +kernel
  have h1 : r.out.all (okD 6) = true := List.all_eq_true.mpr h.o
  have h2 : r.errs.all (okD 6) = true := List.all_eq_true.mpr h.e
  show ([Dat.list r.out, Dat.list r.errs, Dat.int r.pos, Dat.str (stS r.st), Dat.bool r.done, Dat.str (tx r.last)].all (okD 7)) = true
  simp only [List.all_cons, List.all_nil, okD, h1, h2, e, h.l, Bool.and_self]
end
local macro_rules | `(tactic| k_all) => `(tactic| first | with_reducible assumption | exact List.forall_mem_nil _ | (refine' all_ne ?a ?b; (case a => k_ne); (case b => k_all)) | (refine all_app ?a ?b; (case a => k_all); (case b => k_all)))
set_option hygiene false
local macro_rules | `(tactic| walk_at "call builtin:len") => `(tactic| (k_here; (with_reducible show wpAny _ _ (call (Value.builtin "len") [Value.ref _]) _ _ _); (refine len_list (News.isList (by k_asm) (by k_dflt k_mem)) (by simp only [List.size_toArray]; omega) ?_)))
set_option hygiene true
local macro_rules | `(tactic| walk_at "rr0") => `(tactic| (k_here; (with_reducible show wpAny _ _ (subscriptTail _ _ (Value.ref _) (Value.int _ _)) _ _ _); (with_unfolding_all refine' item_at ?k1 ?k2 ?k3 ?k4 ?k6 ?_; (case k1 => exact News.isList (by k_asm) (by k_dflt k_mem)); (case k2 => omega); (case k3 => omega); (case k4 => first | assumption | exact rfl); (case k6 => with_unfolding_all rfl); k_whole)))
set_option hygiene false
local macro_rules | `(tactic| walk_at "subscriptTail") => `(tactic| walk_at "rr0")
local macro_rules | `(tactic| walk_at "subscriptTail Name Constant ref int") => `(tactic| walk_at "rr0")
local macro_rules | `(tactic| walk_at "subscriptTail Name Name ref int") => `(tactic| walk_at "rr0")
set_option hygiene true
local macro_rules | `(tactic| walk_at "sub") => `(tactic| first | exact fun _ h => h | exact List.forall_mem_nil _ | ((refine List.forall_mem_cons.mpr ⟨?a, ?b⟩); (case a => k_mem); (case b => walk_at "sub")) | (intro p hp; (repeat (first | assumption | apply List.Mem.tail))))
local macro_rules | `(tactic| walk_at "call builtin:list.append") => `(tactic| (k_here; (with_reducible show wpAny _ _ (call (Value.builtin _) [Value.ref _, _]) _ _ _); k_dflt (refine' append_L ?k1 ?k2 ?k3 ?z ?_; (case k1 => k_asm); (case k2 => k_asm); (case k3 => k_upd); (case z => first | omega | (simp only [List.length_append, List.length_cons, List.length_nil]; omega)); k_whole); intro h' F' N'; (try k_sweep)))
set_option hygiene false
local macro_rules | `(tactic| walk_at "pyIter ref") => `(tactic| refine hold_out ?_)
local macro_rules | `(tactic| walk_at "pyIter str") => `(tactic| refine hold_out ?_)
set_option hygiene true
local macro_rules | `(tactic| walk_at "rr1") => `(tactic| (k_here; (with_reducible rename Fr _ _ _ _ => lF'); (with_unfolding_all refine' For_invVF lF' ?k1 ?k2 ?_; (case k1 => exact rfl); (case k2 => exact rfl); k_whole)))
set_option hygiene false
local macro_rules | `(tactic| walk_at "exec For Name Name cons nil") => `(tactic| walk_at "rr1")
local macro_rules | `(tactic| walk_at "exec For Name Call cons nil") => `(tactic| walk_at "rr1")
local macro_rules | `(tactic| walk_at "exec For Name Attribute cons nil") => `(tactic| walk_at "rr1")
set_option hygiene true
local macro_rules | `(tactic| walk_at "call ref") => `(tactic| (k_here; k_dflt (refine' call_clsN ?B ?F ?X ?N ?T ?hh ?hA ?hf ?hk ?hd ?hu ?hm ?hi ?hfn ?ho ?hcd ?hb ?hs ?_; walk_at "sd"; (case hd => assumption); (case hu => assumption); (case hm => k_is); (case hi => k_is); (case hfn => k_is); (case ho => k_is); (case hcd => k_is); (case hb => exact fun _ _ => BindsTo.of_eq rfl); (case hs => exact rfl); k_whole); intro x' d' A1 A2 g' L' h' q' tk' l1 l2 F' N' B' X' T' hh' hA' hd' hu' H'; (try k_lt l1); (try k_lt2 l2); (try dsimp only)))
local macro_rules | `(tactic| walk_at "call ref") => `(tactic| (k_here; k_dflt (refine' call_defN ?B ?F ?X ?N ?T ?hh ?hA ?hf ?hk ?hd ?hu ?ho ?hcd ?hb ?hs ?_; walk_at "sd"; (case hd => assumption); (case hu => assumption); (case ho => k_is); (case hcd => k_is); (case hb => exact BindsTo.of_eq rfl); (case hs => exact rfl); k_whole); intro A1 g' L' h' q' tk' F' N' B' X' T' hh' hA' hd' hu' H'; (try dsimp only)))
local macro_rules | `(tactic| walk_at "call ref") => `(tactic| ((with_reducible refine hold_ref ?_ ?ha); (case ha => k_dflt decide)))
local macro_rules | `(tactic| walk_at "call ref cons nil") => `(tactic| ((with_reducible refine hold_ref ?_ ?ha); (case ha => k_dflt decide)))
set_option hygiene false
local macro_rules | `(tactic| walk_at "sd") => `(tactic| ((case hA => first | with_reducible assumption | exact rfl); (case hf => exact rfl); (case F => k_asm); (case B => k_asm); (case X => k_asm); (case N => k_asm); (case T => k_asm); (case hh => first | with_reducible assumption | exact rfl); (case hk => exact rfl)))
local macro_rules | `(tactic| walk_at "sides") => `(tactic| (walk_at "sd"; (case hd => ktr_room); (case hu => ktr_units)))
local macro_rules | `(tactic| walk_at "callWith") => `(tactic| (k_here; (with_reducible show wpAny _ _ (callWith _ (Value.builtin "list.append") _ _ _) _ _ _); k_dflt (refine callWith_method1 ?_)))
local macro_rules | `(tactic| k_in) => `(tactic| with_reducible exact in_of (by assumption) (by assumption))
set_option hygiene true
local macro_rules | `(tactic| walk_at "eval Call") => `(tactic| (k_here; (with_reducible refine call_named ?e ?_); (case e => k_dflt exact rfl)))
set_option hygiene false
local macro_rules | `(tactic| walk_at "execs cons") => `(tactic| (k_here; first | (with_reducible refine execs_last ?_) | ((with_reducible refine execs_consN ?_); intro q9 H9)))
local macro_rules | `(tactic| walk_at "Nx") => `(tactic| first | refine nx_next (by with_reducible assumption) ?_ | refine nx_ret (by with_reducible assumption) ?_ | (refine lv_ret (by with_reducible assumption) (by with_reducible assumption) (by with_reducible assumption) ?_; intro kF kN; (try dsimp only at kF kN); (try dsimp only [InitBack])) | (refine lv_next (by with_reducible assumption) (by with_reducible assumption) (by with_reducible assumption) ?_; intro kF kN; (try dsimp only at kF kN); (try dsimp only [InitBack]); (try refine ⟨rfl, ?_⟩)) | refine nx_brk (by with_reducible assumption) ?_ | refine nx_cont (by with_reducible assumption) ?_)
local macro_rules | `(tactic| wrow_close) => `(tactic| ((with_reducible show Nx _ _ _); walk_at "Nx"))
set_option hygiene true
local macro_rules | `(tactic| walk_at "storeName") => `(tactic| (k_here; k_dflt (refine' storeN ?F ?N ?_ ?a ?b; (case F => k_asm); (case N => k_asm); (case a => exact rfl); (case b => exact rfl); k_whole); intro h' F' N'; (try k_sweep)))
local macro_rules | `(tactic| k_lt $h:ident) => `(tactic| (replace $h := allLt_of $h; dsimp only [AllLt] at $h:ident))
set_option hygiene false
local macro_rules | `(tactic| walk_at "lt1") => `(tactic| first | with_reducible assumption | (refine Nat.lt_trans (by with_reducible assumption) ?_; walk_at "lt1"))
set_option hygiene true
local macro_rules | `(tactic| k_upd) => `(tactic| first | (refine' Upd.head ?a; (case a => k_all)) | (refine' upd_ne ?a ?b; (case a => k_ne); (case b => k_upd)))
set_option hygiene false
local macro_rules | `(tactic| k_ne) => `(tactic| (first | with_reducible assumption | exact Nat.ne_of_lt (by walk_at "lt1") | exact Nat.ne_of_gt (by walk_at "lt1") | exact Nat.ne_of_gt (by walk_at "al") | exact Nat.ne_of_lt (by walk_at "al") | omega))
local macro_rules | `(tactic| ktr_units) => `(tactic| ktr_room)
local macro_rules | `(tactic| ktr_room) => `(tactic| first | exact room_at (by with_reducible assumption) rfl | exact lt_dec rfl)
local macro_rules | `(tactic| k_room) => `(tactic| ktr_room)
local macro_rules | `(tactic| walk_at "fit") => `(tactic| first | with_reducible assumption | with_reducible exact sg_fit _ | (with_reducible refine lit_fit ?_; kernel_rfl))
set_option hygiene true
local macro_rules | `(tactic| walk_at "binaryOp Add str str") => `(tactic| (k_here; (fail_if_success (with_reducible show wpAny _ _ (binaryOp _ (Value.str (Str.ofString _) _) (Value.str (Str.ofString _) _)) _ _ _)); (with_reducible refine' PyProof.Rows.add_str ?h (add_fit ?a ?b)); (case a => walk_at "fit"); (case b => walk_at "fit"); intro tz9 tk9))
set_option hygiene false
local macro_rules | `(tactic| walk_at "InvPostG") => `(tactic| (refine (id ?_ : InvPostG _ _ _ _ _ _ _ _); dsimp only [InvPostG]))
set_option hygiene true
example : ∀ P h, (PySem.Challenge.rw_nt0604_01.Holds ∧ (hd.heap_39 P).In h) → True := by
  k_fill; intro _ _ _; trivial
example : True := by w_top off; trivial
section
theorem next_spec (w : World) (t : Nat) (R : Raw) (cs : List Nat) (rest : Led) (i : Nat) (O : Ord t R) (Z : Off R rest)
    (hs : SignsAre R.vs cs) (hl : cs.length ≤ 64) (hi : R.T.vat = i) (hi' : i ≤ 100) :
    Spec w 341 [.ref t] 10 20 (ML w t R ++ rest)
      (fun v news' => (∃ tk, v = Value.str (signAt cs i) tk) ∧ ∃ tk, news' = ML w t { R with T := { R.T with vat := i + 1, atT := tk } } ++ rest) := by
  obtain ⟨hlen, hget⟩ := hs
  obtain ⟨o1, o2, o3, o4, o5, o6⟩ := O
  obtain ⟨f1, f2, f3⟩ := Z
  rcases h : cs[i]? with _ | c
  · have hb := List.getElem?_eq_none_iff.mp h
    (k_dflt (refine' spec_def ?ho ?hcd ?hb ?hs ?_; (case ho => k_is); (case hcd => k_is); (case hb => exact fun _ => BindsTo.of_eq rfl); (case hs => exact rfl); k_whole); intro meanZ9 mgZ9 mbZ9 AZ9 A₀Z9 outerZ9 baseZ9 gZ9 LZ9 sZ9 qZ9 F'Z9 N'Z9 B'Z9 X'Z9 T'Z9 hhZ9 hAZ9 hdZ9 huZ9 hretZ9; (try dsimp only); (try simp only [List.cons_append, List.nil_append, List.append_assoc] at N'Z9))
    k_steps
    ((with_reducible rename RetE _ _ _ _ => hret9); (first | refine fin_ret hret9 (by assumption) (by assumption) rfl ?_ | refine fin_next hret9 (by assumption) (by assumption) rfl ?_))
    simp only [signAt, h, ← hi]
    exact ⟨⟨_, rfl⟩, _, rfl⟩
  · have hb := (List.getElem?_eq_some_iff.mp h).1
    obtain ⟨tk, hg⟩ := hget i c h
    have hg' : R.vs[R.T.vat.toNat]? = some (Value.str (sg c) tk) := by rw [hi, Int.toNat_natCast]; exact hg
    (k_dflt (refine' spec_def ?ho ?hcd ?hb ?hs ?_; (case ho => k_is); (case hcd => k_is); (case hb => exact fun _ => BindsTo.of_eq rfl); (case hs => exact rfl); k_whole); intro meanZ9 mgZ9 mbZ9 AZ9 A₀Z9 outerZ9 baseZ9 gZ9 LZ9 sZ9 qZ9 F'Z9 N'Z9 B'Z9 X'Z9 T'Z9 hhZ9 hAZ9 hdZ9 huZ9 hretZ9; (try dsimp only); (try simp only [List.cons_append, List.nil_append, List.append_assoc] at N'Z9))
    k_steps
    ((with_reducible rename RetE _ _ _ _ => hret9); (first | refine fin_ret hret9 (by assumption) (by assumption) rfl ?_ | refine fin_next hret9 (by assumption) (by assumption) rfl ?_))
    simp only [signAt, h, ← hi]
    exact ⟨⟨_, rfl⟩, _, rfl⟩
theorem to_spec (w : World) (t : Nat) (R : Raw) (rest : Led) (st : PySem.Str) (stk : Tok) (O : Ord t R) (Z : Off R rest) :
    Spec w 348 [.ref t, .str st stk] 10 20 (ML w t R ++ rest)
      (fun v news' => v = .none ∧ news' = ML w t { R with T := { R.T with state := st, stT := stk } } ++ rest) := by
  obtain ⟨o1, o2, o3, o4, o5, o6⟩ := O
  obtain ⟨f1, f2, f3⟩ := Z
  (k_dflt (refine' spec_def ?ho ?hcd ?hb ?hs ?_; (case ho => k_is); (case hcd => k_is); (case hb => exact fun _ => BindsTo.of_eq rfl); (case hs => exact rfl); k_whole); intro meanZ9 mgZ9 mbZ9 AZ9 A₀Z9 outerZ9 baseZ9 gZ9 LZ9 sZ9 qZ9 F'Z9 N'Z9 B'Z9 X'Z9 T'Z9 hhZ9 hAZ9 hdZ9 huZ9 hretZ9; (try dsimp only); (try simp only [List.cons_append, List.nil_append, List.append_assoc] at N'Z9))
  k_steps
  ((with_reducible rename RetE _ _ _ _ => hret9); (first | refine fin_ret hret9 (by assumption) (by assumption) rfl ?_ | refine fin_next hret9 (by assumption) (by assumption) rfl ?_))
  exact ⟨rfl, rfl⟩
theorem again_spec (w : World) (t : Nat) (R : Raw) (rest : Led) (st : PySem.Str) (stk : Tok) (i : Nat) (hi : R.T.vat = i + 1) (O : Ord t R) (Z : Off R rest) :
    Spec w 355 [.ref t, .str st stk] 10 20 (ML w t R ++ rest)
      (fun v news' => v = .none ∧ ∃ tk, news' = ML w t { R with T := { R.T with state := st, stT := stk, vat := i, atT := tk } } ++ rest) := by
  obtain ⟨o1, o2, o3, o4, o5, o6⟩ := O
  obtain ⟨f1, f2, f3⟩ := Z
  have e : R.T.vat - 1 = i := by omega
  (k_dflt (refine' spec_def ?ho ?hcd ?hb ?hs ?_; (case ho => k_is); (case hcd => k_is); (case hb => exact fun _ => BindsTo.of_eq rfl); (case hs => exact rfl); k_whole); intro meanZ9 mgZ9 mbZ9 AZ9 A₀Z9 outerZ9 baseZ9 gZ9 LZ9 sZ9 qZ9 F'Z9 N'Z9 B'Z9 X'Z9 T'Z9 hhZ9 hAZ9 hdZ9 huZ9 hretZ9; (try dsimp only); (try simp only [List.cons_append, List.nil_append, List.append_assoc] at N'Z9))
  k_steps
  ((with_reducible rename RetE _ _ _ _ => hret9); (first | refine fin_ret hret9 (by assumption) (by assumption) rfl ?_ | refine fin_next hret9 (by assumption) (by assumption) rfl ?_))
  rw [← e]; exact ⟨rfl, _, rfl⟩
theorem error_spec (w : World) (t : Nat) (R : Raw) (rest : Led) (c : PySem.Str) (ct : Tok) (i : Nat) (hi : R.T.vat = i + 1) (O : Ord t R) (Z : Off R rest) (hb : R.ers.length ≤ 1000) :
    Spec w 362 [.ref t, .str c ct] 10 20 (ML w t R ++ rest)
      (fun v news' => v = .none ∧ ∃ p tk, Fresh R.T.errors rest p ∧ news' = ML w t { R with ers := R.ers ++ [.ref p], en := R.en + 1 } ++ ((p, tup [.str c ct, .int i tk]) :: rest)) := by
  obtain ⟨o1, o2, o3, o4, o5, o6⟩ := O
  obtain ⟨f1, f2, f3⟩ := Z
  have e : R.T.vat - 1 = i := by omega
  (k_dflt (refine' spec_def ?ho ?hcd ?hb ?hs ?_; (case ho => k_is); (case hcd => k_is); (case hb => exact fun _ => BindsTo.of_eq rfl); (case hs => exact rfl); k_whole); intro meanZ9 mgZ9 mbZ9 AZ9 A₀Z9 outerZ9 baseZ9 gZ9 LZ9 sZ9 qZ9 F'Z9 N'Z9 B'Z9 X'Z9 T'Z9 hhZ9 hAZ9 hdZ9 huZ9 hretZ9; (try dsimp only); (try simp only [List.cons_append, List.nil_append, List.append_assoc] at N'Z9))
  k_steps
  (with_reducible rename (_ ∧ _ ∧ _ ∧ _ ∧ _ ∧ _ ∧ _ ∧ AllLt _ _) => l1)
  ((with_reducible rename RetE _ _ _ _ => hret9); (first | refine fin_ret hret9 (by assumption) (news_mid7 (by assumption)) rfl ?_ | refine fin_next hret9 (by assumption) (news_mid7 (by assumption)) rfl ?_))
  rw [← e]
  exact ⟨rfl, _, _, ⟨l1.2.2.2.2.2.2.1, allLt_lt l1.2.2.2.2.2.2.2⟩, rfl⟩
theorem emit_sign_spec (w : World) (t : Nat) (R : Raw) (rest : Led) (c : PySem.Str) (ct : Tok) (O : Ord t R) (Z : Off R rest) (hb : R.outs.length ≤ 1000) :
    Spec w 376 [.ref t, .str c ct] 10 20 (ML w t R ++ rest)
      (fun v news' => v = .none ∧ ∃ p tk, Fresh R.T.errors rest p ∧ news' = ML w t { R with outs := R.outs ++ [.ref p], on := R.on + 1 } ++ ((p, tup [.str (PySem.Str.ofString "char") tk, .str c ct]) :: rest)) := by
  obtain ⟨o1, o2, o3, o4, o5, o6⟩ := O
  obtain ⟨f1, f2, f3⟩ := Z
  (k_dflt (refine' spec_def ?ho ?hcd ?hb ?hs ?_; (case ho => k_is); (case hcd => k_is); (case hb => exact fun _ => BindsTo.of_eq rfl); (case hs => exact rfl); k_whole); intro meanZ9 mgZ9 mbZ9 AZ9 A₀Z9 outerZ9 baseZ9 gZ9 LZ9 sZ9 qZ9 F'Z9 N'Z9 B'Z9 X'Z9 T'Z9 hhZ9 hAZ9 hdZ9 huZ9 hretZ9; (try dsimp only); (try simp only [List.cons_append, List.nil_append, List.append_assoc] at N'Z9))
  k_steps
  (with_reducible rename (_ ∧ _ ∧ _ ∧ _ ∧ _ ∧ _ ∧ _ ∧ AllLt _ _) => l1)
  ((with_reducible rename RetE _ _ _ _ => hret9); (first | refine fin_ret hret9 (by assumption) (news_mid7 (by assumption)) rfl ?_ | refine fin_next hret9 (by assumption) (news_mid7 (by assumption)) rfl ?_))
  exact ⟨rfl, _, _, ⟨l1.2.2.2.2.2.2.1, allLt_lt l1.2.2.2.2.2.2.2⟩, rfl⟩
theorem emit_eof_spec (w : World) (t : Nat) (R : Raw) (rest : Led) (O : Ord t R) (Z : Off R rest) (hb : R.outs.length ≤ 1000) :
    Spec w 397 [.ref t] 10 20 (ML w t R ++ rest)
      (fun v news' => v = .none ∧ ∃ p tk, Fresh R.T.errors rest p ∧ news' = ML w t { R with T := { R.T with done := true }, outs := R.outs ++ [.ref p], on := R.on + 1 } ++ ((p, tup [.str (PySem.Str.ofString "eof") tk]) :: rest)) := by
  obtain ⟨o1, o2, o3, o4, o5, o6⟩ := O
  obtain ⟨f1, f2, f3⟩ := Z
  (k_dflt (refine' spec_def ?ho ?hcd ?hb ?hs ?_; (case ho => k_is); (case hcd => k_is); (case hb => exact fun _ => BindsTo.of_eq rfl); (case hs => exact rfl); k_whole); intro meanZ9 mgZ9 mbZ9 AZ9 A₀Z9 outerZ9 baseZ9 gZ9 LZ9 sZ9 qZ9 F'Z9 N'Z9 B'Z9 X'Z9 T'Z9 hhZ9 hAZ9 hdZ9 huZ9 hretZ9; (try dsimp only); (try simp only [List.cons_append, List.nil_append, List.append_assoc] at N'Z9))
  k_steps
  (with_reducible rename (_ ∧ _ ∧ _ ∧ _ ∧ _ ∧ _ ∧ _ ∧ AllLt _ _) => l1)
  ((with_reducible rename RetE _ _ _ _ => hret9); (first | refine fin_ret hret9 (by assumption) (news_mid7 (by assumption)) rfl ?_ | refine fin_next hret9 (by assumption) (news_mid7 (by assumption)) rfl ?_))
  exact ⟨rfl, _, _, ⟨l1.2.2.2.2.2.2.1, allLt_lt l1.2.2.2.2.2.2.2⟩, rfl⟩
end
set_option hygiene false
local macro_rules | `(tactic| walk_at "pad") => `(tactic| skip)
set_option hygiene true
example : True := by w_top off; trivial
section
/-- is_blank -/
noncomputable def blankS (c : PySem.Str) : Bool := [Str.ofString "\t", Str.ofString "\n", Str.ofString "\x0c", Str.ofString " "].any fun x => x == c
/-- is_letter -/
noncomputable def letterS (c : PySem.Str) : Bool := (!decide (c.cps.toList < (Str.ofString "a").cps.toList) && !decide ((Str.ofString "z").cps.toList < c.cps.toList)) || (!decide (c.cps.toList < (Str.ofString "A").cps.toList) && !decide ((Str.ofString "Z").cps.toList < c.cps.toList))
/-- is_upper -/
noncomputable def upperS (c : PySem.Str) : Bool := (!decide (c.cps.toList < (Str.ofString "A").cps.toList) && !decide ((Str.ofString "Z").cps.toList < c.cps.toList))
theorem blank_spec (w : World) (c : PySem.Str) (ct : Tok) (rest : Led) :
    Spec w 28 [.str c ct] 10 20 rest (fun v news' => v = .bool (blankS c) ∧ news' = rest) := by
  (k_dflt (refine' spec_def ?ho ?hcd ?hb ?hs ?_; (case ho => k_is); (case hcd => k_is); (case hb => exact fun _ => BindsTo.of_eq rfl); (case hs => exact rfl); k_whole); intro meanZ9 mgZ9 mbZ9 AZ9 A₀Z9 outerZ9 baseZ9 gZ9 LZ9 sZ9 qZ9 F'Z9 N'Z9 B'Z9 X'Z9 T'Z9 hhZ9 hAZ9 hdZ9 huZ9 hretZ9; (try dsimp only); (try simp only [List.cons_append, List.nil_append, List.append_assoc] at N'Z9))
  k_steps
  ((with_reducible rename RetE _ _ _ _ => hret9); (first | refine fin_ret hret9 (by assumption) (news_tail (by assumption)) rfl ?_ | refine fin_next hret9 (by assumption) (news_tail (by assumption)) rfl ?_))
  exact ⟨rfl, rfl⟩
theorem letter_spec (w : World) (c : PySem.Str) (ct : Tok) (rest : Led) :
    Spec w 42 [.str c ct] 10 20 rest (fun v news' => v = .bool (letterS c) ∧ news' = rest) := by
  (k_dflt (refine' spec_def ?ho ?hcd ?hb ?hs ?_; (case ho => k_is); (case hcd => k_is); (case hb => exact fun _ => BindsTo.of_eq rfl); (case hs => exact rfl); k_whole); intro meanZ9 mgZ9 mbZ9 AZ9 A₀Z9 outerZ9 baseZ9 gZ9 LZ9 sZ9 qZ9 F'Z9 N'Z9 B'Z9 X'Z9 T'Z9 hhZ9 hAZ9 hdZ9 huZ9 hretZ9; (try dsimp only); (try simp only [List.cons_append, List.nil_append, List.append_assoc] at N'Z9))
  k_steps
  all_goals (((with_reducible rename RetE _ _ _ _ => hret9); (first | refine fin_ret hret9 (by assumption) (by assumption) rfl ?_ | refine fin_next hret9 (by assumption) (by assumption) rfl ?_)); exact ⟨by simp [letterS, *], rfl⟩)
theorem lt1 (n m : Nat) : ([n] < [m]) ↔ n < m := by simp [List.cons_lt_cons_iff]
theorem cpsA : (Str.ofString "A").cps.toList = [65] := by decide +kernel
theorem cpsZ : (Str.ofString "Z").cps.toList = [90] := by decide +kernel
theorem cpsa : (Str.ofString "a").cps.toList = [97] := by decide +kernel
theorem cpsz : (Str.ofString "z").cps.toList = [122] := by decide +kernel
theorem lower_spec (w : World) (n : Nat) (ct : Tok) (rest : Led) :
    Spec w 49 [.str (sg n) ct] 10 20 rest (fun v news' => (∃ tk, v = .str (sg (lowerC n)) tk) ∧ news' = rest) := by
  have e1 : ((sg n).cps.toList < (Str.ofString "A").cps.toList) ↔ n < 65 := by rw [cpsA]; exact lt1 n 65
  have e2 : ((Str.ofString "Z").cps.toList < (sg n).cps.toList) ↔ 90 < n := by rw [cpsZ]; exact lt1 90 n
  by_cases h : 65 ≤ n ∧ n ≤ 90
  · (k_dflt (refine' spec_def ?ho ?hcd ?hb ?hs ?_; (case ho => k_is); (case hcd => k_is); (case hb => exact fun _ => BindsTo.of_eq rfl); (case hs => exact rfl); k_whole); intro meanZ9 mgZ9 mbZ9 AZ9 A₀Z9 outerZ9 baseZ9 gZ9 LZ9 sZ9 qZ9 F'Z9 N'Z9 B'Z9 X'Z9 T'Z9 hhZ9 hAZ9 hdZ9 huZ9 hretZ9; (try dsimp only); (try simp only [List.cons_append, List.nil_append, List.append_assoc] at N'Z9))
    k_steps
    · exact absurd (e1.mp (by assumption)) (by omega)
    · exact absurd (e2.mp (by assumption)) (by omega)
    · ((with_reducible rename RetE _ _ _ _ => hret9); (first | refine fin_ret hret9 (by assumption) (by assumption) rfl ?_ | refine fin_next hret9 (by assumption) (by assumption) rfl ?_))
      · have : ((n : Int) + 32).toNat = lowerC n := by unfold lowerC; rw [if_pos h]; omega
        exact ⟨⟨_, congrArg (fun x => Value.str (sg x) _) this⟩, rfl⟩
  · have e3 : lowerC n = n := by unfold lowerC; rw [if_neg h]
    rw [e3]
    (k_dflt (refine' spec_def ?ho ?hcd ?hb ?hs ?_; (case ho => k_is); (case hcd => k_is); (case hb => exact fun _ => BindsTo.of_eq rfl); (case hs => exact rfl); k_whole); intro meanZ9 mgZ9 mbZ9 AZ9 A₀Z9 outerZ9 baseZ9 gZ9 LZ9 sZ9 qZ9 F'Z9 N'Z9 B'Z9 X'Z9 T'Z9 hhZ9 hAZ9 hdZ9 huZ9 hretZ9; (try dsimp only); (try simp only [List.cons_append, List.nil_append, List.append_assoc] at N'Z9))
    k_steps
    · ((with_reducible rename RetE _ _ _ _ => hret9); (first | refine fin_ret hret9 (by assumption) (by assumption) rfl ?_ | refine fin_next hret9 (by assumption) (by assumption) rfl ?_))
      exact ⟨⟨_, rfl⟩, rfl⟩
    · ((with_reducible rename RetE _ _ _ _ => hret9); (first | refine fin_ret hret9 (by assumption) (by assumption) rfl ?_ | refine fin_next hret9 (by assumption) (by assumption) rfl ?_))
      exact ⟨⟨_, rfl⟩, rfl⟩
    · have q1 : ¬ n < 65 := fun z => absurd (e1.mpr z) (by assumption)
      have q2 : ¬ 90 < n := fun z => absurd (e2.mpr z) (by assumption)
      omega
end
local macro_rules | `(tactic| walk_at "call ref cons nil") => `(tactic| ((with_reducible show wpAny _ _ (call (Value.ref 28) _) _ _ _); k_dflt (refine' use_eq (blank_spec _ _ _ _) ?B ?F ?X ?N ?T ?hh ?hA ?hf ?hk ?hd ?hu ?_; walk_at "sides"; intro h' tk9 F' N'; (try k_sweep))))
local macro_rules | `(tactic| walk_at "call ref cons nil") => `(tactic| ((with_reducible show wpAny _ _ (call (Value.ref 42) _) _ _ _); k_dflt (refine' use_eq (letter_spec _ _ _ _) ?B ?F ?X ?N ?T ?hh ?hA ?hf ?hk ?hd ?hu ?_; walk_at "sides"; intro h' tk9 F' N'; (try k_sweep))))
local macro_rules | `(tactic| walk_at "call ref cons nil") => `(tactic| ((with_reducible show wpAny _ _ (call (Value.ref 49) _) _ _ _); k_dflt (refine' use_tok (lower_spec _ _ _ _) ?B ?F ?X ?N ?T ?hh ?hA ?hf ?hk ?hd ?hu ?_; walk_at "sides"; intro lt9 h' tk9 F' N'; (try k_sweep))))
example : True := by w_top off; trivial
section
theorem is_apt_spec (w : World) (t : Nat) (R : Raw) (D : DRaw) (rest : Led) (O : Ord t R) (Z : Off R rest) (O' : OrdD R D) (Z' : OffD D rest) (hd : R.T.draft = .ref D.d) (hl : R.T.last ≠ PySem.Str.ofString "") :
    Spec w 404 [.ref t] 10 20 (ML w t R ++ (DL w D ++ rest))
      (fun v news' => v = .bool (D.name == R.T.last) ∧ news' = ML w t R ++ (DL w D ++ rest)) := by
  obtain ⟨o1, o2, o3, o4, o5, o6⟩ := O
  obtain ⟨f1, f2, f3⟩ := Z
  obtain ⟨p1, p2, p3⟩ := O'
  obtain ⟨g1, g2⟩ := Z'
  obtain ⟨td, T, sd, signs, serr, k, vs, sn, outs, on, ers, en⟩ := R
  obtain ⟨kt, states, stream, vat, atT, state, stT, back, bkT, out, errors, draft, buffer, bfT, code, last, lsT, foreign, waiting, done⟩ := T
  dsimp only at *
  subst hd
  (k_dflt (refine' spec_def ?ho ?hcd ?hb ?hs ?_; (case ho => k_is); (case hcd => k_is); (case hb => exact fun _ => BindsTo.of_eq rfl); (case hs => exact rfl); k_whole); intro meanZ9 mgZ9 mbZ9 AZ9 A₀Z9 outerZ9 baseZ9 gZ9 LZ9 sZ9 qZ9 F'Z9 N'Z9 B'Z9 X'Z9 T'Z9 hhZ9 hAZ9 hdZ9 huZ9 hretZ9; (try dsimp only); (try simp only [List.cons_append, List.nil_append, List.append_assoc] at N'Z9))
  k_steps
  · ((with_reducible rename RetE _ _ _ _ => hret9); (first | refine fin_ret hret9 (by assumption) (by assumption) rfl ?_ | refine fin_next hret9 (by assumption) (by assumption) rfl ?_))
    exact ⟨rfl, rfl⟩
  · simp_all
/-- the tokens written so far -/
noncomputable def TextJ (w : World) (t : Nat) (R : Raw) (rest : Led) (ds : List Dat) (nx : Led) : Prop :=
  ∃ ws ex n, ws.length = ds.length ∧ (∀ p ∈ ex, Fresh R.T.errors rest p.1) ∧ DatAll ex ws ds ∧ nx = ML w t { R with outs := R.outs ++ ws, on := n } ++ (ex ++ rest)
theorem emit_text_spec (w : World) (t : Nat) (R : Raw) (rest : Led) (x : PySem.Str) (xt : Tok) (O : Ord t R) (Z : Off R rest) (hb : R.outs.length ≤ 1000) (hx : x.cps.size ≤ 1000) :
    Spec w 383 [.ref t, .str x xt] 10 20 (ML w t R ++ rest)
      (fun v news' => v = .none ∧ TextJ w t R rest (x.cps.toList.map chD) news') := by
  obtain ⟨o1, o2, o3, o4, o5, o6⟩ := O
  obtain ⟨f1, f2, f3⟩ := Z
  (k_dflt (refine' spec_def ?ho ?hcd ?hb ?hs ?_; (case ho => k_is); (case hcd => k_is); (case hb => exact fun _ => BindsTo.of_eq rfl); (case hs => exact rfl); k_whole); intro meanZ9 mgZ9 mbZ9 AZ9 A₀Z9 outerZ9 baseZ9 gZ9 LZ9 sZ9 qZ9 F'Z9 N'Z9 B'Z9 X'Z9 T'Z9 hhZ9 hAZ9 hdZ9 huZ9 hretZ9; (try dsimp only); (try simp only [List.cons_append, List.nil_append, List.append_assoc] at N'Z9))
  k_steps
  refine hold_in ?_
  (with_reducible rename Fr _ _ _ _ => F9)
  (with_reducible rename News _ _ _ _ => N9)
  refine loop_text1 (fun i nx => TextJ w t R rest ((x.cps.toList.take i).map chD) nx) (by assumption) F9 N9 ⟨[], [], R.on, by simp, (fun _ h => (nomatch h)), by simpa using DatAll.nil, by simp⟩ ?_ ?_
  · intro i n tq nx h tk own hn hoff hJ F8 N8
    obtain ⟨ws, ex, on', hws, hfr, hdat, rfl⟩ := hJ
    clear F9 N9
    have q1 : ∀ p ∈ ex, p.1 ≠ R.T.out := fun p hp => Nat.ne_of_gt (Nat.lt_trans o6 (hfr p hp).a)
    have q2 : ∀ p ∈ own, p.1 ≠ R.T.out := hoff.ne (by simp)
    have q3 : (R.outs ++ ws).length ≤ 2000 := by simp at hws ⊢; omega
    simp only [List.cons_append, List.nil_append, List.append_assoc] at N8
    k_steps
    (with_reducible rename (_ ∧ _ ∧ _ ∧ _ ∧ _ ∧ _ ∧ _ ∧ AllLt _ _) => l1)
    (with_reducible rename Fr _ _ _ _ => F7)
    (with_reducible rename News _ _ _ _ => N7)
    have l2 := allLt_lt l1.2.2.2.2.2.2.2
    have l3 := List.forall_mem_append.mp l2
    have l4 := List.forall_mem_append.mp l3.2
    refine inv_end (nx := ML w t { R with outs := R.outs ++ (ws ++ [.ref _]), on := on' + 1 } ++ (((_, _) :: ex) ++ rest)) F7 (by simpa only [List.cons_append, List.nil_append, List.append_assoc] using news_mid7 N7) ⟨fun z hz => if_neg hz, _, _, _, ?_, ?_, ?_, rfl⟩ (off_new (A := [_, _, _, _, _, _, _]) hoff fun p hp => Nat.ne_of_lt (l4.2 p hp))
    · have e : i < x.cps.toList.length := by rw [Array.length_toList]; exact (Array.getElem?_eq_some_iff.mp hn).1
      simp only [List.length_append, List.length_cons, List.length_nil, List.length_map, List.length_take, Array.length_toList] at hws e ⊢; omega
    · intro p hp
      rcases List.mem_cons.mp hp with rfl | hp
      · exact ⟨l1.2.2.2.2.2.2.1, l4.1⟩
      · exact hfr p hp
    · have e : (x.cps.toList.take (i + 1)).map chD = (x.cps.toList.take i).map chD ++ [chD n] := by
        have hn' : x.cps.toList[i]? = some n := by simpa using hn
        rw [List.take_add_one, hn', List.map_append]; rfl
      rw [e]
      refine (DatAll.mono (fun p hp => .tail _ hp) hdat).append (DatAll.one ?_)
      exact .tuple (n := 0) (.head _) (.cons (.str _ _) (.cons (.str _ _) .nil))
  · intro m₁ nx h tk hJ F8 N8
    clear F9 N9
    k_steps
    ((with_reducible rename RetE _ _ _ _ => hret9); (first | refine fin_ret hret9 (by assumption) (by assumption) rfl ?_ | refine fin_next hret9 (by assumption) (by assumption) rfl ?_))
    refine ⟨rfl, ?_⟩
    rw [List.take_of_length_le (by simp)] at hJ
    exact hJ
end
set_option hygiene false
local macro_rules | `(tactic| walk_at "pad") => `(tactic| skip)
set_option hygiene true
example : True := by w_top off; trivial
section
theorem flush_spec (w : World) (t : Nat) (R : Raw) (rest : Led) (hv : R.T.back = Str.ofString "RCDATA" ∨ R.T.back = Str.ofString "RAWTEXT" ∨ R.T.back = Str.ofString "data") (O : Ord t R) (Z : Off R rest) (hb : R.outs.length ≤ 1000) (hx : R.T.buffer.cps.size ≤ 1000) :
    Spec w 440 [.ref t] 20 40 (ML w t R ++ rest)
      (fun v news' => v = .none ∧ ∃ bt, TextJ w t { R with T := { R.T with buffer := Str.ofString "", bfT := bt } } rest (R.T.buffer.cps.toList.map chD) news') := by
  have C := emit_text_spec w t R rest R.T.buffer R.T.bfT O Z hb hx
  obtain ⟨o1, o2, o3, o4, o5, o6⟩ := O
  obtain ⟨f1, f2, f3⟩ := Z
  (k_dflt (refine' spec_def ?ho ?hcd ?hb ?hs ?_; (case ho => k_is); (case hcd => k_is); (case hb => exact fun _ => BindsTo.of_eq rfl); (case hs => exact rfl); k_whole); intro meanZ9 mgZ9 mbZ9 AZ9 A₀Z9 outerZ9 baseZ9 gZ9 LZ9 sZ9 qZ9 F'Z9 N'Z9 B'Z9 X'Z9 T'Z9 hhZ9 hAZ9 hdZ9 huZ9 hretZ9; (try dsimp only); (try simp only [List.cons_append, List.nil_append, List.append_assoc] at N'Z9))
  k_steps
  · rcases hv with e | e | e <;> exact absurd (‹List.any _ _ = true›) (by rw [e]; decide +kernel)
  · refine hold_in ?_
    (k_dflt (refine' spec_use ?S ?B ?F ?X ?N ?T ?hh ?hA ?hf ?hk ?hd ?hu ?_; ((case S => first | assumption | ((with_reducible rename (∀ _ : Tok, Spec _ _ _ _ _ _ _) => C9); exact C9 _)); (case hA => first | with_reducible assumption | exact rfl); (case hf => exact rfl); (case F => k_asm); (case B => k_asm); (case X => k_asm); (case N => first | k_asm | exact news_tail (by k_asm) | exact news_tail (news_tail (by k_asm))); (case T => k_asm); (case hh => first | with_reducible assumption | exact rfl); (case hk => exact rfl); (case hd => ktr_room); (case hu => ktr_units))))
    rintro v9 n9 h9 tk9 ⟨rfl, ws, ex, n, hws, hfr, hdat, rfl⟩ F9 N9
    k_sweep
    simp only [List.cons_append, List.nil_append, List.append_assoc] at N9
    have q1 : ∀ p ∈ ex, p.1 ≠ R.td := fun p hp => Nat.ne_of_gt (Nat.lt_trans (by omega) (hfr p hp).a)
    k_steps
    ((with_reducible rename RetE _ _ _ _ => hret9); (first | refine fin_ret hret9 (by assumption) (by assumption) rfl ?_ | refine fin_next hret9 (by assumption) (by assumption) rfl ?_))
    exact ⟨rfl, _, ws, ex, n, hws, hfr, hdat, rfl⟩
end
section
section
variable (w : World) (cs : List Nat) (t : Nat) (R : Raw) (D : Option DRaw) (rest : Led) (A : Abs) (P : Rep cs t R D rest A)
include P
theorem next_rep (hl : cs.length ≤ 64) (hp : A.pos ≤ 100) :
    Spec w 341 [.ref t] 10 20 (ML w t R ++ (DLo w D ++ rest)) (fun v n => (∃ tk, v = Value.str (signAt cs A.pos) tk) ∧ After w cs t R D rest { A with pos := A.pos + 1 } n) := by
  refine (next_spec w t R cs (DLo w D ++ rest) A.pos P.ord (P.offAll w) P.sgs hl P.pos hp).mono ?_
  rintro v n ⟨hv, tk, rfl⟩
  exact ⟨_, fun _ h => h, hv, { R with T := { R.T with vat := A.pos + 1, atT := tk } }, [], rfl, rfl, ⟨P.sgs, rfl, P.state, P.back, P.outs, P.errs, P.buffer, P.last, P.done, P.waiting, P.handed, DrRep.of (R := R) rfl rfl P.dr, ⟨P.ord.o1, P.ord.o2, P.ord.o3, P.ord.o4, P.ord.o5, P.ord.o6⟩, ⟨P.off.f1, P.off.f2, P.off.f3⟩⟩⟩
theorem to_rep (st : St) (stk : Tok) :
    Spec w 348 [.ref t, .str (stS st) stk] 10 20 (ML w t R ++ (DLo w D ++ rest)) (fun v n => v = .none ∧ After w cs t R D rest { A with st := st } n) := by
  refine (to_spec w t R (DLo w D ++ rest) (stS st) stk P.ord (P.offAll w)).mono ?_
  rintro v n ⟨hv, rfl⟩
  exact ⟨_, fun _ h => h, hv, { R with T := { R.T with state := stS st, stT := stk } }, [], rfl, rfl, ⟨P.sgs, P.pos, rfl, P.back, P.outs, P.errs, P.buffer, P.last, P.done, P.waiting, P.handed, DrRep.of (R := R) rfl rfl P.dr, ⟨P.ord.o1, P.ord.o2, P.ord.o3, P.ord.o4, P.ord.o5, P.ord.o6⟩, ⟨P.off.f1, P.off.f2, P.off.f3⟩⟩⟩
theorem again_rep (st : St) (stk : Tok) (i : Nat) (hi : A.pos = i + 1) :
    Spec w 355 [.ref t, .str (stS st) stk] 10 20 (ML w t R ++ (DLo w D ++ rest)) (fun v n => v = .none ∧ After w cs t R D rest { A with st := st, pos := i } n) := by
  refine (again_spec w t R (DLo w D ++ rest) (stS st) stk i (by rw [P.pos, hi]; rfl) P.ord (P.offAll w)).mono ?_
  rintro v n ⟨hv, tk, rfl⟩
  exact ⟨_, fun _ h => h, hv, { R with T := { R.T with state := stS st, stT := stk, vat := i, atT := tk } }, [], rfl, rfl, ⟨P.sgs, rfl, rfl, P.back, P.outs, P.errs, P.buffer, P.last, P.done, P.waiting, P.handed, DrRep.of (R := R) rfl rfl P.dr, ⟨P.ord.o1, P.ord.o2, P.ord.o3, P.ord.o4, P.ord.o5, P.ord.o6⟩, ⟨P.off.f1, P.off.f2, P.off.f3⟩⟩⟩
theorem error_rep (c : PySem.Str) (ct : Tok) (i : Nat) (hi : A.pos = i + 1) (hb : A.errs.length ≤ 1000) :
    Spec w 362 [.ref t, .str c ct] 10 20 (ML w t R ++ (DLo w D ++ rest)) (fun v n => v = .none ∧ After w cs t R D rest { A with errs := A.errs ++ [erD c i] } n) := by
  refine (error_spec w t R (DLo w D ++ rest) c ct i (by rw [P.pos, hi]; rfl) P.ord (P.offAll w) (by rw [P.errs.length]; exact hb)).mono ?_
  rintro v n ⟨hv, p, tk, hf, rfl⟩
  have P' := P.more (w := w) (ex := [(p, tup [.str c ct, .int i tk])]) (by intro q hq; rw [List.mem_singleton.mp hq]; exact hf)
  refine ⟨ML w t _ ++ (DLo w D ++ ([_] ++ rest)), sub_swap (X := [_]), hv, { R with ers := R.ers ++ [.ref p], en := R.en + 1 }, _, rfl, rfl, ?_⟩
  exact ⟨P'.sgs, P'.pos, P'.state, P'.back, P'.outs, P'.errs.append (.one (.tuple (n := 0) (.head _) (.cons (.str _ _) (.cons (.int _ _) .nil)))), P'.buffer, P'.last, P'.done, P'.waiting, P'.handed, DrRep.of (R := R) rfl rfl P'.dr, ⟨P.ord.o1, P.ord.o2, P.ord.o3, P.ord.o4, P.ord.o5, P.ord.o6⟩, ⟨P'.off.f1, P'.off.f2, P'.off.f3⟩⟩
theorem emit_sign_rep (c : Nat) (ct : Tok) (hb : A.out.length ≤ 1000) :
    Spec w 376 [.ref t, .str (sg c) ct] 10 20 (ML w t R ++ (DLo w D ++ rest)) (fun v n => v = .none ∧ After w cs t R D rest { A with out := A.out ++ [chD c] } n) := by
  refine (emit_sign_spec w t R (DLo w D ++ rest) (sg c) ct P.ord (P.offAll w) (by rw [P.outs.length]; exact hb)).mono ?_
  rintro v n ⟨hv, p, tk, hf, rfl⟩
  have P' := P.more (w := w) (ex := [(p, tup [.str (PySem.Str.ofString "char") tk, .str (sg c) ct])]) (by intro q hq; rw [List.mem_singleton.mp hq]; exact hf)
  refine ⟨ML w t _ ++ (DLo w D ++ ([_] ++ rest)), sub_swap (X := [_]), hv, { R with outs := R.outs ++ [.ref p], on := R.on + 1 }, _, rfl, rfl, ?_⟩
  exact ⟨P'.sgs, P'.pos, P'.state, P'.back, P'.outs.append (.one (.tuple (n := 0) (.head _) (.cons (.str _ _) (.cons (.str _ _) .nil)))), P'.errs, P'.buffer, P'.last, P'.done, P'.waiting, P'.handed, DrRep.of (R := R) rfl rfl P'.dr, ⟨P.ord.o1, P.ord.o2, P.ord.o3, P.ord.o4, P.ord.o5, P.ord.o6⟩, ⟨P'.off.f1, P'.off.f2, P'.off.f3⟩⟩
theorem emit_eof_rep (hb : A.out.length ≤ 1000) :
    Spec w 397 [.ref t] 10 20 (ML w t R ++ (DLo w D ++ rest)) (fun v n => v = .none ∧ After w cs t R D rest { A with out := A.out ++ [eofD], done := true } n) := by
  refine (emit_eof_spec w t R (DLo w D ++ rest) P.ord (P.offAll w) (by rw [P.outs.length]; exact hb)).mono ?_
  rintro v n ⟨hv, p, tk, hf, rfl⟩
  have P' := P.more (w := w) (ex := [(p, tup [.str (PySem.Str.ofString "eof") tk])]) (by intro q hq; rw [List.mem_singleton.mp hq]; exact hf)
  refine ⟨ML w t _ ++ (DLo w D ++ ([_] ++ rest)), sub_swap (X := [_]), hv, { R with T := { R.T with done := true }, outs := R.outs ++ [.ref p], on := R.on + 1 }, _, rfl, rfl, ?_⟩
  exact ⟨P'.sgs, P'.pos, P'.state, P'.back, P'.outs.append (.one (.tuple (n := 0) (.head _) (.cons (.str _ _) .nil))), P'.errs, P'.buffer, P'.last, rfl, P'.waiting, P'.handed, DrRep.of (R := R) rfl rfl P'.dr, ⟨P.ord.o1, P.ord.o2, P.ord.o3, P.ord.o4, P.ord.o5, P.ord.o6⟩, ⟨P'.off.f1, P'.off.f2, P'.off.f3⟩⟩
theorem emit_text_rep (l : List Nat) (xt : Tok) (hb : A.out.length ≤ 1000) (hl : l.length ≤ 1000) :
    Spec w 383 [.ref t, .str (tx l) xt] 10 20 (ML w t R ++ (DLo w D ++ rest)) (fun v n => v = .none ∧ After w cs t R D rest { A with out := A.out ++ l.map chD } n) := by
  refine (emit_text_spec w t R (DLo w D ++ rest) (tx l) xt P.ord (P.offAll w) (by rw [P.outs.length]; exact hb) (by simpa using hl)).mono ?_
  rintro v n ⟨hv, ws, ex, on, hws, hf, hd, rfl⟩
  have P' := P.more (w := w) (ex := ex) hf
  refine ⟨ML w t _ ++ (DLo w D ++ (ex ++ rest)), sub_swap (X := ex), hv, { R with outs := R.outs ++ ws, on := on }, _, rfl, rfl, ?_⟩
  exact ⟨P'.sgs, P'.pos, P'.state, P'.back, P'.outs.append (hd.mono fun _ hp => List.mem_append.mpr (.inl hp)), P'.errs, P'.buffer, P'.last, P'.done, P'.waiting, P'.handed, DrRep.of (R := R) rfl rfl P'.dr, ⟨P.ord.o1, P.ord.o2, P.ord.o3, P.ord.o4, P.ord.o5, P.ord.o6⟩, ⟨P'.off.f1, P'.off.f2, P'.off.f3⟩⟩
theorem flush_rep (hb : A.out.length ≤ 1000) (hl : A.buffer.length ≤ 1000) :
    Spec w 440 [.ref t] 20 40 (ML w t R ++ (DLo w D ++ rest)) (fun v n => v = .none ∧ After w cs t R D rest { A with out := A.out ++ A.buffer.map chD, buffer := [] } n) := by
  have hk : R.T.back = Str.ofString "RCDATA" ∨ R.T.back = Str.ofString "RAWTEXT" ∨ R.T.back = Str.ofString "data" := by
    rw [P.back]
    rcases A.back with _ | k
    · exact .inr (.inr rfl)
    · cases k
      · exact .inl rfl
      · exact .inr (.inl rfl)
  refine (flush_spec w t R (DLo w D ++ rest) hk P.ord (P.offAll w) (by rw [P.outs.length]; exact hb) (by rw [P.buffer]; simpa using hl)).mono ?_
  rintro v n ⟨hv, bt, ws, ex, on, hws, hf, hd, rfl⟩
  rw [P.buffer] at hd
  have P' := P.more (w := w) (ex := ex) hf
  refine ⟨ML w t _ ++ (DLo w D ++ (ex ++ rest)), sub_swap (X := ex), hv, { R with T := { R.T with buffer := Str.ofString "", bfT := bt }, outs := R.outs ++ ws, on := on }, _, rfl, rfl, ?_⟩
  exact ⟨P'.sgs, P'.pos, P'.state, P'.back, P'.outs.append (hd.mono fun _ hp => List.mem_append.mpr (.inl hp)), P'.errs, rfl, P'.last, P'.done, P'.waiting, P'.handed, DrRep.of (R := R) rfl rfl P'.dr, ⟨P.ord.o1, P.ord.o2, P.ord.o3, P.ord.o4, P.ord.o5, P.ord.o6⟩, ⟨P'.off.f1, P'.off.f2, P'.off.f3⟩⟩
end
end
set_option hygiene false
local macro_rules | `(tactic| walk_at "pad") => `(tactic| skip)
set_option hygiene true
example : True := by w_top off; trivial
section
theorem sgne {n : Nat} {x : PySem.Str} (m : Nat) (e : x = sg m) (h : n ≠ m) : (sg n == x) = false := by
  subst e
  simp [sg, h]
theorem sgE {n : Nat} : (sg n == Str.ofString "") = false := by
  have : Str.ofString "" = ⟨#[]⟩ := by decide +kernel
  rw [this]; simp [sg]
theorem kd_fit (k : Kd) : (kindS k).length ≤ 1000 := by cases k <;> exact Nat.le_of_ble_eq_true (by kernel_rfl)
theorem kd_lt (k : Kd) : stS (.lt k) = kindS k ++ Str.ofString " less-than sign" := by cases k <;> decide +kernel
theorem kd_plain (k : Kd) : (kindS k != Str.ofString "PLAINTEXT") = true := by cases k <;> decide +kernel
section
variable (w : World) (cs : List Nat) (t : Nat) (R : Raw) (rest : Led) (A : Abs) (k : Kd) (kt : Tok)
theorem held_spec (hst : A.st = .held k) (hdr : A.dr = none) (P : Rep cs t R none rest A) (G : Good cs A) :
    Spec w 133 [.ref t, .str (kindS k) kt] 30 60 (ML w t R ++ (DLo w none ++ rest)) (Stepped w cs t R rest (stepA cs A)) := by
  have g1 := G.out
  have g2 := G.errs
  have g3 := G.pos
  have g4 := G.len
  have hp := kd_plain k
  have hkl := kd_fit k
  have C := next_rep w cs t R none rest A P (by omega) (by omega)
  (k_dflt (refine' spec_def ?ho ?hcd ?hb ?hs ?_; (case ho => k_is); (case hcd => k_is); (case hb => exact fun _ => BindsTo.of_eq rfl); (case hs => exact rfl); k_whole); intro meanZ9 mgZ9 mbZ9 AZ9 A₀Z9 outerZ9 baseZ9 gZ9 LZ9 sZ9 qZ9 F'Z9 N'Z9 B'Z9 X'Z9 T'Z9 hhZ9 hAZ9 hdZ9 huZ9 hretZ9; (try dsimp only); (try simp only [List.cons_append, List.nil_append, List.append_assoc] at N'Z9))
  k_steps
  refine hold_in ?_
  (k_dflt (refine' use_next ?S ?B ?F ?X ?N ?T ?hh ?hA ?hf ?hk ?hd ?hu ?_; ((case S => first | assumption | ((with_reducible rename (∀ _ : Tok, Spec _ _ _ _ _ _ _) => C9); exact C9 _)); (case hA => first | with_reducible assumption | exact rfl); (case hf => exact rfl); (case F => k_asm); (case B => k_asm); (case X => k_asm); (case N => first | k_asm | exact news_tail (by k_asm) | exact news_tail (news_tail (by k_asm))); (case T => k_asm); (case hh => first | with_reducible assumption | exact rfl); (case hk => exact rfl); (case hd => ktr_room); (case hu => ktr_units))))
  intro tk1 R1 ex1 h9 tk9 e1 P1 F9 N9
  k_sweep
  clear C
  rcases hc : cs[A.pos]? with _ | c
  · rw [show signAt cs A.pos = Str.ofString "" by simp [signAt, hc]]
    have C := emit_eof_rep w cs t R1 none (ex1 ++ rest) _ P1 (by dsimp only; omega)
    k_steps
    refine hold_in ?_
    (k_dflt (refine' use_after ?S ?B ?F ?X ?N ?T ?hh ?hA ?hf ?hk ?hd ?hu ?_; ((case S => first | assumption | ((with_reducible rename (∀ _ : Tok, Spec _ _ _ _ _ _ _) => C9); exact C9 _)); (case hA => first | with_reducible assumption | exact rfl); (case hf => exact rfl); (case F => k_asm); (case B => k_asm); (case X => k_asm); (case N => first | k_asm | exact news_tail (by k_asm) | exact news_tail (news_tail (by k_asm))); (case T => k_asm); (case hh => first | with_reducible assumption | exact rfl); (case hk => exact rfl); (case hd => ktr_room); (case hu => ktr_units))))
    intro R2 ex2 h9 tk9 e2 P2 F9 N9
    k_sweep
    k_steps
    ((with_reducible rename RetE _ _ _ _ => hret9); (first | refine fin_ret hret9 (by assumption) (by assumption) rfl ?_ | refine fin_next hret9 (by assumption) (by assumption) rfl ?_))
    exact stepped2 e1 e2 P2 (by (first | rw [stepA_held hst] | rw [stepA_lt hst] | rw [stepA_eto hst] | rw [stepA_etn hst] | rw [stepA_ref hst] | rw [stepA_ba hst] | rw [stepA_sol hst]); (first | unfold stHeld | unfold stLt | unfold stEto | unfold stEtn | unfold stRef | unfold stBa | unfold stSol); (try dsimp only); rw [hc]; dsimp only; first | done | rfl | simp only [eof, hst] | simp [eof, hst])
  · rw [show signAt cs A.pos = sg c by simp [signAt, hc]]
    have b0 : (sg c == Str.ofString "") = false := sgE
    by_cases h1 : c = 38 ∧ k = .rc
    · obtain ⟨rfl, hk⟩ := h1
      have bk : (kindS k == Str.ofString "RCDATA") = true := by rw [hk]; decide +kernel
      have Z := P1.offAll w
      obtain ⟨z1, z2, z3⟩ := Z
      obtain ⟨o1, o2, o3, o4, o5, o6⟩ := P1.ord
      have C := fun z => to_rep w cs t _ none (ex1 ++ rest) _ (P1.setBack k kt) .ref z
      k_steps
      refine hold_in ?_
      (k_dflt (refine' use_after ?S ?B ?F ?X ?N ?T ?hh ?hA ?hf ?hk ?hd ?hu ?_; ((case S => first | assumption | ((with_reducible rename (∀ _ : Tok, Spec _ _ _ _ _ _ _) => C9); exact C9 _)); (case hA => first | with_reducible assumption | exact rfl); (case hf => exact rfl); (case F => k_asm); (case B => k_asm); (case X => k_asm); (case N => first | k_asm | exact news_tail (by k_asm) | exact news_tail (news_tail (by k_asm))); (case T => k_asm); (case hh => first | with_reducible assumption | exact rfl); (case hk => exact rfl); (case hd => ktr_room); (case hu => ktr_units))))
      intro R2 ex2 h9 tk9 e2 P2 F9 N9
      k_sweep
      k_steps
      ((with_reducible rename RetE _ _ _ _ => hret9); (first | refine fin_ret hret9 (by assumption) (by assumption) rfl ?_ | refine fin_next hret9 (by assumption) (by assumption) rfl ?_))
      exact stepped2 e1 e2 P2 (by (first | rw [stepA_held hst] | rw [stepA_lt hst] | rw [stepA_eto hst] | rw [stepA_etn hst] | rw [stepA_ref hst] | rw [stepA_ba hst] | rw [stepA_sol hst]); (first | unfold stHeld | unfold stLt | unfold stEto | unfold stEtn | unfold stRef | unfold stBa | unfold stSol); (try dsimp only); rw [hc]; dsimp only; rw [if_pos ⟨rfl, hk⟩]; first | done | rfl | simp only [eof, hst] | simp [eof, hst])
    · by_cases h2 : c = 60
      · subst h2
        have C := fun z => to_rep w cs t R1 none (ex1 ++ rest) _ P1 (.lt k) z
        rw [kd_lt] at C
        k_steps
        refine hold_in ?_
        (k_dflt (refine' use_after ?S ?B ?F ?X ?N ?T ?hh ?hA ?hf ?hk ?hd ?hu ?_; ((case S => first | assumption | ((with_reducible rename (∀ _ : Tok, Spec _ _ _ _ _ _ _) => C9); exact C9 _)); (case hA => first | with_reducible assumption | exact rfl); (case hf => exact rfl); (case F => k_asm); (case B => k_asm); (case X => k_asm); (case N => first | k_asm | exact news_tail (by k_asm) | exact news_tail (news_tail (by k_asm))); (case T => k_asm); (case hh => first | with_reducible assumption | exact rfl); (case hk => exact rfl); (case hd => ktr_room); (case hu => ktr_units))))
        intro R2 ex2 h9 tk9 e2 P2 F9 N9
        k_sweep
        k_steps
        ((with_reducible rename RetE _ _ _ _ => hret9); (first | refine fin_ret hret9 (by assumption) (by assumption) rfl ?_ | refine fin_next hret9 (by assumption) (by assumption) rfl ?_))
        exact stepped2 e1 e2 P2 (by (first | rw [stepA_held hst] | rw [stepA_lt hst] | rw [stepA_eto hst] | rw [stepA_etn hst] | rw [stepA_ref hst] | rw [stepA_ba hst] | rw [stepA_sol hst]); (first | unfold stHeld | unfold stLt | unfold stEto | unfold stEtn | unfold stRef | unfold stBa | unfold stSol); (try dsimp only); rw [hc]; dsimp only; rw [if_neg h1, if_pos rfl]; first | done | rfl | simp only [eof, hst] | simp [eof, hst])
      · have b2 : (sg c == Str.ofString "<") = false := sgne 60 (by decide +kernel) h2
        by_cases h3 : c = 0
        · subst h3
          have C := fun z => error_rep w cs t R1 none (ex1 ++ rest) _ P1 nullE z A.pos rfl (by dsimp only; omega)
          k_steps
          refine hold_in ?_
          (k_dflt (refine' use_after ?S ?B ?F ?X ?N ?T ?hh ?hA ?hf ?hk ?hd ?hu ?_; ((case S => first | assumption | ((with_reducible rename (∀ _ : Tok, Spec _ _ _ _ _ _ _) => C9); exact C9 _)); (case hA => first | with_reducible assumption | exact rfl); (case hf => exact rfl); (case F => k_asm); (case B => k_asm); (case X => k_asm); (case N => first | k_asm | exact news_tail (by k_asm) | exact news_tail (news_tail (by k_asm))); (case T => k_asm); (case hh => first | with_reducible assumption | exact rfl); (case hk => exact rfl); (case hd => ktr_room); (case hu => ktr_units))))
          intro R2 ex2 h9 tk9 e2 P2 F9 N9
          k_sweep
          replace C := fun z => emit_sign_rep w cs t R2 none (ex2 ++ (ex1 ++ rest)) _ P2 65533 z (by dsimp only; omega)
          k_steps
          refine hold_in ?_
          (k_dflt (refine' use_after ?S ?B ?F ?X ?N ?T ?hh ?hA ?hf ?hk ?hd ?hu ?_; ((case S => first | assumption | ((with_reducible rename (∀ _ : Tok, Spec _ _ _ _ _ _ _) => C9); exact C9 _)); (case hA => first | with_reducible assumption | exact rfl); (case hf => exact rfl); (case F => k_asm); (case B => k_asm); (case X => k_asm); (case N => first | k_asm | exact news_tail (by k_asm) | exact news_tail (news_tail (by k_asm))); (case T => k_asm); (case hh => first | with_reducible assumption | exact rfl); (case hk => exact rfl); (case hd => ktr_room); (case hu => ktr_units))))
          intro R3 ex3 h9 tk9 e3 P3 F9 N9
          k_sweep
          k_steps
          ((with_reducible rename RetE _ _ _ _ => hret9); (first | refine fin_ret hret9 (by assumption) (by assumption) rfl ?_ | refine fin_next hret9 (by assumption) (by assumption) rfl ?_))
          exact stepped3 e1 e2 e3 P3 (by (first | rw [stepA_held hst] | rw [stepA_lt hst] | rw [stepA_eto hst] | rw [stepA_etn hst] | rw [stepA_ref hst] | rw [stepA_ba hst] | rw [stepA_sol hst]); (first | unfold stHeld | unfold stLt | unfold stEto | unfold stEtn | unfold stRef | unfold stBa | unfold stSol); (try dsimp only); rw [hc]; dsimp only; rw [if_neg h1, if_neg h2, if_pos rfl]; first | done | rfl | simp only [eof, hst] | simp [eof, hst])
        · have b3 : (sg c == Str.ofString "\x00") = false := sgne 0 (by decide +kernel) h3
          have C := emit_sign_rep w cs t R1 none (ex1 ++ rest) _ P1 c tk1 (by dsimp only; omega)
          by_cases h38 : c = 38
          · have bk : (kindS k == Str.ofString "RCDATA") = false := by
              have : k = .rw := by cases k with
                | rc => exact absurd ⟨h38, rfl⟩ h1
                | rw => rfl
              rw [this]; decide +kernel
            have b1 : (sg c == Str.ofString "&") = true := by rw [h38]; decide +kernel
            k_steps
            refine hold_in ?_
            (k_dflt (refine' use_after ?S ?B ?F ?X ?N ?T ?hh ?hA ?hf ?hk ?hd ?hu ?_; ((case S => first | assumption | ((with_reducible rename (∀ _ : Tok, Spec _ _ _ _ _ _ _) => C9); exact C9 _)); (case hA => first | with_reducible assumption | exact rfl); (case hf => exact rfl); (case F => k_asm); (case B => k_asm); (case X => k_asm); (case N => first | k_asm | exact news_tail (by k_asm) | exact news_tail (news_tail (by k_asm))); (case T => k_asm); (case hh => first | with_reducible assumption | exact rfl); (case hk => exact rfl); (case hd => ktr_room); (case hu => ktr_units))))
            intro R2 ex2 h9 tk9 e2 P2 F9 N9
            k_sweep
            k_steps
            ((with_reducible rename RetE _ _ _ _ => hret9); (first | refine fin_ret hret9 (by assumption) (by assumption) rfl ?_ | refine fin_next hret9 (by assumption) (by assumption) rfl ?_))
            exact stepped2 e1 e2 P2 (by (first | rw [stepA_held hst] | rw [stepA_lt hst] | rw [stepA_eto hst] | rw [stepA_etn hst] | rw [stepA_ref hst] | rw [stepA_ba hst] | rw [stepA_sol hst]); (first | unfold stHeld | unfold stLt | unfold stEto | unfold stEtn | unfold stRef | unfold stBa | unfold stSol); (try dsimp only); rw [hc]; dsimp only; rw [if_neg h1, if_neg h2, if_neg h3]; first | done | rfl | simp only [eof, hst] | simp [eof, hst])
          · have b1 : (sg c == Str.ofString "&") = false := sgne 38 (by decide +kernel) h38
            k_steps
            refine hold_in ?_
            (k_dflt (refine' use_after ?S ?B ?F ?X ?N ?T ?hh ?hA ?hf ?hk ?hd ?hu ?_; ((case S => first | assumption | ((with_reducible rename (∀ _ : Tok, Spec _ _ _ _ _ _ _) => C9); exact C9 _)); (case hA => first | with_reducible assumption | exact rfl); (case hf => exact rfl); (case F => k_asm); (case B => k_asm); (case X => k_asm); (case N => first | k_asm | exact news_tail (by k_asm) | exact news_tail (news_tail (by k_asm))); (case T => k_asm); (case hh => first | with_reducible assumption | exact rfl); (case hk => exact rfl); (case hd => ktr_room); (case hu => ktr_units))))
            intro R2 ex2 h9 tk9 e2 P2 F9 N9
            k_sweep
            k_steps
            ((with_reducible rename RetE _ _ _ _ => hret9); (first | refine fin_ret hret9 (by assumption) (by assumption) rfl ?_ | refine fin_next hret9 (by assumption) (by assumption) rfl ?_))
            exact stepped2 e1 e2 P2 (by (first | rw [stepA_held hst] | rw [stepA_lt hst] | rw [stepA_eto hst] | rw [stepA_etn hst] | rw [stepA_ref hst] | rw [stepA_ba hst] | rw [stepA_sol hst]); (first | unfold stHeld | unfold stLt | unfold stEto | unfold stEtn | unfold stRef | unfold stBa | unfold stSol); (try dsimp only); rw [hc]; dsimp only; rw [if_neg h1, if_neg h2, if_neg h3]; first | done | rfl | simp only [eof, hst] | simp [eof, hst])
end
end
set_option hygiene false
local macro_rules | `(tactic| walk_at "pad") => `(tactic| skip)
set_option hygiene true
example : True := by w_top off; trivial
section
theorem letterS_nil : letterS (Str.ofString "") = false := by decide +kernel
theorem letterS_sg (n : Nat) : letterS (sg n) = isLetter n := by
  unfold letterS isLetter
  rw [cpsa, cpsz, cpsA, cpsZ]
  simp only [lt1]
  have e1 : (n < 97) ↔ ¬ (97 ≤ n) := by omega
  have e2 : (122 < n) ↔ ¬ (n ≤ 122) := by omega
  have e3 : (n < 65) ↔ ¬ (65 ≤ n) := by omega
  have e4 : (90 < n) ↔ ¬ (n ≤ 90) := by omega
  simp only [e1, e2, e3, e4, decide_not, Bool.not_not]
theorem kd_held (k : Kd) : stS (.held k) = kindS k := by cases k <;> rfl
theorem kd_eto (k : Kd) : stS (.eto k) = kindS k ++ Str.ofString " end tag open" := by cases k <;> decide +kernel
theorem kd_etn (k : Kd) : stS (.etn k) = kindS k ++ Str.ofString " end tag name" := by cases k <;> decide +kernel
theorem kd_scr (k : Kd) : (kindS k == Str.ofString "script data") = false := by cases k <;> decide +kernel
theorem sign_ne {cs : List Nat} {i : Nat} {x : PySem.Str} (m : Nat) (e : x = sg m) (h : cs[i]? ≠ some m) : (signAt cs i == x) = false := by
  subst e
  cases hc : cs[i]? with
  | none => rw [show signAt cs i = Str.ofString "" by simp [signAt, hc], show Str.ofString "" = ⟨#[]⟩ by decide +kernel]; simp [sg]
  | some c => rw [show signAt cs i = sg c by simp [signAt, hc]]; exact sgne m rfl fun e => h (by rw [hc, e])
theorem letter_some {cs : List Nat} {i : Nat} (h : letterS (signAt cs i) = true) : ∃ c, cs[i]? = some c ∧ isLetter c = true := by
  cases hc : cs[i]? with
  | none => rw [show signAt cs i = Str.ofString "" by simp [signAt, hc], letterS_nil] at h; cases h
  | some c => rw [show signAt cs i = sg c by simp [signAt, hc], letterS_sg] at h; exact ⟨c, rfl, h⟩
theorem eto_else {cs : List Nat} {A : Abs} {k : Kd} (hst : A.st = .eto k) (h : letterS (signAt cs A.pos) = false) : stepA cs A = { A with st := .held k, out := A.out ++ [chD 60, chD 47] } := by
  (first | rw [stepA_held hst] | rw [stepA_lt hst] | rw [stepA_eto hst] | rw [stepA_etn hst] | rw [stepA_ref hst] | rw [stepA_ba hst] | rw [stepA_sol hst])
  (first | unfold stHeld | unfold stLt | unfold stEto | unfold stEtn | unfold stRef | unfold stBa | unfold stSol)
  (try dsimp only)
  cases hc : cs[A.pos]? with
  | none => rfl
  | some c =>
    rw [show signAt cs A.pos = sg c by simp [signAt, hc], letterS_sg] at h
    dsimp only
    rw [h, if_neg (by decide)]
theorem eto_then {cs : List Nat} {A : Abs} {k : Kd} (hst : A.st = .eto k) (h : letterS (signAt cs A.pos) = true) : stepA cs A = { A with st := .etn k, dr := some ⟨[], false, []⟩ } := by
  obtain ⟨c, hc, hl⟩ := letter_some h
  (first | rw [stepA_held hst] | rw [stepA_lt hst] | rw [stepA_eto hst] | rw [stepA_etn hst] | rw [stepA_ref hst] | rw [stepA_ba hst] | rw [stepA_sol hst])
  (first | unfold stHeld | unfold stLt | unfold stEto | unfold stEtn | unfold stRef | unfold stBa | unfold stSol)
  (try dsimp only)
  rw [hc]
  dsimp only
  rw [hl, if_pos rfl]
theorem lt_else {cs : List Nat} {A : Abs} {k : Kd} (hst : A.st = .lt k) (h : cs[A.pos]? ≠ some 47) : stepA cs A = { A with st := .held k, out := A.out ++ [chD 60] } := by
  (first | rw [stepA_held hst] | rw [stepA_lt hst] | rw [stepA_eto hst] | rw [stepA_etn hst] | rw [stepA_ref hst] | rw [stepA_ba hst] | rw [stepA_sol hst])
  (first | unfold stHeld | unfold stLt | unfold stEto | unfold stEtn | unfold stRef | unfold stBa | unfold stSol)
  (try dsimp only)
  rw [if_neg h]
theorem lt_then {cs : List Nat} {A : Abs} {k : Kd} (hst : A.st = .lt k) (h : cs[A.pos]? = some 47) : stepA cs A = { A with pos := A.pos + 1, st := .eto k, buffer := [] } := by
  (first | rw [stepA_held hst] | rw [stepA_lt hst] | rw [stepA_eto hst] | rw [stepA_etn hst] | rw [stepA_ref hst] | rw [stepA_ba hst] | rw [stepA_sol hst])
  (first | unfold stHeld | unfold stLt | unfold stEto | unfold stEtn | unfold stRef | unfold stBa | unfold stSol)
  (try dsimp only)
  rw [if_pos h]
section
variable (w : World) (cs : List Nat) (tz : Nat) (R : Raw) (rest : Led) (A : Abs) (k : Kd) (kt : Tok)
theorem lt_spec (hst : A.st = .lt k) (P : Rep cs tz R none rest A) (G : Good cs A) :
    Spec w 140 [.ref tz, .str (kindS k) kt] 30 60 (ML w tz R ++ (DLo w none ++ rest)) (Stepped w cs tz R rest (stepA cs A)) := by
  have g1 := G.out
  have g2 := G.errs
  have g3 := G.pos
  have g4 := G.len
  have hkl := kd_fit k
  have C := next_rep w cs tz R none rest A P (by omega) (by omega)
  have hsc := kd_scr k
  (k_dflt (refine' spec_def ?ho ?hcd ?hb ?hs ?_; (case ho => k_is); (case hcd => k_is); (case hb => exact fun _ => BindsTo.of_eq rfl); (case hs => exact rfl); k_whole); intro meanZ9 mgZ9 mbZ9 AZ9 A₀Z9 outerZ9 baseZ9 gZ9 LZ9 sZ9 qZ9 F'Z9 N'Z9 B'Z9 X'Z9 T'Z9 hhZ9 hAZ9 hdZ9 huZ9 hretZ9; (try dsimp only); (try simp only [List.cons_append, List.nil_append, List.append_assoc] at N'Z9))
  k_steps
  refine hold_in ?_
  (k_dflt (refine' use_next ?S ?B ?F ?X ?N ?T ?hh ?hA ?hf ?hk ?hd ?hu ?_; ((case S => first | assumption | ((with_reducible rename (∀ _ : Tok, Spec _ _ _ _ _ _ _) => C9); exact C9 _)); (case hA => first | with_reducible assumption | exact rfl); (case hf => exact rfl); (case F => k_asm); (case B => k_asm); (case X => k_asm); (case N => first | k_asm | exact news_tail (by k_asm) | exact news_tail (news_tail (by k_asm))); (case T => k_asm); (case hh => first | with_reducible assumption | exact rfl); (case hk => exact rfl); (case hd => ktr_room); (case hu => ktr_units))))
  intro tk1 R1 ex1 h9 tk9 e1 P1 F9 N9
  k_sweep
  clear C
  by_cases h1 : cs[A.pos]? = some 47
  · rw [show signAt cs A.pos = sg 47 by simp [signAt, h1]]
    have Z := P1.offAll w
    obtain ⟨z1, z2, z3⟩ := Z
    obtain ⟨o1, o2, o3, o4, o5, o6⟩ := P1.ord
    k_steps
    refine hold_in ?_
    (with_reducible rename News _ _ _ _ => N8)
    obtain ⟨bt, N7⟩ : ∃ bt, News _ _ _ (ML w tz { R1 with T := { R1.T with buffer := Str.ofString "", bfT := bt } } ++ (DLo w none ++ (ex1 ++ rest))) := ⟨_, N8⟩
    clear N8
    have C := fun z => to_rep w cs tz _ none (ex1 ++ rest) _ (P1.setBuffer (Str.ofString "") [] bt (by decide +kernel)) (.eto k) z
    rw [kd_eto] at C
    (k_dflt (refine' use_after ?S ?B ?F ?X ?N ?T ?hh ?hA ?hf ?hk ?hd ?hu ?_; ((case S => first | assumption | ((with_reducible rename (∀ _ : Tok, Spec _ _ _ _ _ _ _) => C9); exact C9 _)); (case hA => first | with_reducible assumption | exact rfl); (case hf => exact rfl); (case F => k_asm); (case B => k_asm); (case X => k_asm); (case N => first | k_asm | exact news_tail (by k_asm) | exact news_tail (news_tail (by k_asm))); (case T => k_asm); (case hh => first | with_reducible assumption | exact rfl); (case hk => exact rfl); (case hd => ktr_room); (case hu => ktr_units))))
    intro R2 ex2 h9 tk9 e2 P2 F9 N9
    k_sweep
    k_steps
    ((with_reducible rename RetE _ _ _ _ => hret9); (first | refine fin_ret hret9 (by assumption) (by assumption) rfl ?_ | refine fin_next hret9 (by assumption) (by assumption) rfl ?_))
    exact stepped2 e1 e2 P2 (lt_then hst h1).symm
  · have b1 : (signAt cs A.pos == Str.ofString "/") = false := sign_ne 47 (by decide +kernel) h1
    have C := fun z => emit_sign_rep w cs tz R1 none (ex1 ++ rest) _ P1 60 z (by dsimp only; omega)
    k_steps
    all_goals
      refine hold_in ?_
      (k_dflt (refine' use_after ?S ?B ?F ?X ?N ?T ?hh ?hA ?hf ?hk ?hd ?hu ?_; ((case S => first | assumption | ((with_reducible rename (∀ _ : Tok, Spec _ _ _ _ _ _ _) => C9); exact C9 _)); (case hA => first | with_reducible assumption | exact rfl); (case hf => exact rfl); (case F => k_asm); (case B => k_asm); (case X => k_asm); (case N => first | k_asm | exact news_tail (by k_asm) | exact news_tail (news_tail (by k_asm))); (case T => k_asm); (case hh => first | with_reducible assumption | exact rfl); (case hk => exact rfl); (case hd => ktr_room); (case hu => ktr_units))))
      intro R2 ex2 h9 tk9 e2 P2 F9 N9
      k_sweep
      have C := fun z => again_rep w cs tz R2 none (ex2 ++ (ex1 ++ rest)) _ P2 (.held k) z A.pos rfl
      rw [kd_held] at C
      k_steps
      refine hold_in ?_
      (k_dflt (refine' use_after ?S ?B ?F ?X ?N ?T ?hh ?hA ?hf ?hk ?hd ?hu ?_; ((case S => first | assumption | ((with_reducible rename (∀ _ : Tok, Spec _ _ _ _ _ _ _) => C9); exact C9 _)); (case hA => first | with_reducible assumption | exact rfl); (case hf => exact rfl); (case F => k_asm); (case B => k_asm); (case X => k_asm); (case N => first | k_asm | exact news_tail (by k_asm) | exact news_tail (news_tail (by k_asm))); (case T => k_asm); (case hh => first | with_reducible assumption | exact rfl); (case hk => exact rfl); (case hd => ktr_room); (case hu => ktr_units))))
      intro R3 ex3 h9 tk9 e3 P3 F9 N9
      k_sweep
      k_steps
      ((with_reducible rename RetE _ _ _ _ => hret9); (first | refine fin_ret hret9 (by assumption) (by assumption) rfl ?_ | refine fin_next hret9 (by assumption) (by assumption) rfl ?_))
      exact stepped3 e1 e2 e3 P3 (lt_else hst h1).symm
theorem eto_spec (hst : A.st = .eto k) (P : Rep cs tz R none rest A) (G : Good cs A) :
    Spec w 147 [.ref tz, .str (kindS k) kt] 40 80 (ML w tz R ++ (DLo w none ++ rest)) (Stepped w cs tz R rest (stepA cs A)) := by
  have g1 := G.out
  have g2 := G.errs
  have g3 := G.pos
  have g4 := G.len
  have hkl := kd_fit k
  have C := next_rep w cs tz R none rest A P (by omega) (by omega)
  (k_dflt (refine' spec_def ?ho ?hcd ?hb ?hs ?_; (case ho => k_is); (case hcd => k_is); (case hb => exact fun _ => BindsTo.of_eq rfl); (case hs => exact rfl); k_whole); intro meanZ9 mgZ9 mbZ9 AZ9 A₀Z9 outerZ9 baseZ9 gZ9 LZ9 sZ9 qZ9 F'Z9 N'Z9 B'Z9 X'Z9 T'Z9 hhZ9 hAZ9 hdZ9 huZ9 hretZ9; (try dsimp only); (try simp only [List.cons_append, List.nil_append, List.append_assoc] at N'Z9))
  k_steps
  refine hold_in ?_
  (k_dflt (refine' use_next ?S ?B ?F ?X ?N ?T ?hh ?hA ?hf ?hk ?hd ?hu ?_; ((case S => first | assumption | ((with_reducible rename (∀ _ : Tok, Spec _ _ _ _ _ _ _) => C9); exact C9 _)); (case hA => first | with_reducible assumption | exact rfl); (case hf => exact rfl); (case F => k_asm); (case B => k_asm); (case X => k_asm); (case N => first | k_asm | exact news_tail (by k_asm) | exact news_tail (news_tail (by k_asm))); (case T => k_asm); (case hh => first | with_reducible assumption | exact rfl); (case hk => exact rfl); (case hd => ktr_room); (case hu => ktr_units))))
  intro tk1 R1 ex1 h9 tk9 e1 P1 F9 N9
  k_sweep
  clear C
  cases hL : letterS (signAt cs A.pos) with
  | false =>
    have C := fun z => emit_text_rep w cs tz R1 none (ex1 ++ rest) _ P1 [60, 47] z (by dsimp only; omega) (by decide)
    k_steps
    all_goals
      refine hold_in ?_
      (k_dflt (refine' use_after ?S ?B ?F ?X ?N ?T ?hh ?hA ?hf ?hk ?hd ?hu ?_; ((case S => first | assumption | ((with_reducible rename (∀ _ : Tok, Spec _ _ _ _ _ _ _) => C9); exact C9 _)); (case hA => first | with_reducible assumption | exact rfl); (case hf => exact rfl); (case F => k_asm); (case B => k_asm); (case X => k_asm); (case N => first | k_asm | exact news_tail (by k_asm) | exact news_tail (news_tail (by k_asm))); (case T => k_asm); (case hh => first | with_reducible assumption | exact rfl); (case hk => exact rfl); (case hd => ktr_room); (case hu => ktr_units))))
      intro R2 ex2 h9 tk9 e2 P2 F9 N9
      k_sweep
      have C := fun z => again_rep w cs tz R2 none (ex2 ++ (ex1 ++ rest)) _ P2 (.held k) z A.pos rfl
      rw [kd_held] at C
      k_steps
      refine hold_in ?_
      (k_dflt (refine' use_after ?S ?B ?F ?X ?N ?T ?hh ?hA ?hf ?hk ?hd ?hu ?_; ((case S => first | assumption | ((with_reducible rename (∀ _ : Tok, Spec _ _ _ _ _ _ _) => C9); exact C9 _)); (case hA => first | with_reducible assumption | exact rfl); (case hf => exact rfl); (case F => k_asm); (case B => k_asm); (case X => k_asm); (case N => first | k_asm | exact news_tail (by k_asm) | exact news_tail (news_tail (by k_asm))); (case T => k_asm); (case hh => first | with_reducible assumption | exact rfl); (case hk => exact rfl); (case hd => ktr_room); (case hu => ktr_units))))
      intro R3 ex3 h9 tk9 e3 P3 F9 N9
      k_sweep
      k_steps
      ((with_reducible rename RetE _ _ _ _ => hret9); (first | refine fin_ret hret9 (by assumption) (by assumption) rfl ?_ | refine fin_next hret9 (by assumption) (by assumption) rfl ?_))
      exact stepped3 e1 e2 e3 P3 (eto_else hst hL).symm
  | true =>
    have Z := P1.offAll w
    obtain ⟨z1, z2, z3⟩ := Z
    obtain ⟨o1, o2, o3, o4, o5, o6⟩ := P1.ord
    dsimp only [ML, List.cons_append, List.nil_append] at N9
    k_steps
    refine hold_in ?_
    (with_reducible rename News _ _ _ _ => N8)
    (with_reducible rename (_ ∧ _ ∧ _ ∧ _ ∧ _ ∧ _ ∧ _ ∧ AllLt _ _) => q1)
    (with_reducible rename (_ ∧ _ ∧ _ ∧ _ ∧ _ ∧ _ ∧ _ ∧ _ ∧ _ ∧ AllLt _ _) => q2)
    (with_reducible rename (@LT.lt Nat _ _ _) => q3)
    obtain ⟨D, N7, d1, d2, d3, d4, d5⟩ : ∃ D : DRaw, News _ _ _ (ML w tz { R1 with T := { R1.T with draft := .ref D.d } } ++ (DLo w (some D) ++ (ex1 ++ rest))) ∧ D.name = Str.ofString "" ∧ D.closing = false ∧ D.avs = [] ∧ OrdD R1 D ∧ OffD D (ex1 ++ rest) :=
      ⟨{ d := _, dd := _, k := fun n => [_, _, _, _, _, _, _, _].getD n 0, kdT := _, name := Str.ofString "", nmT := _, txT := _, closing := false, attrs := _, avs := [], an := 0 }, news_draft N8, rfl, rfl, rfl, ⟨q1.2.2.2.2.2.2.1, q3, q2.1⟩, ⟨allLt_off q1.2.2.2.2.2.2.2, allLt_off q2.2.2.2.2.2.2.2.2.2⟩⟩
    clear N8
    have C := fun z => again_rep w cs tz _ (some D) (ex1 ++ rest) _ (P1.setDraft (d := ⟨[], false, []⟩) (d1.trans (by decide +kernel)) d2 (by rw [d3]; exact DatAll.nil) d4 d5) (.etn k) z A.pos rfl
    rw [kd_etn] at C
    (k_dflt (refine' use_after ?S ?B ?F ?X ?N ?T ?hh ?hA ?hf ?hk ?hd ?hu ?_; ((case S => first | assumption | ((with_reducible rename (∀ _ : Tok, Spec _ _ _ _ _ _ _) => C9); exact C9 _)); (case hA => first | with_reducible assumption | exact rfl); (case hf => exact rfl); (case F => k_asm); (case B => k_asm); (case X => k_asm); (case N => first | k_asm | exact news_tail (by k_asm) | exact news_tail (news_tail (by k_asm))); (case T => k_asm); (case hh => first | with_reducible assumption | exact rfl); (case hk => exact rfl); (case hd => ktr_room); (case hu => ktr_units))))
    intro R2 ex2 h9 tk9 e2 P2 F9 N9
    k_sweep
    k_steps
    ((with_reducible rename RetE _ _ _ _ => hret9); (first | refine fin_ret hret9 (by assumption) (by assumption) rfl ?_ | refine fin_next hret9 (by assumption) (by assumption) rfl ?_))
    exact stepped2 e1 e2 P2 (eto_then hst hL).symm
end
end
example : True := by w_top off; trivial
section
theorem news_tok {h₀ h : Heap} {L : Addr} {q1 q2 q3 a1 a2 a3 : Addr × Obj} {rest : Led} (N : News h₀ L h (q1 :: q2 :: q3 :: a1 :: a2 :: a3 :: rest)) : News h₀ L h (q3 :: a1 :: a2 :: a3 :: q1 :: rest) := by
  intro p hp
  apply N
  simp only [List.mem_cons] at hp ⊢
  rcases hp with h | h | h | h | h | h <;> simp [h]
theorem news_end {h₀ h : Heap} {L : Addr} {q1 q2 q3 a1 a2 a3 : Addr × Obj} {rest : Led} (N : News h₀ L h (q1 :: q2 :: q3 :: a1 :: a2 :: a3 :: rest)) : News h₀ L h (a1 :: a2 :: a3 :: q1 :: q2 :: rest) := by
  intro p hp
  apply N
  simp only [List.mem_cons] at hp ⊢
  rcases hp with h | h | h | h | h | h <;> simp [h]
/-- the kept attributes of the first ones -/
noncomputable def keptOf (as : List (Nat × Bool)) : List Nat := (as.filter (·.2)).map (·.1)
noncomputable def TokJ (w : World) (D : DRaw) (rest : Led) (kl : Nat) (as : List (Nat × Bool)) (nx : Led) : Prop :=
  ∃ kvs n ex, kvs.length ≤ as.length ∧ (∀ p ∈ ex, ∀ q ∈ DL w D ++ rest, q.1 < p.1) ∧ (∀ p ∈ ex, kl < p.1) ∧ DatAll ex kvs ((keptOf as).map atD) ∧ nx = (kl, listOf kvs.toArray n) :: (DL w D ++ (ex ++ rest))
/-- an attribute, as it lies -/
theorem a3_at {rest : Led} {vs : List Value} {as : List (Nat × Bool)} {i : Nat} {v : Value} (hd : DatAll rest vs (as.map a3D)) (hv : vs[i]? = some v) :
    ∃ q c b k1 k2 nn, as[i]? = some (c, b) ∧ v = .ref q ∧ (q, listOf [Value.str (sg c) k1, .str (Str.ofString "") k2, .bool b].toArray nn) ∈ rest := by
  have hl := hd.length
  rw [List.length_map] at hl
  have hi : i < as.length := by rw [← hl]; exact (List.getElem?_eq_some_iff.mp hv).1
  obtain ⟨v', e, hD⟩ := hd.get (k := i) (by rw [List.length_map]; exact hi)
  rw [hv] at e
  cases e
  rw [List.getElem_map] at hD
  rcases hh : as[i] with ⟨c, b⟩
  rw [hh] at hD
  have hD' : DatIn rest v (.list [.str (sg c), .str (Str.ofString ""), .bool b]) := hD
  cases hD' with
  | list hm hall =>
    cases hall with
    | cons h1 hall =>
      cases h1
      cases hall with
      | cons h1 hall =>
        cases h1
        cases hall with
        | cons h1 hall =>
          cases h1
          cases hall
          exact ⟨_, c, b, _, _, _, by rw [List.getElem?_eq_getElem hi, hh], rfl, hm⟩
set_option hygiene false
local macro_rules | `(tactic| walk_at "call type:tuple") => `(tactic| refine hold_out ?_)
local macro_rules | `(tactic| walk_at "subscriptTail Name Constant ref int") => `(tactic| refine hold_out ?_)
set_option hygiene true
theorem token_spec (w : World) (D : DRaw) (rest : Led) (as : List (Nat × Bool)) (hd : DatAll rest D.avs (as.map a3D)) (hn : as.length ≤ 200) :
    Spec w 119 [.ref D.d] 10 20 (DL w D ++ rest)
      (fun v news' => ∃ p ex k1 k2 q, v = .ref p ∧ (∀ x ∈ (p, tup [.str (Str.ofString "end") k1, .str D.name k2, .ref q, .bool D.closing]) :: ex, ∀ y ∈ DL w D ++ rest, y.1 < x.1) ∧
        DatIn ex (.ref q) (.tuple ((keptOf as).map atD)) ∧ news' = DL w D ++ ((p, tup [.str (Str.ofString "end") k1, .str D.name k2, .ref q, .bool D.closing]) :: (ex ++ rest))) := by
  (k_dflt (refine' spec_def ?ho ?hcd ?hb ?hs ?_; (case ho => k_is); (case hcd => k_is); (case hb => exact fun _ => BindsTo.of_eq rfl); (case hs => exact rfl); k_whole); intro meanZ9 mgZ9 mbZ9 AZ9 A₀Z9 outerZ9 baseZ9 gZ9 LZ9 sZ9 qZ9 F'Z9 N'Z9 B'Z9 X'Z9 T'Z9 hhZ9 hAZ9 hdZ9 huZ9 hretZ9; (try dsimp only); (try simp only [List.cons_append, List.nil_append, List.append_assoc] at N'Z9))
  (k_steps; repeat' ((refine hold_in ?_); (first | ((with_reducible show wpAny _ _ (call (Value.type _) _) _ _ _); ((k_dflt (refine' kde_tupleOf (by k_asm) (by k_asm) (by exact News.isList (by k_asm) (by k_mem)) (by simp only [List.size_toArray]; omega) (by exact rfl) ?_; k_whole); intro _ _ _ _ lx7; (try k_lt lx7); (try k_sweep)))) | ((with_reducible show wpAny _ _ (subscriptTail _ (Expr.Constant _ _ _) _ _) _ _ _); (first | (with_unfolding_all refine' item_tupleT (by exact News.isTup (by k_asm) (by k_dflt k_mem)) (by omega) (by omega) (by exact rfl) (by exact rfl) ?_ (by with_unfolding_all rfl); k_whole) | walk_at "rr0"))); k_steps))
  refine hold_in ?_
  (with_reducible rename Fr _ _ _ _ => F9)
  (with_reducible rename News _ _ _ _ => N9)
  (with_reducible rename (_ ∧ _ ∧ _ ∧ AllLt _ _) => l1)
  have l2 := l1
  refine loop_list1 (fun i nx => TokJ w D rest _ (as.take i) nx) (by assumption) (.tail _ (.tail _ (.tail _ (.head _)))) F9 N9 ⟨[], 0, [], by simp, (fun _ h => (nomatch h)), (fun _ h => (nomatch h)), by simpa [keptOf] using DatAll.nil, rfl⟩ ?_ ?_
  · intro i v nx h tk own hv hoff hl hJ F8 N8
    obtain ⟨kvs, n, ex, hlen, hfr, hkl, hdat, rfl⟩ := hJ
    clear F9 N9 hl
    have hi : i < as.length := by
      have := (List.getElem?_eq_some_iff.mp hv).1
      have e := hd.length
      rw [List.length_map] at e
      omega
    obtain ⟨q, c, b, k1, k2, nn, hai, rfl, hm⟩ := a3_at hd hv
    have ht : as.take (i + 1) = as.take i ++ [(c, b)] := by rw [List.take_add_one, hai]; rfl
    have N9 := news_dup N8 (List.mem_append.mpr (.inl (.tail _ (List.mem_append.mpr (.inr (List.mem_append.mpr (.inr hm)))))))
    clear N8
    simp only [List.cons_append, List.nil_append, List.append_assoc] at N9
    have q1 : ∀ p ∈ ex, p.1 ≠ _ := fun p hp => Nat.ne_of_gt (hkl p hp)
    have q2 := allLt_off l2.2.2.2
    have q3 : ∀ p ∈ own, p.1 ≠ _ := hoff.ne (.head _)
    have q4 := allLt_lt l2.2.2.2 _ hm
    dsimp only at q4
    replace q4 := ltN q4
    have q5 : kvs.length ≤ 200 := by simp at hlen; omega
    have q6 : i < (as.take (i + 1)).length := by simp; omega
    cases b with
    | true =>
      (k_steps; repeat' ((refine hold_in ?_); (first | ((with_reducible show wpAny _ _ (call (Value.type _) _) _ _ _); ((k_dflt (refine' kde_tupleOf (by k_asm) (by k_asm) (by exact News.isList (by k_asm) (by k_mem)) (by simp only [List.size_toArray]; omega) (by exact rfl) ?_; k_whole); intro _ _ _ _ lx7; (try k_lt lx7); (try k_sweep)))) | ((with_reducible show wpAny _ _ (subscriptTail _ (Expr.Constant _ _ _) _ _) _ _ _); (first | (with_unfolding_all refine' item_tupleT (by exact News.isTup (by k_asm) (by k_dflt k_mem)) (by omega) (by omega) (by exact rfl) (by exact rfl) ?_ (by with_unfolding_all rfl); k_whole) | walk_at "rr0"))); k_steps))
      (with_reducible rename Fr _ _ _ _ => F7)
      (with_reducible rename News _ _ _ _ => N7)
      (with_reducible rename (_ ∧ _ ∧ _ ∧ _ ∧ _ ∧ AllLt _ _) => l3)
      have l4 := List.forall_mem_append.mp (allLt_lt l3.2.2.2.2.2)
      have l5 := List.forall_mem_append.mp l4.2
      refine inv_end (nx := (_, listOf (kvs ++ [Value.ref _]).toArray (n + 1)) :: (DL w D ++ (((_, _) :: ex) ++ rest))) F7 (by simpa only [List.cons_append, List.nil_append, List.append_assoc] using news_tok N7)
        ⟨.tail _ (.tail _ (.tail _ (.head _))), fun z hz => if_neg hz, kvs ++ [Value.ref _], n + 1, (_, _) :: ex, ?_, ?_, ?_, ?_, rfl⟩ (off_new (A := [_, _, _, _]) hoff fun p hp => Nat.ne_of_lt (l5.2 p hp))
      · simp only [List.length_append, List.length_cons, List.length_nil, List.length_take] at hlen q6 ⊢; omega
      · intro p hp
        rcases List.mem_cons.mp hp with rfl | hp
        · intro q hq
          rcases List.mem_append.mp hq with hq | hq
          · simp only [List.mem_cons, List.not_mem_nil, or_false] at hq
            rcases hq with rfl | rfl | rfl
            · exact l3.2.2.1
            · exact l3.2.2.2.1
            · exact l3.2.2.2.2.1
          · exact l5.1 q hq
        · exact hfr p hp
      · intro p hp
        rcases List.mem_cons.mp hp with rfl | hp
        · exact l3.2.1
        · exact hkl p hp
      · have e : keptOf (as.take (i + 1)) = keptOf (as.take i) ++ [c] := by rw [ht]; simp [keptOf]
        rw [e, List.map_append]
        refine (DatAll.mono (fun p hp => .tail _ hp) hdat).append (DatAll.one ?_)
        exact .tuple (n := 0) (.head _) (.cons (.str _ _) (.cons (.str _ _) .nil))
    | false =>
      (k_steps; repeat' ((refine hold_in ?_); (first | ((with_reducible show wpAny _ _ (call (Value.type _) _) _ _ _); ((k_dflt (refine' kde_tupleOf (by k_asm) (by k_asm) (by exact News.isList (by k_asm) (by k_mem)) (by simp only [List.size_toArray]; omega) (by exact rfl) ?_; k_whole); intro _ _ _ _ lx7; (try k_lt lx7); (try k_sweep)))) | ((with_reducible show wpAny _ _ (subscriptTail _ (Expr.Constant _ _ _) _ _) _ _ _); (first | (with_unfolding_all refine' item_tupleT (by exact News.isTup (by k_asm) (by k_dflt k_mem)) (by omega) (by omega) (by exact rfl) (by exact rfl) ?_ (by with_unfolding_all rfl); k_whole) | walk_at "rr0"))); k_steps))
      (with_reducible rename Fr _ _ _ _ => F7)
      (with_reducible rename News _ _ _ _ => N7)
      have e : keptOf (as.take (i + 1)) = keptOf (as.take i) := by rw [ht]; simp [keptOf]
      refine inv_end (nx := (_, listOf kvs.toArray n) :: (DL w D ++ (ex ++ rest))) F7 (by simpa only [List.cons_append, List.nil_append, List.append_assoc] using news_tail N7)
        ⟨.tail _ (.tail _ (.tail _ (.head _))), fun z hz => if_neg hz, kvs, n, ex, ?_, hfr, hkl, by rw [e]; exact hdat, rfl⟩ hoff
      simp only [List.length_take] at hlen q6 ⊢; omega
  · intro m₁ nx h tk hJ F8 N8
    clear F9 N9
    obtain ⟨kvs, n, ex, hlen, hfr, hkl, hdat, rfl⟩ := hJ
    have q5 : kvs.length ≤ 200 := by simp at hlen; omega
    dsimp only [DL, List.cons_append, List.nil_append] at N8
    (k_steps; repeat' ((refine hold_in ?_); (first | ((with_reducible show wpAny _ _ (call (Value.type _) _) _ _ _); ((k_dflt (refine' kde_tupleOf (by k_asm) (by k_asm) (by exact News.isList (by k_asm) (by k_mem)) (by simp only [List.size_toArray]; omega) (by exact rfl) ?_; k_whole); intro _ _ _ _ lx7; (try k_lt lx7); (try k_sweep)))) | ((with_reducible show wpAny _ _ (subscriptTail _ (Expr.Constant _ _ _) _ _) _ _ _); (first | (with_unfolding_all refine' item_tupleT (by exact News.isTup (by k_asm) (by k_dflt k_mem)) (by omega) (by omega) (by exact rfl) (by exact rfl) ?_ (by with_unfolding_all rfl); k_whole) | walk_at "rr0"))); k_steps))
    (with_reducible rename News _ _ _ _ => N7)
    (with_reducible rename Fr _ _ _ _ => F7)
    (with_reducible rename (_ ∧ _ ∧ _ ∧ _ ∧ AllLt _ _) => l3)
    (with_reducible rename (_ ∧ _ ∧ _ ∧ _ ∧ _ ∧ AllLt _ _) => l4)
    have e : as.take D.avs.length = as := by rw [hd.length, List.length_map, List.take_length]
    rw [e] at hdat
    refine' fin_ret ?H9 F7 (news_end N7) ?e9 ?r
    case H9 => assumption
    case e9 => exact rfl
    refine ⟨_, (_, tup kvs) :: ex, _, _, _, rfl, ?_, ?_, rfl⟩
    · have m3 := List.forall_mem_append.mp (allLt_lt l3.2.2.2.2)
      have m4 := List.forall_mem_append.mp (allLt_lt l4.2.2.2.2.2)
      intro x hx y hy
      rcases List.mem_cons.mp hx with rfl | hx
      · rcases List.mem_append.mp hy with hy | hy
        · simp only [List.mem_cons, List.not_mem_nil, or_false] at hy
          rcases hy with rfl | rfl | rfl
          · exact l4.2.2.1
          · exact l4.2.2.2.1
          · exact l4.2.2.2.2.1
        · exact m4.2 y hy
      · rcases List.mem_cons.mp hx with rfl | hx
        · rcases List.mem_append.mp hy with hy | hy
          · simp only [List.mem_cons, List.not_mem_nil, or_false] at hy
            rcases hy with rfl | rfl | rfl
            · exact l3.2.1
            · exact l3.2.2.1
            · exact l3.2.2.2.1
          · exact m3.2 y hy
        · exact hfr x hx y hy
    · exact .tuple (n := 0) (.head _) (DatAll.mono (fun p hp => .tail _ hp) hdat)
theorem token_elim {w : World} {D : DRaw} {rest : Led} {as : List (Nat × Bool)} {G : Value → Led → Prop}
    (k : ∀ p ex k1 k2 q, (∀ x ∈ (p, tup [.str (Str.ofString "end") k1, .str D.name k2, .ref q, .bool D.closing]) :: ex, ∀ y ∈ DL w D ++ rest, y.1 < x.1) →
      DatIn ex (.ref q) (.tuple ((keptOf as).map atD)) → G (.ref p) (DL w D ++ ((p, tup [.str (Str.ofString "end") k1, .str D.name k2, .ref q, .bool D.closing]) :: (ex ++ rest)))) :
    ∀ v n, (∃ p ex k1 k2 q, v = .ref p ∧ (∀ x ∈ (p, tup [.str (Str.ofString "end") k1, .str D.name k2, .ref q, .bool D.closing]) :: ex, ∀ y ∈ DL w D ++ rest, y.1 < x.1) ∧
        DatIn ex (.ref q) (.tuple ((keptOf as).map atD)) ∧ n = DL w D ++ ((p, tup [.str (Str.ofString "end") k1, .str D.name k2, .ref q, .bool D.closing]) :: (ex ++ rest))) → G v n := by
  rintro v n ⟨p, ex, k1, k2, q, rfl, hf, hq, rfl⟩
  exact k p ex k1 k2 q hf hq
end
example : True := by w_top off; trivial
section
set_option hygiene false
local macro_rules | `(tactic| walk_at "execs cons") => `(tactic| ((with_reducible show wpAny _ _ (execs (Stmt.If (Expr.Compare (Expr.Attribute (Expr.Name _ _) (Str.ofString "kind") _) _ _ _) _ _ _ :: _) _) _ _ _); refine hold_out ?_))
set_option hygiene true
theorem emit_end_spec (w : World) (t : Nat) (R : Raw) (rest : Led) (p q : Nat) (k1 k2 : Tok) (nm : PySem.Str) (cl : Bool) (O : Ord t R) (Z : Off R rest) (hb : R.outs.length ≤ 1000) (hp : R.T.errors < p) :
    Spec w 369 [.ref t, .ref p] 10 20 (ML w t R ++ ((p, tup [.str (Str.ofString "end") k1, .str nm k2, .ref q, .bool cl]) :: rest))
      (fun v news' => v = .none ∧ news' = ML w t { R with outs := R.outs ++ [.ref p], on := R.on + 1 } ++ ((p, tup [.str (Str.ofString "end") k1, .str nm k2, .ref q, .bool cl]) :: rest)) := by
  obtain ⟨o1, o2, o3, o4, o5, o6⟩ := O
  obtain ⟨f1, f2, f3⟩ := Z
  (k_dflt (refine' spec_def ?ho ?hcd ?hb ?hs ?_; (case ho => k_is); (case hcd => k_is); (case hb => exact fun _ => BindsTo.of_eq rfl); (case hs => exact rfl); k_whole); intro meanZ9 mgZ9 mbZ9 AZ9 A₀Z9 outerZ9 baseZ9 gZ9 LZ9 sZ9 qZ9 F'Z9 N'Z9 B'Z9 X'Z9 T'Z9 hhZ9 hAZ9 hdZ9 huZ9 hretZ9; (try dsimp only); (try simp only [List.cons_append, List.nil_append, List.append_assoc] at N'Z9))
  k_steps
  ((with_reducible rename RetE _ _ _ _ => hret9); (first | refine fin_ret hret9 (by assumption) (by assumption) rfl ?_ | refine fin_next hret9 (by assumption) (by assumption) rfl ?_))
  exact ⟨rfl, rfl⟩
theorem emit_start_spec (w : World) (t : Nat) (R : Raw) (rest : Led) (p q : Nat) (k1 k2 : Tok) (nm : PySem.Str) (cl : Bool) (O : Ord t R) (Z : Off R rest) (hb : R.outs.length ≤ 1000) (hp : R.T.errors < p) :
    Spec w 369 [.ref t, .ref p] 10 20 (ML w t R ++ ((p, tup [.str (Str.ofString "start") k1, .str nm k2, .ref q, .bool cl]) :: rest))
      (fun v news' => v = .none ∧ news' = ML w t { R with T := { R.T with last := nm, lsT := k2 }, outs := R.outs ++ [.ref p], on := R.on + 1 } ++ ((p, tup [.str (Str.ofString "start") k1, .str nm k2, .ref q, .bool cl]) :: rest)) := by
  obtain ⟨o1, o2, o3, o4, o5, o6⟩ := O
  obtain ⟨f1, f2, f3⟩ := Z
  (k_dflt (refine' spec_def ?ho ?hcd ?hb ?hs ?_; (case ho => k_is); (case hcd => k_is); (case hb => exact fun _ => BindsTo.of_eq rfl); (case hs => exact rfl); k_whole); intro meanZ9 mgZ9 mbZ9 AZ9 A₀Z9 outerZ9 baseZ9 gZ9 LZ9 sZ9 qZ9 F'Z9 N'Z9 B'Z9 X'Z9 T'Z9 hhZ9 hAZ9 hdZ9 huZ9 hretZ9; (try dsimp only); (try simp only [List.cons_append, List.nil_append, List.append_assoc] at N'Z9))
  k_steps
  ((with_reducible rename RetE _ _ _ _ => hret9); (first | refine fin_ret hret9 (by assumption) (by assumption) rfl ?_ | refine fin_next hret9 (by assumption) (by assumption) rfl ?_))
  exact ⟨rfl, rfl⟩
section
variable {cs : List Nat} {t : Nat} {R : Raw} {D : Option DRaw} {rest : Led} {A : Abs}
theorem Rep.setNone (P : Rep cs t R D rest A) : Rep cs t { R with T := { R.T with draft := .none } } none rest { A with dr := none } :=
  ⟨P.sgs, P.pos, P.state, P.back, P.outs, P.errs, P.buffer, P.last, P.done, P.waiting, rfl, trivial, ⟨P.ord.o1, P.ord.o2, P.ord.o3, P.ord.o4, P.ord.o5, P.ord.o6⟩, ⟨P.off.f1, P.off.f2, P.off.f3⟩⟩
theorem Rep.addOut (P : Rep cs t R D rest A) {v : Value} {dd : Dat} (n : Nat) (h : DatIn rest v dd) : Rep cs t { R with outs := R.outs ++ [v], on := n } D rest { A with out := A.out ++ [dd] } :=
  ⟨P.sgs, P.pos, P.state, P.back, P.outs.append (.one h), P.errs, P.buffer, P.last, P.done, P.waiting, P.handed, DrRep.of (R := R) rfl rfl P.dr, ⟨P.ord.o1, P.ord.o2, P.ord.o3, P.ord.o4, P.ord.o5, P.ord.o6⟩, ⟨P.off.f1, P.off.f2, P.off.f3⟩⟩
theorem Raw.drEq {v : Value} (h : R.T.draft = v) : R = { R with T := { R.T with draft := v } } := by
  subst h
  rfl
theorem sub_two {M Y Z : Led} : ∀ p ∈ Y ++ (M ++ Z), p ∈ M ++ (Y ++ Z) := by
  intro p hp
  simp only [List.mem_append] at hp ⊢
  rcases hp with h | h | h <;> simp [h]
theorem sub_three {M Y Z E : Led} {q : Addr × Obj} : ∀ p ∈ M ++ (q :: (E ++ Z)), p ∈ Y ++ (q :: (E ++ (M ++ Z))) := by
  intro p hp
  simp only [List.mem_append, List.mem_cons] at hp ⊢
  rcases hp with h | h | h | h <;> simp [h]
theorem off_tl {q : Addr × Obj} {l : Led} (h : Off R (q :: l)) : Off R l := ⟨fun p hp => h.f1 p (.tail _ hp), fun p hp => h.f2 p (.tail _ hp), fun p hp => h.f3 p (.tail _ hp)⟩
/-- the token of a draft, given out -/
theorem after_end {w : World} {R0 : Raw} {exs ex : Led} {A' A2 : Abs} {p q on : Nat} {k1 k2 : Tok} {D : DRaw} {d : Dr} (e : R.T.states = R0.T.states)
    (P : Rep cs t R none (((p, tup [.str (Str.ofString "end") k1, .str D.name k2, .ref q, .bool D.closing]) :: ex) ++ (exs ++ rest)) A')
    (hq : DatIn ex (.ref q) (.tuple ((keptOf d.attrs).map atD))) (q2 : D.name = tx d.name) (q3 : D.closing = d.closing)
    (hA : { A' with out := A'.out ++ [endD d.name (keptOf d.attrs) d.closing] } = A2) :
    (Value.none = .none) ∧ After w cs t R0 none rest A2 (ML w t { R with outs := R.outs ++ [.ref p], on := on } ++ ((p, tup [.str (Str.ofString "end") k1, .str D.name k2, .ref q, .bool D.closing]) :: (ex ++ (exs ++ rest)))) := by
  subst hA
  have P2 := P.addOut on (v := .ref p) (dd := endD d.name (keptOf d.attrs) d.closing)
    (.tuple (n := 0) (.head _) (.cons (.str _ _) (.cons (q2 ▸ .str _ _) (.cons (hq.mono fun _ hp => .tail _ (List.mem_append.mpr (.inl hp))) (.cons (q3 ▸ .bool _) .nil)))))
  refine ⟨rfl, { R with outs := R.outs ++ [.ref p], on := on }, ((p, tup [.str (Str.ofString "end") k1, .str D.name k2, .ref q, .bool D.closing]) :: ex) ++ exs, ?_, ?_, ?_⟩
  · exact e
  · simp only [DLo, List.nil_append, List.cons_append, List.append_assoc]
  · rw [List.append_assoc]; exact P2
end
section
variable {cs : List Nat} {t : Nat} {R : Raw} {D : DRaw} {rest : Led} {A : Abs} {d : Dr}
theorem q5of (P : Rep cs t R (some D) rest A) (hd : A.dr = some d) : OrdD R D := by
  have q := P.dr
  rw [hd] at q
  exact q.2.2.2.2.1
theorem Rep.drAll (P : Rep cs t R (some D) rest A) (hd : A.dr = some d) : DatAll rest D.avs (d.attrs.map a3D) := by
  have q := P.dr
  rw [hd] at q
  exact q.2.2.2.1
end
section
variable (w : World) (cs : List Nat) (t : Nat) (R : Raw) (D : DRaw) (rest : Led) (A : Abs) (d : Dr) (P : Rep cs t R (some D) rest A)
include P
set_option maxHeartbeats 8000000 in
theorem emit_draft_rep (hd : A.dr = some d) (i : Nat) (hi : A.pos = i + 1) (hb : A.out.length ≤ 900) (he : A.errs.length ≤ 900) (ha : d.attrs.length ≤ 100) :
    Spec w 390 [.ref t] 20 40 (ML w t R ++ (DLo w (some D) ++ rest)) (fun v n => v = .none ∧ After w cs t R none rest { emitDraft A i d with st := A.st, pos := A.pos } n) := by
  have q := P.dr
  rw [hd] at q
  obtain ⟨q1, q2, q3, q4, q5, q6⟩ := q
  have hla : D.avs.length = d.attrs.length := by rw [q4.length, List.length_map]
  obtain ⟨R0, e0⟩ : ∃ R0 : Raw, R = { R0 with T := { R0.T with draft := .ref D.d } } := ⟨R, Raw.drEq q1⟩
  subst e0
  have C : True := trivial
  (k_dflt (refine' spec_def ?ho ?hcd ?hb ?hs ?_; (case ho => k_is); (case hcd => k_is); (case hb => exact fun _ => BindsTo.of_eq rfl); (case hs => exact rfl); k_whole); intro meanZ9 mgZ9 mbZ9 AZ9 A₀Z9 outerZ9 baseZ9 gZ9 LZ9 sZ9 qZ9 F'Z9 N'Z9 B'Z9 X'Z9 T'Z9 hhZ9 hAZ9 hdZ9 huZ9 hretZ9; (try dsimp only); (try simp only [List.cons_append, List.nil_append, List.append_assoc] at N'Z9))
  have Z := P.offAll w
  obtain ⟨z1, z2, z3⟩ := Z
  obtain ⟨u1, u2, u3, u4, u5, u6⟩ := P.ord
  obtain ⟨f1, f2, f3⟩ := P.off
  have q5' : OrdD _ D := q5of P hd
  obtain ⟨p1, p2, p3⟩ := q5'
  (try dsimp only at u1 u2 u3 u4 u5 u6 f1 f2 f3 p1)
  k_steps
  refine hold_in ?_
  (with_reducible rename Fr _ _ _ _ => F7)
  refine execs_joinR F7 (fun nx => ∃ R1 ex1, R1.T.states = R0.T.states ∧ nx = ML w t R1 ++ (DLo w (some D) ++ (ex1 ++ rest)) ∧ Rep cs t R1 (some D) (ex1 ++ rest) { A with errs := A.errs ++ (if d.attrs = [] then [] else [erD attrE i]) ++ (if d.closing then [erD solE i] else []) }) ?h1 ?h2
  case h1 =>
    rcases hat : d.attrs with _ | ⟨a, as⟩
    · have hz : D.avs.length = 0 := by rw [hla, hat]; rfl
      rcases hcl : d.closing with _ | _
      · have hz2 : D.closing = false := q3.trans hcl
        k_steps
        (with_reducible rename Fr _ _ _ _ => F7)
        (with_reducible rename News _ _ _ _ => N7)
        exact JoinP.intro F7 N7 ⟨{ R0 with T := { R0.T with draft := .ref D.d } }, [], rfl, rfl, by rw [if_pos rfl, if_neg (by decide), List.append_nil, List.append_nil]; exact P⟩
      · have hz2 : D.closing = true := q3.trans hcl
        replace C := fun z => error_rep w cs t _ (some D) _ _ P solE z i hi (by (try dsimp only); (try simp only [List.length_append, List.length_cons, List.length_nil]); omega)
        k_steps
        refine hold_in ?_
        (k_dflt (refine' use_after ?S ?B ?F ?X ?N ?T ?hh ?hA ?hf ?hk ?hd ?hu ?_; ((case S => first | assumption | ((with_reducible rename (∀ _ : Tok, Spec _ _ _ _ _ _ _) => C9); exact C9 _)); (case hA => first | with_reducible assumption | exact rfl); (case hf => exact rfl); (case F => k_asm); (case B => k_asm); (case X => k_asm); (case N => first | k_asm | exact news_tail (by k_asm) | exact news_tail (news_tail (by k_asm))); (case T => k_asm); (case hh => first | with_reducible assumption | exact rfl); (case hk => exact rfl); (case hd => ktr_room); (case hu => ktr_units))))
        intro R1 ex1 h9 tk9 e1 P1 F9 N9
        k_sweep
        k_steps
        (with_reducible rename Fr _ _ _ _ => F7)
        (with_reducible rename News _ _ _ _ => N7)
        exact JoinP.intro F7 N7 ⟨R1, ex1, e1, rfl, by simpa using P1⟩
    · have hz : D.avs.length = as.length + 1 := by rw [hla, hat]; rfl
      rcases hcl : d.closing with _ | _
      · have hz2 : D.closing = false := q3.trans hcl
        replace C := fun z => error_rep w cs t _ (some D) _ _ P attrE z i hi (by (try dsimp only); (try simp only [List.length_append, List.length_cons, List.length_nil]); omega)
        k_steps
        refine hold_in ?_
        (k_dflt (refine' use_after ?S ?B ?F ?X ?N ?T ?hh ?hA ?hf ?hk ?hd ?hu ?_; ((case S => first | assumption | ((with_reducible rename (∀ _ : Tok, Spec _ _ _ _ _ _ _) => C9); exact C9 _)); (case hA => first | with_reducible assumption | exact rfl); (case hf => exact rfl); (case F => k_asm); (case B => k_asm); (case X => k_asm); (case N => first | k_asm | exact news_tail (by k_asm) | exact news_tail (news_tail (by k_asm))); (case T => k_asm); (case hh => first | with_reducible assumption | exact rfl); (case hk => exact rfl); (case hd => ktr_room); (case hu => ktr_units))))
        intro R1 ex1 h9 tk9 e1 P1 F9 N9
        k_sweep
        k_steps
        (with_reducible rename Fr _ _ _ _ => F7)
        (with_reducible rename News _ _ _ _ => N7)
        exact JoinP.intro F7 N7 ⟨R1, ex1, e1, rfl, by simpa using P1⟩
      · have hz2 : D.closing = true := q3.trans hcl
        replace C := fun z => error_rep w cs t _ (some D) _ _ P attrE z i hi (by (try dsimp only); (try simp only [List.length_append, List.length_cons, List.length_nil]); omega)
        k_steps
        refine hold_in ?_
        (k_dflt (refine' use_after ?S ?B ?F ?X ?N ?T ?hh ?hA ?hf ?hk ?hd ?hu ?_; ((case S => first | assumption | ((with_reducible rename (∀ _ : Tok, Spec _ _ _ _ _ _ _) => C9); exact C9 _)); (case hA => first | with_reducible assumption | exact rfl); (case hf => exact rfl); (case F => k_asm); (case B => k_asm); (case X => k_asm); (case N => first | k_asm | exact news_tail (by k_asm) | exact news_tail (news_tail (by k_asm))); (case T => k_asm); (case hh => first | with_reducible assumption | exact rfl); (case hk => exact rfl); (case hd => ktr_room); (case hu => ktr_units))))
        intro R1 ex1 h9 tk9 e1 P1 F9 N9
        k_sweep
        replace C := fun z => error_rep w cs t _ (some D) _ _ P1 solE z i hi (by (try dsimp only); (try simp only [List.length_append, List.length_cons, List.length_nil]); omega)
        k_steps
        refine hold_in ?_
        (k_dflt (refine' use_after ?S ?B ?F ?X ?N ?T ?hh ?hA ?hf ?hk ?hd ?hu ?_; ((case S => first | assumption | ((with_reducible rename (∀ _ : Tok, Spec _ _ _ _ _ _ _) => C9); exact C9 _)); (case hA => first | with_reducible assumption | exact rfl); (case hf => exact rfl); (case F => k_asm); (case B => k_asm); (case X => k_asm); (case N => first | k_asm | exact news_tail (by k_asm) | exact news_tail (news_tail (by k_asm))); (case T => k_asm); (case hh => first | with_reducible assumption | exact rfl); (case hk => exact rfl); (case hd => ktr_room); (case hu => ktr_units))))
        intro R2 ex2 h9 tk9 e2 P2 F9 N9
        k_sweep
        k_steps
        (with_reducible rename Fr _ _ _ _ => F7)
        (with_reducible rename News _ _ _ _ => N7)
        exact JoinP.intro F7 N7 ⟨R2, ex2 ++ ex1, e2.trans e1, by (rw [List.append_assoc]; try rfl), by rw [List.append_assoc]; simpa using P2⟩
  case h2 =>
    clear F7 z1 z2 z3 u1 u2 u3 u4 u5 u6 f1 f2 f3 p1 p2 p3
    rintro h9 tk9 nx F9 N9 ⟨R1, ex1, e1, rfl, P1⟩
    have Z := P1.offAll w
    obtain ⟨z1, z2, z3⟩ := Z
    obtain ⟨u1, u2, u3, u4, u5, u6⟩ := P1.ord
    obtain ⟨f1, f2, f3⟩ := P1.off
    have q5' : OrdD _ D := q5of P1 hd
    obtain ⟨p1, p2, p3⟩ := q5'
    (try dsimp only at u1 u2 u3 u4 u5 u6 f1 f2 f3 p1)
    k_steps
    refine hold_in ?_
    (with_reducible rename News _ _ _ _ => N8)
    have N7 : News _ _ _ (ML w t { R1 with T := { R1.T with draft := .none } } ++ (DL w D ++ (ex1 ++ rest))) := N8
    clear N8
    replace N7 := cb_drop N7 (sub_two (Y := DL w D))
    have q4' := P1.drAll hd
    replace C := token_spec w D (ML w t { R1 with T := { R1.T with draft := .none } } ++ (ex1 ++ rest)) d.attrs (q4'.mono fun _ hp => List.mem_append.mpr (.inr hp)) (by omega)
    (k_dflt (refine' spec_elim ?S ?B ?F ?X ?N ?T ?hh ?hA ?hf ?hk ?hd ?hu (token_elim ?_); ((case S => first | assumption | ((with_reducible rename (∀ _ : Tok, Spec _ _ _ _ _ _ _) => C9); exact C9 _)); (case hA => first | with_reducible assumption | exact rfl); (case hf => exact rfl); (case F => k_asm); (case B => k_asm); (case X => k_asm); (case N => first | k_asm | exact news_tail (by k_asm) | exact news_tail (news_tail (by k_asm))); (case T => k_asm); (case hh => first | with_reducible assumption | exact rfl); (case hk => exact rfl); (case hd => ktr_room); (case hu => ktr_units))))
    intro p ex k1 k2 q hf hq h9 tk9 F9 N9
    k_sweep
    replace N9 := cb_drop N9 (sub_three (Y := DL w D) (E := ex))
    clear C
    have hm : (R1.T.errors, listOf R1.ers.toArray R1.en) ∈ DL w D ++ (ML w t { R1 with T := { R1.T with draft := .none } } ++ (ex1 ++ rest)) := .tail _ (.tail _ (.tail _ (.tail _ (.tail _ (.tail _ (.tail _ (.tail _ (.tail _ (.head _)))))))))
    have hp : R1.T.errors < p := hf _ (.head _) _ hm
    have P8 := Rep.more (w := w) (ex := (p, tup [.str (Str.ofString "end") k1, .str D.name k2, .ref q, .bool D.closing]) :: ex) P1.setNone (fun x hx => ⟨hf x hx _ hm, fun y hy => hf x hx y (List.mem_append.mpr (.inr (List.mem_append.mpr (.inr hy))))⟩)
    have C := emit_end_spec w t _ (ex ++ (ex1 ++ rest)) p q k1 k2 D.name D.closing P8.ord (off_tl P8.off) (by rw [P8.outs.length]; (try dsimp only); omega) hp
    k_steps
    refine hold_in ?_
    (k_dflt (refine' use_eq ?S ?B ?F ?X ?N ?T ?hh ?hA ?hf ?hk ?hd ?hu ?_; ((case S => first | assumption | ((with_reducible rename (∀ _ : Tok, Spec _ _ _ _ _ _ _) => C9); exact C9 _)); (case hA => first | with_reducible assumption | exact rfl); (case hf => exact rfl); (case F => k_asm); (case B => k_asm); (case X => k_asm); (case N => first | k_asm | exact news_tail (by k_asm) | exact news_tail (news_tail (by k_asm))); (case T => k_asm); (case hh => first | with_reducible assumption | exact rfl); (case hk => exact rfl); (case hd => ktr_room); (case hu => ktr_units))))
    intro h9 tk9 F9 N9
    k_sweep
    k_steps
    ((with_reducible rename RetE _ _ _ _ => hret9); (first | refine fin_ret hret9 (by assumption) (by assumption) rfl ?_ | refine fin_next hret9 (by assumption) (by assumption) rfl ?_))
    exact after_end (exs := ex1) e1 P8 hq q2 q3 (by first | rfl | simp [emitDraft, keptOf, endD])
end
end
example : True := by w_top off; trivial
section
section
variable {cs : List Nat} {tz : Nat} {R : Raw} {D : DRaw} {rest : Led} {A : Abs} {d : Dr}
theorem Rep.setClosing (P : Rep cs tz R (some D) rest A) (hd : A.dr = some d) : Rep cs tz R (some { D with closing := true }) rest { A with dr := some { d with closing := true } } := by
  have q := P.dr
  rw [hd] at q
  obtain ⟨q1, q2, q3, q4, q5, q6⟩ := q
  exact ⟨P.sgs, P.pos, P.state, P.back, P.outs, P.errs, P.buffer, P.last, P.done, P.waiting, P.handed, ⟨q1, q2, rfl, q4, ⟨q5.o1, q5.o2, q5.o3⟩, ⟨q6.f1, q6.f2⟩⟩, ⟨P.ord.o1, P.ord.o2, P.ord.o3, P.ord.o4, P.ord.o5, P.ord.o6⟩, ⟨P.off.f1, P.off.f2, P.off.f3⟩⟩
theorem Rep.drEqq (P : Rep cs tz R (some D) rest A) (hd : A.dr = some d) : R.T.draft = .ref D.d := by
  have q := P.dr
  rw [hd] at q
  exact q.1
theorem q6off (P : Rep cs tz R (some D) rest A) (hd : A.dr = some d) : OffD D rest := by
  have q := P.dr
  rw [hd] at q
  exact q.2.2.2.2.2
end
section
variable {cs : List Nat} {A : Abs} {d : Dr}
theorem sol_end (hst : A.st = .sol) (hd : A.dr = some d) (hc : cs[A.pos]? = none) : stepA cs A = { A with pos := A.pos + 1, out := A.out ++ [eofD], done := true, errs := A.errs ++ [erD eofE A.pos] } := by
  (first | rw [stepA_held hst] | rw [stepA_lt hst] | rw [stepA_eto hst] | rw [stepA_etn hst] | rw [stepA_ref hst] | rw [stepA_ba hst] | rw [stepA_sol hst]); (first | unfold stHeld | unfold stLt | unfold stEto | unfold stEtn | unfold stRef | unfold stBa | unfold stSol); (try dsimp only); rw [hd]; dsimp only; rw [hc]; simp only [eof, hst, hd]
theorem sol_c {c : Nat} (hst : A.st = .sol) (hd : A.dr = some d) (hc : cs[A.pos]? = some c) : stepA cs A = if c = 62 then emitDraft A A.pos { d with closing := true } else { A with st := .ba } := by
  (first | rw [stepA_held hst] | rw [stepA_lt hst] | rw [stepA_eto hst] | rw [stepA_etn hst] | rw [stepA_ref hst] | rw [stepA_ba hst] | rw [stepA_sol hst]); (first | unfold stHeld | unfold stLt | unfold stEto | unfold stEtn | unfold stRef | unfold stBa | unfold stSol); (try dsimp only); rw [hd]; dsimp only; rw [hc]
end
section
variable (w : World) (cs : List Nat) (tz : Nat) (R : Raw) (rest : Led) (A : Abs)
theorem ref_spec (hst : A.st = .ref) (P : Rep cs tz R none rest A) (G : Good cs A) :
    Spec w 510 [.ref tz] 40 80 (ML w tz R ++ (DLo w none ++ rest)) (Stepped w cs tz R rest (stepA cs A)) := by
  have g1 := G.out
  have hd := True
  (first | rw [stepA_held hst] | rw [stepA_lt hst] | rw [stepA_eto hst] | rw [stepA_etn hst] | rw [stepA_ref hst] | rw [stepA_ba hst] | rw [stepA_sol hst])
  (first | unfold stHeld | unfold stLt | unfold stEto | unfold stEtn | unfold stRef | unfold stBa | unfold stSol)
  (try dsimp only)
  have C := trivial
  have Z := P.offAll w
  obtain ⟨z1, z2, z3⟩ := Z
  obtain ⟨o1, o2, o3, o4, o5, o6⟩ := P.ord
  obtain ⟨f1, f2, f3⟩ := P.off
  (k_dflt (refine' spec_def ?ho ?hcd ?hb ?hs ?_; (case ho => k_is); (case hcd => k_is); (case hb => exact fun _ => BindsTo.of_eq rfl); (case hs => exact rfl); k_whole); intro meanZ9 mgZ9 mbZ9 AZ9 A₀Z9 outerZ9 baseZ9 gZ9 LZ9 sZ9 qZ9 F'Z9 N'Z9 B'Z9 X'Z9 T'Z9 hhZ9 hAZ9 hdZ9 huZ9 hretZ9; (try dsimp only); (try simp only [List.cons_append, List.nil_append, List.append_assoc] at N'Z9))
  k_steps
  refine hold_in ?_
  (with_reducible rename News _ _ _ _ => N8)
  obtain ⟨bt, N7⟩ : ∃ bt, News _ _ _ (ML w tz { R with T := { R.T with buffer := Str.ofString "&", bfT := bt } } ++ (DLo w none ++ rest)) := ⟨_, N8⟩
  clear N8
  replace C := flush_rep w cs tz _ none rest _ (P.setBuffer (Str.ofString "&") [38] bt (by decide +kernel)) (by dsimp only; omega) (by simp)
  (k_dflt (refine' use_after ?S ?B ?F ?X ?N ?T ?hh ?hA ?hf ?hk ?hd ?hu ?_; ((case S => first | assumption | ((with_reducible rename (∀ _ : Tok, Spec _ _ _ _ _ _ _) => C9); exact C9 _)); (case hA => first | with_reducible assumption | exact rfl); (case hf => exact rfl); (case F => k_asm); (case B => k_asm); (case X => k_asm); (case N => first | k_asm | exact news_tail (by k_asm) | exact news_tail (news_tail (by k_asm))); (case T => k_asm); (case hh => first | with_reducible assumption | exact rfl); (case hk => exact rfl); (case hd => ktr_room); (case hu => ktr_units))))
  intro R1 ex1 h9 tk9 e1 P1 F9 N9
  k_sweep
  have hb : R1.T.back = stS (backSt A.back) := by rw [P1.back, stS_back]
  replace C := fun z => to_rep w cs tz R1 none (ex1 ++ rest) _ P1 (backSt A.back) z
  k_steps
  refine hold_in ?_
  rw [hb]
  (k_dflt (refine' use_after ?S ?B ?F ?X ?N ?T ?hh ?hA ?hf ?hk ?hd ?hu ?_; ((case S => first | assumption | ((with_reducible rename (∀ _ : Tok, Spec _ _ _ _ _ _ _) => C9); exact C9 _)); (case hA => first | with_reducible assumption | exact rfl); (case hf => exact rfl); (case F => k_asm); (case B => k_asm); (case X => k_asm); (case N => first | k_asm | exact news_tail (by k_asm) | exact news_tail (news_tail (by k_asm))); (case T => k_asm); (case hh => first | with_reducible assumption | exact rfl); (case hk => exact rfl); (case hd => ktr_room); (case hu => ktr_units))))
  intro R2 ex2 h9 tk9 e2 P2 F9 N9
  k_sweep
  k_steps
  ((with_reducible rename RetE _ _ _ _ => hret9); (first | refine fin_ret hret9 (by assumption) (by assumption) rfl ?_ | refine fin_next hret9 (by assumption) (by assumption) rfl ?_))
  exact stepped2 e1 e2 P2 (by first | rfl | (simp only [hst]; done) | (simp only [hst, hd]; done) | simp [hst, hd, emitDraft, eof])
variable (D : DRaw)
set_option maxHeartbeats 8000000 in
theorem sol_spec (hst : A.st = .sol) (d : Dr) (hd : A.dr = some d) (P : Rep cs tz R (some D) rest A) (G : Good cs A) :
    Spec w 503 [.ref tz] 40 80 (ML w tz R ++ (DLo w (some D) ++ rest)) (Stepped w cs tz R rest (stepA cs A)) := by
  have g1 := G.out
  have g2 := G.errs
  have g3 := G.pos
  have g4 := G.len
  have C := next_rep w cs tz R (some D) rest A P (by omega) (by omega)
  (k_dflt (refine' spec_def ?ho ?hcd ?hb ?hs ?_; (case ho => k_is); (case hcd => k_is); (case hb => exact fun _ => BindsTo.of_eq rfl); (case hs => exact rfl); k_whole); intro meanZ9 mgZ9 mbZ9 AZ9 A₀Z9 outerZ9 baseZ9 gZ9 LZ9 sZ9 qZ9 F'Z9 N'Z9 B'Z9 X'Z9 T'Z9 hhZ9 hAZ9 hdZ9 huZ9 hretZ9; (try dsimp only); (try simp only [List.cons_append, List.nil_append, List.append_assoc] at N'Z9))
  k_steps
  refine hold_in ?_
  (k_dflt (refine' use_next ?S ?B ?F ?X ?N ?T ?hh ?hA ?hf ?hk ?hd ?hu ?_; ((case S => first | assumption | ((with_reducible rename (∀ _ : Tok, Spec _ _ _ _ _ _ _) => C9); exact C9 _)); (case hA => first | with_reducible assumption | exact rfl); (case hf => exact rfl); (case F => k_asm); (case B => k_asm); (case X => k_asm); (case N => first | k_asm | exact news_tail (by k_asm) | exact news_tail (news_tail (by k_asm))); (case T => k_asm); (case hh => first | with_reducible assumption | exact rfl); (case hk => exact rfl); (case hd => ktr_room); (case hu => ktr_units))))
  intro tk1 R1 ex1 h9 tk9 e1 P1 F9 N9
  k_sweep
  clear C
  rcases hc : cs[A.pos]? with _ | c
  · rw [show signAt cs A.pos = Str.ofString "" by simp [signAt, hc]]
    have C := fun z => error_rep w cs tz R1 (some D) (ex1 ++ rest) _ P1 eofE z A.pos rfl (by dsimp only; omega)
    k_steps
    refine hold_in ?_
    (k_dflt (refine' use_after ?S ?B ?F ?X ?N ?T ?hh ?hA ?hf ?hk ?hd ?hu ?_; ((case S => first | assumption | ((with_reducible rename (∀ _ : Tok, Spec _ _ _ _ _ _ _) => C9); exact C9 _)); (case hA => first | with_reducible assumption | exact rfl); (case hf => exact rfl); (case F => k_asm); (case B => k_asm); (case X => k_asm); (case N => first | k_asm | exact news_tail (by k_asm) | exact news_tail (news_tail (by k_asm))); (case T => k_asm); (case hh => first | with_reducible assumption | exact rfl); (case hk => exact rfl); (case hd => ktr_room); (case hu => ktr_units))))
    intro R2 ex2 h9 tk9 e2 P2 F9 N9
    k_sweep
    replace C := emit_eof_rep w cs tz R2 (some D) (ex2 ++ (ex1 ++ rest)) _ P2 (by dsimp only; omega)
    k_steps
    refine hold_in ?_
    (k_dflt (refine' use_after ?S ?B ?F ?X ?N ?T ?hh ?hA ?hf ?hk ?hd ?hu ?_; ((case S => first | assumption | ((with_reducible rename (∀ _ : Tok, Spec _ _ _ _ _ _ _) => C9); exact C9 _)); (case hA => first | with_reducible assumption | exact rfl); (case hf => exact rfl); (case F => k_asm); (case B => k_asm); (case X => k_asm); (case N => first | k_asm | exact news_tail (by k_asm) | exact news_tail (news_tail (by k_asm))); (case T => k_asm); (case hh => first | with_reducible assumption | exact rfl); (case hk => exact rfl); (case hd => ktr_room); (case hu => ktr_units))))
    intro R3 ex3 h9 tk9 e3 P3 F9 N9
    k_sweep
    k_steps
    ((with_reducible rename RetE _ _ _ _ => hret9); (first | refine fin_ret hret9 (by assumption) (by assumption) rfl ?_ | refine fin_next hret9 (by assumption) (by assumption) rfl ?_))
    exact stepped3 e1 e2 e3 P3 (sol_end hst hd hc).symm
  · rw [show signAt cs A.pos = sg c by simp [signAt, hc]]
    have b0 : (sg c == Str.ofString "") = false := sgE
    by_cases h2 : c = 62
    · subst h2
      have q1 := P1.drEqq hd
      obtain ⟨R0, e0⟩ : ∃ R0 : Raw, R1 = { R0 with T := { R0.T with draft := .ref D.d } } := ⟨R1, Raw.drEq q1⟩
      subst e0
      have Z := P1.offAll w
      obtain ⟨z1, z2, z3⟩ := Z
      obtain ⟨u1, u2, u3, u4, u5, u6⟩ := P1.ord
      obtain ⟨f1, f2, f3⟩ := P1.off
      obtain ⟨p1, p2, p3⟩ := q5of P1 hd
      obtain ⟨r1, r2⟩ := q6off P1 hd
      (try dsimp only at u1 u2 u3 u4 u5 u6 f1 f2 f3 p1)
      dsimp only [DLo, DL, List.cons_append, List.nil_append] at N9
      have C := trivial
      k_steps
      refine hold_in ?_
      (with_reducible rename News _ _ _ _ => N8)
      have N7 : News _ _ _ (ML w tz { R0 with T := { R0.T with draft := .ref D.d } } ++ (DLo w (some { D with closing := true }) ++ (ex1 ++ rest))) := N8
      clear N8
      replace C := fun z => to_rep w cs tz _ (some { D with closing := true }) (ex1 ++ rest) _ (P1.setClosing hd) .data z
      (k_dflt (refine' use_after ?S ?B ?F ?X ?N ?T ?hh ?hA ?hf ?hk ?hd ?hu ?_; ((case S => first | assumption | ((with_reducible rename (∀ _ : Tok, Spec _ _ _ _ _ _ _) => C9); exact C9 _)); (case hA => first | with_reducible assumption | exact rfl); (case hf => exact rfl); (case F => k_asm); (case B => k_asm); (case X => k_asm); (case N => first | k_asm | exact news_tail (by k_asm) | exact news_tail (news_tail (by k_asm))); (case T => k_asm); (case hh => first | with_reducible assumption | exact rfl); (case hk => exact rfl); (case hd => ktr_room); (case hu => ktr_units))))
      intro R2 ex2 h9 tk9 e2 P2 F9 N9
      k_sweep
      replace C := emit_draft_rep w cs tz R2 { D with closing := true } (ex2 ++ (ex1 ++ rest)) _ { d with closing := true } P2 rfl A.pos rfl (by dsimp only; omega) (by dsimp only; omega) (G.attrs d hd)
      k_steps
      refine hold_in ?_
      (k_dflt (refine' use_after ?S ?B ?F ?X ?N ?T ?hh ?hA ?hf ?hk ?hd ?hu ?_; ((case S => first | assumption | ((with_reducible rename (∀ _ : Tok, Spec _ _ _ _ _ _ _) => C9); exact C9 _)); (case hA => first | with_reducible assumption | exact rfl); (case hf => exact rfl); (case F => k_asm); (case B => k_asm); (case X => k_asm); (case N => first | k_asm | exact news_tail (by k_asm) | exact news_tail (news_tail (by k_asm))); (case T => k_asm); (case hh => first | with_reducible assumption | exact rfl); (case hk => exact rfl); (case hd => ktr_room); (case hu => ktr_units))))
      intro R3 ex3 h9 tk9 e3 P3 F9 N9
      k_sweep
      k_steps
      ((with_reducible rename RetE _ _ _ _ => hret9); (first | refine fin_ret hret9 (by assumption) (by assumption) rfl ?_ | refine fin_next hret9 (by assumption) (by assumption) rfl ?_))
      rw [(sol_c hst hd hc).trans (if_pos rfl)]
      exact stepped3 e1 e2 e3 P3 (by first | rfl | simp [emitDraft])
    · have b4 : (sg c == Str.ofString ">") = false := sgne 62 (by decide +kernel) h2
      have C := fun z => again_rep w cs tz R1 (some D) (ex1 ++ rest) _ P1 .ba z A.pos rfl
      k_steps
      refine hold_in ?_
      (k_dflt (refine' use_after ?S ?B ?F ?X ?N ?T ?hh ?hA ?hf ?hk ?hd ?hu ?_; ((case S => first | assumption | ((with_reducible rename (∀ _ : Tok, Spec _ _ _ _ _ _ _) => C9); exact C9 _)); (case hA => first | with_reducible assumption | exact rfl); (case hf => exact rfl); (case F => k_asm); (case B => k_asm); (case X => k_asm); (case N => first | k_asm | exact news_tail (by k_asm) | exact news_tail (news_tail (by k_asm))); (case T => k_asm); (case hh => first | with_reducible assumption | exact rfl); (case hk => exact rfl); (case hd => ktr_room); (case hu => ktr_units))))
      intro R2 ex2 h9 tk9 e2 P2 F9 N9
      k_sweep
      k_steps
      ((with_reducible rename RetE _ _ _ _ => hret9); (first | refine fin_ret hret9 (by assumption) (by assumption) rfl ?_ | refine fin_next hret9 (by assumption) (by assumption) rfl ?_))
      exact stepped2 e1 e2 P2 ((sol_c hst hd hc).trans (if_neg h2)).symm
end
end
example : True := by w_top off; trivial
section
theorem news_beg {h₀ h : Heap} {L : Addr} {q1 a1 a2 a3 : Addr × Obj} {rest : Led} (N : News h₀ L h (q1 :: a1 :: a2 :: a3 :: rest)) : News h₀ L h (a1 :: a2 :: a3 :: q1 :: rest) := by
  intro p hp
  apply N
  simp only [List.mem_cons] at hp ⊢
  rcases hp with h | h | h | h | h <;> simp [h]
noncomputable abbrev atO (x : PySem.Str) (k1 k2 : Tok) (b : Bool) : Obj := listOf #[.str x k1, .str (Str.ofString "") k2, .bool b] 0
theorem nil_app (x : PySem.Str) : Str.ofString "" ++ x = x := by
  show PySem.Str.mk _ = _
  have : (Str.ofString "").cps = #[] := by decide +kernel
  rw [this]; simp
theorem x_drop {x a b c d : Addr × Obj} {rest own : Led} : ∀ p ∈ [a, b, c] ++ (d :: rest), p ∈ x :: a :: b :: c :: d :: (rest ++ own) := by
  intro p hp
  simp only [List.cons_append, List.nil_append, List.mem_cons, List.mem_append] at hp ⊢
  rcases hp with h | h | h | h | h <;> simp [h]
theorem item_last {prog : Program} {w : World} {A : Around} {E : Value → Shared → Prop} {s : Shared} {value slice : PySem.Expr} {l : Addr} {vs pre : List Value} {u : Tok} {v : Value} {Q : Value → Shared → Prop}
    (hl : s.heap.IsList l vs.toArray) (hv : vs = pre ++ [v])
    (hs : subscripted slice false (.ref l) (.int (-1) u) = operate [.ref l, .int (-1) u] (getItem (.ref l) (.int (-1) u))) (h : Q v s) :
    wpAny (model prog w) A (subscriptTail value slice (.ref l) (.int (-1) u)) Q E s := by
  refine tail_any hl.typeIs slot_list_getitem.lookup (wpAny_getItem_list_neg hl (by decide) ?_ (by decide) ?_ h) hs
  · subst hv; simp; omega
  · subst hv
    have e : ((-1 : Int) + ((pre ++ [v]).toArray.size : Int)).toNat = pre.length := by simp; omega
    rw [e]; simp
set_option hygiene false
local macro_rules | `(tactic| walk_at "subscriptTail Name UnaryOp ref int") => `(tactic| refine hold_out ?_)
local macro_rules | `(tactic| walk_at "subscriptTail Name Constant ref int") => `(tactic| refine hold_out ?_)
set_option hygiene true
section
variable (w : World) (D : DRaw) (rest : Led)
theorem begin_spec (Z : OffD D rest) (O1 : D.dd < D.d) (O2 : D.d < D.attrs) (hb : D.avs.length ≤ 500) :
    Spec w 91 [.ref D.d] 10 20 (DL w D ++ rest)
      (fun v n => v = .none ∧ ∃ a k1 k2, (∀ y ∈ DL w D ++ rest, y.1 < a) ∧ n = DL w { D with avs := D.avs ++ [.ref a], an := D.an + 1 } ++ ((a, atO (Str.ofString "") k1 k2 true) :: rest)) := by
  obtain ⟨f1, f2⟩ := Z
  (k_dflt (refine' spec_def ?ho ?hcd ?hb ?hs ?_; (case ho => k_is); (case hcd => k_is); (case hb => exact fun _ => BindsTo.of_eq rfl); (case hs => exact rfl); k_whole); intro meanZ9 mgZ9 mbZ9 AZ9 A₀Z9 outerZ9 baseZ9 gZ9 LZ9 sZ9 qZ9 F'Z9 N'Z9 B'Z9 X'Z9 T'Z9 hhZ9 hAZ9 hdZ9 huZ9 hretZ9; (try dsimp only); (try simp only [List.cons_append, List.nil_append, List.append_assoc] at N'Z9))
  (k_steps; repeat' ((refine hold_in ?_); (first | ((with_reducible show wpAny _ _ (subscriptTail _ (Expr.UnaryOp _ _ _) _ _) _ _ _); ((with_unfolding_all (refine' item_last ?_ (by with_reducible assumption) ?_ ?_; (exact News.isList (by k_asm) (by k_dflt k_mem)); (with_unfolding_all rfl); k_whole)))) | ((with_reducible show wpAny _ _ (subscriptTail _ (Expr.Constant _ _ _) _ _) _ _ _); (first | (with_unfolding_all refine' item_tupleT (by exact News.isTup (by k_asm) (by k_dflt k_mem)) (by omega) (by omega) (by exact rfl) (by exact rfl) ?_ (by with_unfolding_all rfl); k_whole) | walk_at "rr0"))); k_steps))
  (with_reducible rename (_ ∧ _ ∧ _ ∧ AllLt _ _) => l1)
  (first | refine' fin_ret ?H9 ?F9 ?N9 ?e9 ?r | refine' fin_next ?H9 ?F9 ?N9 ?e9 ?r)
  case H9 => assumption
  case F9 => assumption
  case N9 => exact news_beg (by assumption)
  case e9 => exact rfl
  refine ⟨rfl, _, _, _, ?_, rfl⟩
  intro y hy
  rcases List.mem_append.mp hy with hy | hy
  · simp only [List.mem_cons, List.not_mem_nil, or_false] at hy
    rcases hy with rfl | rfl | rfl
    · exact l1.1
    · exact l1.2.1
    · exact l1.2.2.1
  · exact allLt_lt l1.2.2.2 y hy
theorem addname_spec (a c : Nat) (k1 k2 ct : Tok) (vs : List Value) (hvs : D.avs = vs ++ [.ref a]) (Z : OffD D rest) (Z2 : ∀ p ∈ rest, p.1 ≠ a) (O1 : D.dd < D.d) (O2 : D.d < D.attrs) (O3 : D.attrs < a) :
    Spec w 98 [.ref D.d, .str (sg c) ct] 10 20 (DL w D ++ ((a, atO (Str.ofString "") k1 k2 true) :: rest))
      (fun v n => v = .none ∧ ∃ k3, n = DL w D ++ ((a, atO (sg c) k3 k2 true) :: rest)) := by
  obtain ⟨f1, f2⟩ := Z
  (k_dflt (refine' spec_def ?ho ?hcd ?hb ?hs ?_; (case ho => k_is); (case hcd => k_is); (case hb => exact fun _ => BindsTo.of_eq rfl); (case hs => exact rfl); k_whole); intro meanZ9 mgZ9 mbZ9 AZ9 A₀Z9 outerZ9 baseZ9 gZ9 LZ9 sZ9 qZ9 F'Z9 N'Z9 B'Z9 X'Z9 T'Z9 hhZ9 hAZ9 hdZ9 huZ9 hretZ9; (try dsimp only); (try simp only [List.cons_append, List.nil_append, List.append_assoc] at N'Z9))
  (k_steps; repeat' ((refine hold_in ?_); (first | ((with_reducible show wpAny _ _ (subscriptTail _ (Expr.UnaryOp _ _ _) _ _) _ _ _); ((with_unfolding_all (refine' item_last ?_ (by with_reducible assumption) ?_ ?_; (exact News.isList (by k_asm) (by k_dflt k_mem)); (with_unfolding_all rfl); k_whole)))) | ((with_reducible show wpAny _ _ (subscriptTail _ (Expr.Constant _ _ _) _ _) _ _ _); (first | (with_unfolding_all refine' item_tupleT (by exact News.isTup (by k_asm) (by k_dflt k_mem)) (by omega) (by omega) (by exact rfl) (by exact rfl) ?_ (by with_unfolding_all rfl); k_whole) | walk_at "rr0"))); k_steps))
  (with_reducible rename News _ _ _ _ => N8)
  rw [nil_app] at N8
  ((with_reducible rename RetE _ _ _ _ => hret9); (first | refine fin_ret hret9 (by assumption) (by assumption) rfl ?_ | refine fin_next hret9 (by assumption) (by assumption) rfl ?_))
  exact ⟨rfl, _, rfl⟩
set_option maxHeartbeats 1000000 in
theorem check_spec (a c : Nat) (k1 k2 : Tok) (vs : List Value) (as : List (Nat × Bool)) (hvs : D.avs = vs ++ [.ref a]) (hd : DatAll rest vs (as.map a3D)) (hn : as.length ≤ 200) (Z : OffD D rest) (Z2 : ∀ p ∈ rest, p.1 ≠ a) (O1 : D.dd < D.d) (O2 : D.d < D.attrs) (O3 : D.attrs < a) :
    Spec w 112 [.ref D.d] 10 20 (DL w D ++ ((a, atO (sg c) k1 k2 true) :: rest))
      (fun v n => v = .bool (!(as.any fun x => x.2 && x.1 == c)) ∧ n = DL w D ++ ((a, atO (sg c) k1 k2 (!(as.any fun x => x.2 && x.1 == c))) :: rest)) := by
  obtain ⟨f1, f2⟩ := Z
  have hl : vs.length = as.length := by rw [hd.length, List.length_map]
  have hl2 : D.avs.length = as.length + 1 := by rw [hvs]; simp [hl]
  (k_dflt (refine' spec_def ?ho ?hcd ?hb ?hs ?_; (case ho => k_is); (case hcd => k_is); (case hb => exact fun _ => BindsTo.of_eq rfl); (case hs => exact rfl); k_whole); intro meanZ9 mgZ9 mbZ9 AZ9 A₀Z9 outerZ9 baseZ9 gZ9 LZ9 sZ9 qZ9 F'Z9 N'Z9 B'Z9 X'Z9 T'Z9 hhZ9 hAZ9 hdZ9 huZ9 hretZ9; (try dsimp only); (try simp only [List.cons_append, List.nil_append, List.append_assoc] at N'Z9))
  (k_steps; repeat' ((refine hold_in ?_); (first | ((with_reducible show wpAny _ _ (subscriptTail _ (Expr.UnaryOp _ _ _) _ _) _ _ _); ((with_unfolding_all (refine' item_last ?_ (by with_reducible assumption) ?_ ?_; (exact News.isList (by k_asm) (by k_dflt k_mem)); (with_unfolding_all rfl); k_whole)))) | ((with_reducible show wpAny _ _ (subscriptTail _ (Expr.Constant _ _ _) _ _) _ _ _); (first | (with_unfolding_all refine' item_tupleT (by exact News.isTup (by k_asm) (by k_dflt k_mem)) (by omega) (by omega) (by exact rfl) (by exact rfl) ?_ (by with_unfolding_all rfl); k_whole) | walk_at "rr0"))); k_steps))
  refine hold_in ?_
  (with_reducible rename Fr _ _ _ _ => F9)
  (with_reducible rename News _ _ _ _ => N9)
  (with_reducible rename IsRange _ _ _ _ _ _ _ _ => R9)
  have er : ((D.avs.toArray.size : Int) - 1) = (as.length : Int) := by simp [hl2]
  rw [er] at R9
  have hwb : (sg c == sg c) = true := by simp
  refine loop_range1 (n := as.length) (fun i nx => (∀ j (hj : j < i) (hj' : j < as.length), (as[j].2 && as[j].1 == c) = false) ∧ nx = DL w D ++ ((a, atO (sg c) k1 k2 true) :: rest)) (by assumption) R9 (small_one (by decide) (by decide) (by omega) (by omega)) (by rw [rangeSize_nat]; simp) F9 N9 ⟨fun _ h => absurd h (Nat.not_lt_zero _), rfl⟩ ?_ ?_
  · rintro i ti nx h tk own hi hoff ⟨hJ, rfl⟩ F8 N8
    clear F9 N9 R9
    have hvi : i < vs.length := by omega
    obtain ⟨q, c', b, kk1, kk2, nn, hai', hve, hm⟩ := a3_at hd (List.getElem?_eq_getElem hvi)
    have hai : as[i] = (c', b) := by
      rw [List.getElem?_eq_getElem hi] at hai'
      exact Option.some.inj hai'
    have hx : D.avs[((0 : Int) + (i : Int)).toNat]? = some (.ref q) := by
      have e : ((0 : Int) + (i : Int)).toNat = i := by omega
      rw [e, hvs, List.getElem?_append_left (by omega), List.getElem?_eq_getElem hvi, hve]
    have hi0 : (0 : Int) ≤ 0 + (i : Int) := by omega
    have hi1 : (0 : Int) + (i : Int) < 2 ^ 63 := by omega
    clear hve hai'
    have hm2 := Z2 _ hm
    have N9 := news_dup N8 (List.mem_append.mpr (.inl (List.mem_append.mpr (.inr (.tail _ hm)))))
    clear N8
    simp only [List.cons_append, List.nil_append, List.append_assoc] at N9
    have q3 : ∀ p ∈ own, p.1 ≠ _ := hoff.ne (.tail _ (.tail _ (.tail _ (.head _))))
    cases b with
    | false =>
      (k_steps; repeat' ((refine hold_in ?_); (first | ((with_reducible show wpAny _ _ (subscriptTail _ (Expr.UnaryOp _ _ _) _ _) _ _ _); ((with_unfolding_all (refine' item_last ?_ (by with_reducible assumption) ?_ ?_; (exact News.isList (by k_asm) (by k_dflt k_mem)); (with_unfolding_all rfl); k_whole)))) | ((with_reducible show wpAny _ _ (subscriptTail _ (Expr.Constant _ _ _) _ _) _ _ _); (first | (with_unfolding_all refine' item_tupleT (by exact News.isTup (by k_asm) (by k_dflt k_mem)) (by omega) (by omega) (by exact rfl) (by exact rfl) ?_ (by with_unfolding_all rfl); k_whole) | walk_at "rr0"))); k_steps))
      (with_reducible rename Fr _ _ _ _ => F7)
      (with_reducible rename News _ _ _ _ => N7)
      refine inv_end (nx := DL w D ++ ((a, atO (sg c) k1 k2 true) :: rest)) F7 (by simpa only [List.cons_append, List.nil_append, List.append_assoc] using news_tail N7) ⟨fun z hz => if_neg hz, ?_, rfl⟩ hoff
      intro j hj hj'
      rcases Nat.lt_succ_iff_lt_or_eq.mp hj with h | rfl
      · exact hJ j h hj'
      · rw [hai]; rfl
    | true =>
      by_cases hcc : c' = c
      · subst hcc
        (k_steps; repeat' ((refine hold_in ?_); (first | ((with_reducible show wpAny _ _ (subscriptTail _ (Expr.UnaryOp _ _ _) _ _) _ _ _); ((with_unfolding_all (refine' item_last ?_ (by with_reducible assumption) ?_ ?_; (exact News.isList (by k_asm) (by k_dflt k_mem)); (with_unfolding_all rfl); k_whole)))) | ((with_reducible show wpAny _ _ (subscriptTail _ (Expr.Constant _ _ _) _ _) _ _ _); (first | (with_unfolding_all refine' item_tupleT (by exact News.isTup (by k_asm) (by k_dflt k_mem)) (by omega) (by omega) (by exact rfl) (by exact rfl) ?_ (by with_unfolding_all rfl); k_whole) | walk_at "rr0"))); k_steps))
        (with_reducible rename Fr _ _ _ _ => F7)
        (with_reducible rename News _ _ _ _ => N7)
        have hany : (as.any fun x => x.2 && x.1 == c') = true := List.any_eq_true.mpr ⟨as[i], List.getElem_mem hi, by rw [hai]; simp⟩
        refine' fin_ret ?H9 F7 (cb_drop N7 x_drop) ?e9 ?r
        case H9 => assumption
        case e9 => exact rfl
        rw [hany]
        exact ⟨rfl, rfl⟩
      · have hw : (sg c' == sg c) = false := by simp [sg, hcc]
        (k_steps; repeat' ((refine hold_in ?_); (first | ((with_reducible show wpAny _ _ (subscriptTail _ (Expr.UnaryOp _ _ _) _ _) _ _ _); ((with_unfolding_all (refine' item_last ?_ (by with_reducible assumption) ?_ ?_; (exact News.isList (by k_asm) (by k_dflt k_mem)); (with_unfolding_all rfl); k_whole)))) | ((with_reducible show wpAny _ _ (subscriptTail _ (Expr.Constant _ _ _) _ _) _ _ _); (first | (with_unfolding_all refine' item_tupleT (by exact News.isTup (by k_asm) (by k_dflt k_mem)) (by omega) (by omega) (by exact rfl) (by exact rfl) ?_ (by with_unfolding_all rfl); k_whole) | walk_at "rr0"))); k_steps))
        (with_reducible rename Fr _ _ _ _ => F7)
        (with_reducible rename News _ _ _ _ => N7)
        refine inv_end (nx := DL w D ++ ((a, atO (sg c) k1 k2 true) :: rest)) F7 (by simpa only [List.cons_append, List.nil_append, List.append_assoc] using news_tail N7) ⟨fun z hz => if_neg hz, ?_, rfl⟩ hoff
        intro j hj hj'
        rcases Nat.lt_succ_iff_lt_or_eq.mp hj with h | rfl
        · exact hJ j h hj'
        · rw [hai]; simp [hcc]
  · rintro u nx h tk ⟨hJ, rfl⟩ F8 N8
    clear F9 N9 R9
    have hany : (as.any fun x => x.2 && x.1 == c) = false := by
      rw [List.any_eq_false]
      intro x hx
      obtain ⟨j, hj, rfl⟩ := List.getElem_of_mem hx
      rw [hJ j hj hj]; decide
    (k_steps; repeat' ((refine hold_in ?_); (first | ((with_reducible show wpAny _ _ (subscriptTail _ (Expr.UnaryOp _ _ _) _ _) _ _ _); ((with_unfolding_all (refine' item_last ?_ (by with_reducible assumption) ?_ ?_; (exact News.isList (by k_asm) (by k_dflt k_mem)); (with_unfolding_all rfl); k_whole)))) | ((with_reducible show wpAny _ _ (subscriptTail _ (Expr.Constant _ _ _) _ _) _ _ _); (first | (with_unfolding_all refine' item_tupleT (by exact News.isTup (by k_asm) (by k_dflt k_mem)) (by omega) (by omega) (by exact rfl) (by exact rfl) ?_ (by with_unfolding_all rfl); k_whole) | walk_at "rr0"))); k_steps))
    ((with_reducible rename RetE _ _ _ _ => hret9); (first | refine fin_ret hret9 (by assumption) (by assumption) rfl ?_ | refine fin_next hret9 (by assumption) (by assumption) rfl ?_))
    rw [hany]
    exact ⟨rfl, rfl⟩
end
end
example : True := by w_top off; trivial
section
section
variable {cs : List Nat} {tz : Nat} {R : Raw} {D : DRaw} {rest : Led} {A : Abs} {d : Dr}
theorem offD_ML (w : World) (O : Ord tz R) (OD : OrdD R D) (Z : OffD D rest) : OffD D (ML w tz R ++ rest) := by
  obtain ⟨o1, o2, o3, o4, o5, o6⟩ := O
  obtain ⟨u1, u2, u3⟩ := OD
  have h : ∀ p ∈ ML w tz R, @LE.le Nat _ p.1 R.T.errors := by
    intro p hp
    simp only [List.mem_cons, List.not_mem_nil, or_false] at hp
    rcases hp with rfl | rfl | rfl | rfl | rfl | rfl | rfl <;> (dsimp only; omega)
  exact ⟨List.forall_mem_append.mpr ⟨fun p hp => Nat.ne_of_lt (Nat.lt_of_le_of_lt (h p hp) u1), Z.f1⟩, List.forall_mem_append.mpr ⟨fun p hp => Nat.ne_of_lt (Nat.lt_of_le_of_lt (h p hp) (Nat.lt_trans u1 (Nat.lt_trans u2 u3))), Z.f2⟩⟩
theorem sub_two' {M Y Z : Led} : ∀ p ∈ Y ++ (M ++ Z), p ∈ M ++ (Y ++ Z) := sub_two
theorem sub_back {M Y Z : Led} {q : Addr × Obj} : ∀ p ∈ M ++ (Y ++ (q :: Z)), p ∈ Y ++ (q :: (M ++ Z)) := by
  intro p hp
  simp only [List.mem_append, List.mem_cons] at hp ⊢
  rcases hp with h | h | h | h <;> simp [h]
theorem Rep.addAttr {w : World} (P : Rep cs tz R (some D) rest A) (hd : A.dr = some d) (a c : Nat) (k1 k2 : Tok) (b : Bool) (n : Nat) (hf : ∀ y ∈ DL w D ++ (ML w tz R ++ rest), y.1 < a) :
    Rep cs tz R (some { D with avs := D.avs ++ [.ref a], an := n }) ((a, atO (sg c) k1 k2 b) :: rest) { A with dr := some { d with attrs := d.attrs ++ [(c, b)] } } := by
  have P' := P.more (w := w) (ex := [(a, atO (sg c) k1 k2 b)]) (by
    intro q hq
    rw [List.mem_singleton.mp hq]
    refine ⟨hf (R.T.errors, listOf R.ers.toArray R.en) (by simp), fun y hy => hf y ?_⟩
    rcases List.mem_append.mp hy with h | h
    · exact List.mem_append.mpr (.inl h)
    · exact List.mem_append.mpr (.inr (List.mem_append.mpr (.inr h))))
  have q := P'.dr
  rw [hd] at q
  obtain ⟨q1, q2, q3, q4, q5, q6⟩ := q
  refine ⟨P'.sgs, P'.pos, P'.state, P'.back, P'.outs, P'.errs, P'.buffer, P'.last, P'.done, P'.waiting, P'.handed, ⟨q1, q2, q3, ?_, ⟨q5.o1, q5.o2, q5.o3⟩, ⟨q6.f1, q6.f2⟩⟩, P'.ord, P'.off⟩
  dsimp only
  rw [List.map_append]
  exact q4.append (.one (.list (n := 0) (.head _) (.cons (.str _ _) (.cons (.str _ _) (.cons (.bool _) .nil)))))
end
theorem blank4_any (c : Nat) : ([Str.ofString " ", Str.ofString "\n", Str.ofString "\t", Str.ofString "\x0c"].any fun x => x == sg c) = isBlank c := by
  have e1 : Str.ofString " " = sg 32 := by decide +kernel
  have e2 : Str.ofString "\n" = sg 10 := by decide +kernel
  have e3 : Str.ofString "\t" = sg 9 := by decide +kernel
  have e4 : Str.ofString "\x0c" = sg 12 := by decide +kernel
  rw [e1, e2, e3, e4]
  have e (m : Nat) : (sg m == sg c) = (c == m) := by
    rw [Bool.eq_iff_iff]
    simp [sg]
    exact eq_comm
  unfold isBlank
  simp only [List.any_cons, List.any_nil, e, Bool.or_false]
  cases (c == 32) <;> cases (c == 10) <;> cases (c == 9) <;> cases (c == 12) <;> rfl
section
variable {cs : List Nat} {A : Abs} {d : Dr}
theorem ba_end (hst : A.st = .ba) (hd : A.dr = some d) (hc : cs[A.pos]? = none) : stepA cs A = { A with pos := A.pos + 1, out := A.out ++ [eofD], done := true, errs := A.errs ++ [erD eofE A.pos] } := by
  (first | rw [stepA_held hst] | rw [stepA_lt hst] | rw [stepA_eto hst] | rw [stepA_etn hst] | rw [stepA_ref hst] | rw [stepA_ba hst] | rw [stepA_sol hst]); (first | unfold stHeld | unfold stLt | unfold stEto | unfold stEtn | unfold stRef | unfold stBa | unfold stSol); (try dsimp only); rw [hd]; dsimp only; rw [hc]; simp only [eof, hst, hd]
theorem ba_c {c : Nat} (hst : A.st = .ba) (hd : A.dr = some d) (hc : cs[A.pos]? = some c) : stepA cs A = if c = 62 then emitDraft A A.pos d else if c = 47 then { A with pos := A.pos + 1, st := .sol } else if isBlank c then { A with pos := A.pos + 1 }
    else if d.attrs.any (fun a => a.2 && a.1 == c) then { A with pos := A.pos + 1, dr := some { d with attrs := d.attrs ++ [(c, false)] }, errs := A.errs ++ [erD dupE A.pos] }
    else { A with pos := A.pos + 1, dr := some { d with attrs := d.attrs ++ [(c, true)] } } := by
  (first | rw [stepA_held hst] | rw [stepA_lt hst] | rw [stepA_eto hst] | rw [stepA_etn hst] | rw [stepA_ref hst] | rw [stepA_ba hst] | rw [stepA_sol hst]); (first | unfold stHeld | unfold stLt | unfold stEto | unfold stEtn | unfold stRef | unfold stBa | unfold stSol); (try dsimp only); rw [hd]; dsimp only; rw [hc]
theorem ba_blank {c : Nat} (hst : A.st = .ba) (hd : A.dr = some d) (hc : cs[A.pos]? = some c) (h2 : c ≠ 62) (h3 : c ≠ 47) (hB : isBlank c = true) : stepA cs A = { A with pos := A.pos + 1 } :=
  (ba_c hst hd hc).trans ((if_neg h2).trans ((if_neg h3).trans (if_pos hB)))
theorem ba_new {c : Nat} (hst : A.st = .ba) (hd : A.dr = some d) (hc : cs[A.pos]? = some c) (h2 : c ≠ 62) (h3 : c ≠ 47) (hB : isBlank c = false) (ha : false = d.attrs.any (fun a => a.2 && a.1 == c)) : stepA cs A = { A with pos := A.pos + 1, dr := some { d with attrs := d.attrs ++ [(c, true)] } } :=
  (ba_c hst hd hc).trans ((if_neg h2).trans ((if_neg h3).trans ((if_neg (by rw [hB]; decide)).trans (if_neg (by rw [← ha]; decide)))))
theorem ba_dup {c : Nat} (hst : A.st = .ba) (hd : A.dr = some d) (hc : cs[A.pos]? = some c) (h2 : c ≠ 62) (h3 : c ≠ 47) (hB : isBlank c = false) (ha : true = d.attrs.any (fun a => a.2 && a.1 == c)) : stepA cs A = { A with pos := A.pos + 1, dr := some { d with attrs := d.attrs ++ [(c, false)] }, errs := A.errs ++ [erD dupE A.pos] } :=
  (ba_c hst hd hc).trans ((if_neg h2).trans ((if_neg h3).trans ((if_neg (by rw [hB]; decide)).trans (if_pos ha.symm))))
theorem ba_gt (hst : A.st = .ba) (hd : A.dr = some d) (hc : cs[A.pos]? = some 62) : stepA cs A = emitDraft A A.pos d := (ba_c hst hd hc).trans (if_pos rfl)
theorem ba_sol (hst : A.st = .ba) (hd : A.dr = some d) (hc : cs[A.pos]? = some 47) : stepA cs A = { A with pos := A.pos + 1, st := .sol } := (ba_c hst hd hc).trans ((if_neg (by decide)).trans (if_pos rfl))
end
section
variable (w : World) (cs : List Nat) (tz : Nat) (R : Raw) (rest : Led) (A : Abs)
variable (D : DRaw)
set_option maxHeartbeats 8000000 in
theorem ba_spec (hst : A.st = .ba) (d : Dr) (hd : A.dr = some d) (P : Rep cs tz R (some D) rest A) (G : Good cs A) :
    Spec w 496 [.ref tz] 40 80 (ML w tz R ++ (DLo w (some D) ++ rest)) (Stepped w cs tz R rest (stepA cs A)) := by
  have g1 := G.out
  have g2 := G.errs
  have g3 := G.pos
  have g4 := G.len
  have g5 := G.attrs d hd
  have C := next_rep w cs tz R (some D) rest A P (by omega) (by omega)
  (k_dflt (refine' spec_def ?ho ?hcd ?hb ?hs ?_; (case ho => k_is); (case hcd => k_is); (case hb => exact fun _ => BindsTo.of_eq rfl); (case hs => exact rfl); k_whole); intro meanZ9 mgZ9 mbZ9 AZ9 A₀Z9 outerZ9 baseZ9 gZ9 LZ9 sZ9 qZ9 F'Z9 N'Z9 B'Z9 X'Z9 T'Z9 hhZ9 hAZ9 hdZ9 huZ9 hretZ9; (try dsimp only); (try simp only [List.cons_append, List.nil_append, List.append_assoc] at N'Z9))
  k_steps
  refine hold_in ?_
  (k_dflt (refine' use_next ?S ?B ?F ?X ?N ?T ?hh ?hA ?hf ?hk ?hd ?hu ?_; ((case S => first | assumption | ((with_reducible rename (∀ _ : Tok, Spec _ _ _ _ _ _ _) => C9); exact C9 _)); (case hA => first | with_reducible assumption | exact rfl); (case hf => exact rfl); (case F => k_asm); (case B => k_asm); (case X => k_asm); (case N => first | k_asm | exact news_tail (by k_asm) | exact news_tail (news_tail (by k_asm))); (case T => k_asm); (case hh => first | with_reducible assumption | exact rfl); (case hk => exact rfl); (case hd => ktr_room); (case hu => ktr_units))))
  intro tk1 R1 ex1 h9 tk9 e1 P1 F9 N9
  k_sweep
  clear C
  rcases hc : cs[A.pos]? with _ | c
  · rw [show signAt cs A.pos = Str.ofString "" by simp [signAt, hc]]
    have C := fun z => error_rep w cs tz R1 (some D) (ex1 ++ rest) _ P1 eofE z A.pos rfl (by dsimp only; omega)
    k_steps
    refine hold_in ?_
    (k_dflt (refine' use_after ?S ?B ?F ?X ?N ?T ?hh ?hA ?hf ?hk ?hd ?hu ?_; ((case S => first | assumption | ((with_reducible rename (∀ _ : Tok, Spec _ _ _ _ _ _ _) => C9); exact C9 _)); (case hA => first | with_reducible assumption | exact rfl); (case hf => exact rfl); (case F => k_asm); (case B => k_asm); (case X => k_asm); (case N => first | k_asm | exact news_tail (by k_asm) | exact news_tail (news_tail (by k_asm))); (case T => k_asm); (case hh => first | with_reducible assumption | exact rfl); (case hk => exact rfl); (case hd => ktr_room); (case hu => ktr_units))))
    intro R2 ex2 h9 tk9 e2 P2 F9 N9
    k_sweep
    replace C := emit_eof_rep w cs tz R2 (some D) (ex2 ++ (ex1 ++ rest)) _ P2 (by dsimp only; omega)
    k_steps
    refine hold_in ?_
    (k_dflt (refine' use_after ?S ?B ?F ?X ?N ?T ?hh ?hA ?hf ?hk ?hd ?hu ?_; ((case S => first | assumption | ((with_reducible rename (∀ _ : Tok, Spec _ _ _ _ _ _ _) => C9); exact C9 _)); (case hA => first | with_reducible assumption | exact rfl); (case hf => exact rfl); (case F => k_asm); (case B => k_asm); (case X => k_asm); (case N => first | k_asm | exact news_tail (by k_asm) | exact news_tail (news_tail (by k_asm))); (case T => k_asm); (case hh => first | with_reducible assumption | exact rfl); (case hk => exact rfl); (case hd => ktr_room); (case hu => ktr_units))))
    intro R3 ex3 h9 tk9 e3 P3 F9 N9
    k_sweep
    k_steps
    ((with_reducible rename RetE _ _ _ _ => hret9); (first | refine fin_ret hret9 (by assumption) (by assumption) rfl ?_ | refine fin_next hret9 (by assumption) (by assumption) rfl ?_))
    exact stepped3 e1 e2 e3 P3 (ba_end hst hd hc).symm
  · rw [show signAt cs A.pos = sg c by simp [signAt, hc]]
    have b0 : (sg c == Str.ofString "") = false := sgE
    by_cases h2 : c = 62
    · subst h2
      have C := fun z => to_rep w cs tz R1 (some D) (ex1 ++ rest) _ P1 .data z
      k_steps
      refine hold_in ?_
      (k_dflt (refine' use_after ?S ?B ?F ?X ?N ?T ?hh ?hA ?hf ?hk ?hd ?hu ?_; ((case S => first | assumption | ((with_reducible rename (∀ _ : Tok, Spec _ _ _ _ _ _ _) => C9); exact C9 _)); (case hA => first | with_reducible assumption | exact rfl); (case hf => exact rfl); (case F => k_asm); (case B => k_asm); (case X => k_asm); (case N => first | k_asm | exact news_tail (by k_asm) | exact news_tail (news_tail (by k_asm))); (case T => k_asm); (case hh => first | with_reducible assumption | exact rfl); (case hk => exact rfl); (case hd => ktr_room); (case hu => ktr_units))))
      intro R2 ex2 h9 tk9 e2 P2 F9 N9
      k_sweep
      replace C := emit_draft_rep w cs tz R2 D (ex2 ++ (ex1 ++ rest)) _ d P2 hd A.pos rfl (by dsimp only; omega) (by dsimp only; omega) (G.attrs d hd)
      k_steps
      refine hold_in ?_
      (k_dflt (refine' use_after ?S ?B ?F ?X ?N ?T ?hh ?hA ?hf ?hk ?hd ?hu ?_; ((case S => first | assumption | ((with_reducible rename (∀ _ : Tok, Spec _ _ _ _ _ _ _) => C9); exact C9 _)); (case hA => first | with_reducible assumption | exact rfl); (case hf => exact rfl); (case F => k_asm); (case B => k_asm); (case X => k_asm); (case N => first | k_asm | exact news_tail (by k_asm) | exact news_tail (news_tail (by k_asm))); (case T => k_asm); (case hh => first | with_reducible assumption | exact rfl); (case hk => exact rfl); (case hd => ktr_room); (case hu => ktr_units))))
      intro R3 ex3 h9 tk9 e3 P3 F9 N9
      k_sweep
      k_steps
      ((with_reducible rename RetE _ _ _ _ => hret9); (first | refine fin_ret hret9 (by assumption) (by assumption) rfl ?_ | refine fin_next hret9 (by assumption) (by assumption) rfl ?_))
      exact stepped3 e1 e2 e3 P3 (by rw [ba_gt hst hd hc]; first | rfl | simp [emitDraft])
    · have b4 : (sg c == Str.ofString ">") = false := sgne 62 (by decide +kernel) h2
      by_cases h3 : c = 47
      · subst h3
        have C := fun z => to_rep w cs tz R1 (some D) (ex1 ++ rest) _ P1 .sol z
        k_steps
        refine hold_in ?_
        (k_dflt (refine' use_after ?S ?B ?F ?X ?N ?T ?hh ?hA ?hf ?hk ?hd ?hu ?_; ((case S => first | assumption | ((with_reducible rename (∀ _ : Tok, Spec _ _ _ _ _ _ _) => C9); exact C9 _)); (case hA => first | with_reducible assumption | exact rfl); (case hf => exact rfl); (case F => k_asm); (case B => k_asm); (case X => k_asm); (case N => first | k_asm | exact news_tail (by k_asm) | exact news_tail (news_tail (by k_asm))); (case T => k_asm); (case hh => first | with_reducible assumption | exact rfl); (case hk => exact rfl); (case hd => ktr_room); (case hu => ktr_units))))
        intro R2 ex2 h9 tk9 e2 P2 F9 N9
        k_sweep
        k_steps
        ((with_reducible rename RetE _ _ _ _ => hret9); (first | refine fin_ret hret9 (by assumption) (by assumption) rfl ?_ | refine fin_next hret9 (by assumption) (by assumption) rfl ?_))
        exact stepped2 e1 e2 P2 (ba_sol hst hd hc).symm
      · have b5 : (sg c == Str.ofString "/") = false := sgne 47 (by decide +kernel) h3
        have hnb := blank4_any c
        cases hB : isBlank c with
        | true =>
          rw [hB] at hnb
          k_steps
          ((with_reducible rename RetE _ _ _ _ => hret9); (first | refine fin_ret hret9 (by assumption) (news_tail (by assumption)) rfl ?_ | refine fin_next hret9 (by assumption) (news_tail (by assumption)) rfl ?_))
          exact stepped1 e1 P1 (ba_blank hst hd hc h2 h3 hB).symm
        | false =>
          rw [hB] at hnb
          have q1 := P1.drEqq hd
          obtain ⟨R0, e0⟩ : ∃ R0 : Raw, R1 = { R0 with T := { R0.T with draft := .ref D.d } } := ⟨R1, Raw.drEq q1⟩
          subst e0
          obtain ⟨u1, u2, u3⟩ := q5of P1 hd
          have zD := offD_ML w P1.ord (q5of P1 hd) (q6off P1 hd)
          have hla : D.avs.length = d.attrs.length := by rw [(P1.drAll hd).length, List.length_map]
          replace N9 := cb_drop N9 (sub_two' (Y := DL w D))
          have C := begin_spec w D _ zD u2 u3 (by omega)
          k_steps
          refine hold_in ?_
          (k_dflt (refine' spec_use ?S ?B ?F ?X ?N ?T ?hh ?hA ?hf ?hk ?hd ?hu ?_; ((case S => first | assumption | ((with_reducible rename (∀ _ : Tok, Spec _ _ _ _ _ _ _) => C9); exact C9 _)); (case hA => first | with_reducible assumption | exact rfl); (case hf => exact rfl); (case F => k_asm); (case B => k_asm); (case X => k_asm); (case N => first | k_asm | exact news_tail (by k_asm) | exact news_tail (news_tail (by k_asm))); (case T => k_asm); (case hh => first | with_reducible assumption | exact rfl); (case hk => exact rfl); (case hd => ktr_room); (case hu => ktr_units))))
          rintro v9 n9 h9 tk9 ⟨rfl, a, k1, k2, hfr, rfl⟩ F9 N9
          k_sweep
          replace C := fun z => addname_spec w { D with avs := D.avs ++ [.ref a], an := D.an + 1 } _ a c k1 k2 z D.avs rfl ⟨zD.f1, zD.f2⟩ (fun p hp => Nat.ne_of_lt (hfr p (List.mem_append.mpr (.inr hp)))) u2 u3 (hfr (D.attrs, listOf D.avs.toArray D.an) (List.mem_append.mpr (.inl (by simp))))
          k_steps
          refine hold_in ?_
          (k_dflt (refine' spec_use ?S ?B ?F ?X ?N ?T ?hh ?hA ?hf ?hk ?hd ?hu ?_; ((case S => first | assumption | ((with_reducible rename (∀ _ : Tok, Spec _ _ _ _ _ _ _) => C9); exact C9 _)); (case hA => first | with_reducible assumption | exact rfl); (case hf => exact rfl); (case F => k_asm); (case B => k_asm); (case X => k_asm); (case N => first | k_asm | exact news_tail (by k_asm) | exact news_tail (news_tail (by k_asm))); (case T => k_asm); (case hh => first | with_reducible assumption | exact rfl); (case hk => exact rfl); (case hd => ktr_room); (case hu => ktr_units))))
          rintro v9 n9 h9 tk9 ⟨rfl, k3, rfl⟩ F9 N9
          k_sweep
          replace C := check_spec w { D with avs := D.avs ++ [.ref a], an := D.an + 1 } _ a c k3 k2 D.avs d.attrs rfl ((P1.drAll hd).mono fun _ hp => List.mem_append.mpr (.inr hp)) (by omega) ⟨zD.f1, zD.f2⟩ (fun p hp => Nat.ne_of_lt (hfr p (List.mem_append.mpr (.inr hp)))) u2 u3 (hfr (D.attrs, listOf D.avs.toArray D.an) (List.mem_append.mpr (.inl (by simp))))
          obtain ⟨bb, hany⟩ : ∃ bb, bb = (d.attrs.any fun x => x.2 && x.1 == c) := ⟨_, rfl⟩
          rw [← hany] at C
          k_steps
          refine hold_in ?_
          (k_dflt (refine' use_eq ?S ?B ?F ?X ?N ?T ?hh ?hA ?hf ?hk ?hd ?hu ?_; ((case S => first | assumption | ((with_reducible rename (∀ _ : Tok, Spec _ _ _ _ _ _ _) => C9); exact C9 _)); (case hA => first | with_reducible assumption | exact rfl); (case hf => exact rfl); (case F => k_asm); (case B => k_asm); (case X => k_asm); (case N => first | k_asm | exact news_tail (by k_asm) | exact news_tail (news_tail (by k_asm))); (case T => k_asm); (case hh => first | with_reducible assumption | exact rfl); (case hk => exact rfl); (case hd => ktr_room); (case hu => ktr_units))))
          intro h9 tk9 F9 N9
          k_sweep
          have P2 := P1.addAttr hd a c k3 k2 (!bb) (D.an + 1) hfr
          replace N9 := cb_drop N9 (sub_back)
          clear C
          cases bb with
          | false =>
            k_steps
            ((with_reducible rename RetE _ _ _ _ => hret9); (first | refine fin_ret hret9 (by assumption) (by assumption) rfl ?_ | refine fin_next hret9 (by assumption) (by assumption) rfl ?_))
            rw [ba_new hst hd hc h2 h3 hB hany]
            exact ⟨rfl, _, _, (a, atO (sg c) k3 k2 true) :: ex1, e1, rfl, P2⟩
          | true =>
            have C := fun z => error_rep w cs tz _ _ _ _ P2 dupE z A.pos rfl (by dsimp only; omega)
            k_steps
            refine hold_in ?_
            (k_dflt (refine' use_after ?S ?B ?F ?X ?N ?T ?hh ?hA ?hf ?hk ?hd ?hu ?_; ((case S => first | assumption | ((with_reducible rename (∀ _ : Tok, Spec _ _ _ _ _ _ _) => C9); exact C9 _)); (case hA => first | with_reducible assumption | exact rfl); (case hf => exact rfl); (case F => k_asm); (case B => k_asm); (case X => k_asm); (case N => first | k_asm | exact news_tail (by k_asm) | exact news_tail (news_tail (by k_asm))); (case T => k_asm); (case hh => first | with_reducible assumption | exact rfl); (case hk => exact rfl); (case hd => ktr_room); (case hu => ktr_units))))
            intro R3 ex3 h9 tk9 e3 P3 F9 N9
            k_sweep
            k_steps
            ((with_reducible rename RetE _ _ _ _ => hret9); (first | refine fin_ret hret9 (by assumption) (by assumption) rfl ?_ | refine fin_next hret9 (by assumption) (by assumption) rfl ?_))
            rw [ba_dup hst hd hc h2 h3 hB hany]
            exact ⟨rfl, R3, some { D with avs := D.avs ++ [.ref a], an := D.an + 1 }, ex3 ++ ((a, atO (sg c) k3 k2 false) :: ex1), e3.trans e1, by rw [List.append_assoc]; rfl, by rw [List.append_assoc]; exact P3⟩
end
end
set_option hygiene false
local macro_rules | `(tactic| walk_at "pad") => `(tactic| skip)
set_option hygiene true
example : True := by w_top off; trivial
section
theorem tx_app (a b : List Nat) : tx a ++ tx b = tx (a ++ b) := by
  show PySem.Str.mk _ = _
  simp [tx]
theorem blankS_nil : blankS (Str.ofString "") = false := by decide +kernel
theorem blankS_sg (n : Nat) : blankS (sg n) = isBlank n := by
  have h1 : Str.ofString "\t" = sg 9 := by decide +kernel
  have h2 : Str.ofString "\n" = sg 10 := by decide +kernel
  have h3 : Str.ofString "\x0c" = sg 12 := by decide +kernel
  have h4 : Str.ofString " " = sg 32 := by decide +kernel
  unfold blankS isBlank
  rw [h1, h2, h3, h4]
  have e (m : Nat) : (sg m == sg n) = (n == m) := by
    rw [Bool.eq_iff_iff]
    simp [sg]
    exact eq_comm
  simp only [List.any_cons, List.any_nil, e, Bool.or_false, Bool.or_assoc]
section
variable {cs : List Nat} {tz : Nat} {R : Raw} {D : DRaw} {rest : Led} {A : Abs} {d : Dr}
theorem Rep.drEq (P : Rep cs tz R (some D) rest A) (hd : A.dr = some d) : R.T.draft = .ref D.d ∧ D.name = tx d.name := by
  have q := P.dr
  rw [hd] at q
  exact ⟨q.1, q.2.1⟩
theorem q6of (P : Rep cs tz R (some D) rest A) (hd : A.dr = some d) : OffD D rest := by
  have q := P.dr
  rw [hd] at q
  exact q.2.2.2.2.2
theorem Rep.dropD {D : Option DRaw} (P : Rep cs tz R D rest A) : Rep cs tz R none rest { A with dr := none } :=
  ⟨P.sgs, P.pos, P.state, P.back, P.outs, P.errs, P.buffer, P.last, P.done, P.waiting, P.handed, trivial, P.ord, P.off⟩
theorem Rep.setName (P : Rep cs tz R (some D) rest A) (hd : A.dr = some d) (x c : Nat) (bt nt : Tok) :
    Rep cs tz { R with T := { R.T with buffer := R.T.buffer ++ sg c, bfT := bt } } (some { D with name := D.name ++ sg x, nmT := nt }) rest { A with dr := some { d with name := d.name ++ [x] }, buffer := A.buffer ++ [c] } := by
  have q := P.dr
  rw [hd] at q
  obtain ⟨q1, q2, q3, q4, q5, q6⟩ := q
  exact ⟨P.sgs, P.pos, P.state, P.back, P.outs, P.errs, (by rw [P.buffer]; exact tx_app _ [c]), P.last, P.done, P.waiting, P.handed, ⟨q1, (by dsimp only; rw [q2]; exact tx_app _ [x]), q3, q4, ⟨q5.o1, q5.o2, q5.o3⟩, ⟨q6.f1, q6.f2⟩⟩, ⟨P.ord.o1, P.ord.o2, P.ord.o3, P.ord.o4, P.ord.o5, P.ord.o6⟩, ⟨P.off.f1, P.off.f2, P.off.f3⟩⟩
theorem sub_drop {M Y Z : Led} {w : World} : ∀ p ∈ M ++ (DLo w none ++ Z), p ∈ M ++ (Y ++ Z) := by
  intro p hp
  simp only [List.mem_append, DLo, List.nil_append] at hp ⊢
  rcases hp with h | h <;> simp [h]
end
section
variable {cs : List Nat} {A : Abs} {k : Kd} {d : Dr}
theorem etn_c (hst : A.st = .etn k) (hd : A.dr = some d) (hL : letterS (signAt cs A.pos) = false) {c : Nat} (hc : cs[A.pos]? = some c) :
    stepA cs A = if d.name = A.last ∧ isBlank c then { A with pos := A.pos + 1, st := .ba } else if d.name = A.last ∧ c = 47 then { A with pos := A.pos + 1, st := .sol } else if d.name = A.last ∧ c = 62 then emitDraft A A.pos d else { A with st := .held k, dr := none, out := A.out ++ ([60, 47] ++ A.buffer).map chD } := by
  have hl : isLetter c = false := by rw [← letterS_sg, ← show signAt cs A.pos = sg c by simp [signAt, hc]]; exact hL
  (first | rw [stepA_held hst] | rw [stepA_lt hst] | rw [stepA_eto hst] | rw [stepA_etn hst] | rw [stepA_ref hst] | rw [stepA_ba hst] | rw [stepA_sol hst])
  (first | unfold stHeld | unfold stLt | unfold stEto | unfold stEtn | unfold stRef | unfold stBa | unfold stSol)
  (try dsimp only)
  rw [hd]
  dsimp only
  rw [hc]
  dsimp only
  rw [hl, if_neg (by decide)]
theorem etn_tail (hst : A.st = .etn k) (hd : A.dr = some d) (hL : letterS (signAt cs A.pos) = false) (h : d.name = A.last → blankS (signAt cs A.pos) = false ∧ cs[A.pos]? ≠ some 47 ∧ cs[A.pos]? ≠ some 62) :
    stepA cs A = { A with st := .held k, dr := none, out := A.out ++ ([60, 47] ++ A.buffer).map chD } := by
  cases hc : cs[A.pos]? with
  | none =>
    (first | rw [stepA_held hst] | rw [stepA_lt hst] | rw [stepA_eto hst] | rw [stepA_etn hst] | rw [stepA_ref hst] | rw [stepA_ba hst] | rw [stepA_sol hst])
    (first | unfold stHeld | unfold stLt | unfold stEto | unfold stEtn | unfold stRef | unfold stBa | unfold stSol)
    (try dsimp only)
    rw [hd]
    dsimp only
    rw [hc]
  | some c =>
    rw [etn_c hst hd hL hc]
    have hne : ∀ {P : Prop}, (d.name = A.last → ¬ P) → ¬ (d.name = A.last ∧ P) := fun h q => h q.1 q.2
    rw [if_neg (hne fun e => ?_), if_neg (hne fun e => ?_), if_neg (hne fun e => ?_)]
    · intro q; exact (h e).2.2 (by rw [hc, q])
    · intro q; exact (h e).2.1 (by rw [hc, q])
    · have := (h e).1
      rw [show signAt cs A.pos = sg c by simp [signAt, hc], blankS_sg] at this
      rw [this]; decide
theorem blank_some {i : Nat} (h : blankS (signAt cs i) = true) : ∃ c, cs[i]? = some c ∧ isBlank c = true := by
  cases hc : cs[i]? with
  | none => rw [show signAt cs i = Str.ofString "" by simp [signAt, hc], blankS_nil] at h; cases h
  | some c => rw [show signAt cs i = sg c by simp [signAt, hc], blankS_sg] at h; exact ⟨c, rfl, h⟩
theorem etn_ba (hst : A.st = .etn k) (hd : A.dr = some d) (hL : letterS (signAt cs A.pos) = false) (heq : d.name = A.last) (hB : blankS (signAt cs A.pos) = true) : stepA cs A = { A with pos := A.pos + 1, st := .ba } := by
  obtain ⟨c, hc, hb⟩ := blank_some hB
  rw [etn_c hst hd hL hc, if_pos ⟨heq, hb⟩]
theorem etn_sol (hst : A.st = .etn k) (hd : A.dr = some d) (hL : letterS (signAt cs A.pos) = false) (heq : d.name = A.last) (hc : cs[A.pos]? = some 47) : stepA cs A = { A with pos := A.pos + 1, st := .sol } := by
  rw [etn_c hst hd hL hc, if_neg (fun h => absurd h.2 (by decide)), if_pos ⟨heq, rfl⟩]
theorem etn_gt (hst : A.st = .etn k) (hd : A.dr = some d) (hL : letterS (signAt cs A.pos) = false) (heq : d.name = A.last) (hc : cs[A.pos]? = some 62) : stepA cs A = emitDraft A A.pos d := by
  rw [etn_c hst hd hL hc, if_neg (fun h => absurd h.2 (by decide)), if_neg (fun h => absurd h.2 (by decide)), if_pos ⟨heq, rfl⟩]
theorem etn_letter (hst : A.st = .etn k) (hd : A.dr = some d) {c : Nat} (hc : cs[A.pos]? = some c) (hl : isLetter c = true) : stepA cs A = { A with pos := A.pos + 1, dr := some { d with name := d.name ++ [lowerC c] }, buffer := A.buffer ++ [c] } := by
  (first | rw [stepA_held hst] | rw [stepA_lt hst] | rw [stepA_eto hst] | rw [stepA_etn hst] | rw [stepA_ref hst] | rw [stepA_ba hst] | rw [stepA_sol hst])
  (first | unfold stHeld | unfold stLt | unfold stEto | unfold stEtn | unfold stRef | unfold stBa | unfold stSol)
  (try dsimp only)
  rw [hd]
  dsimp only
  rw [hc]
  dsimp only
  rw [hl, if_pos rfl]
end
section
variable (w : World) (cs : List Nat) (tz : Nat) (R : Raw) (D : DRaw) (rest : Led) (A : Abs) (k : Kd) (kt : Tok)
theorem is_apt_rep (P : Rep cs tz R (some D) rest A) (d : Dr) (hd : A.dr = some d) (hl : A.last ≠ []) :
    Spec w 404 [.ref tz] 10 20 (ML w tz R ++ (DLo w (some D) ++ rest)) (fun v n => v = .bool (tx d.name == tx A.last) ∧ n = ML w tz R ++ (DLo w (some D) ++ rest)) := by
  have h1 := P.drEq hd
  have h := is_apt_spec w tz R D rest P.ord P.off (q5of P hd) (q6of P hd) h1.1 (by rw [P.last]; intro e; exact hl (by simpa [tx] using congrArg (fun x => x.cps.toList) (e.trans (by decide +kernel : Str.ofString "" = tx []))))
  rw [h1.2, P.last] at h
  exact h
set_option maxHeartbeats 16000000 in
theorem etn_spec (hst : A.st = .etn k) (d : Dr) (hd : A.dr = some d) (P : Rep cs tz R (some D) rest A) (G : Good cs A) (hlast : A.last ≠ []) (hnm : d.name.length ≤ 100) :
    Spec w 154 [.ref tz, .str (kindS k) kt] 50 100 (ML w tz R ++ (DLo w (some D) ++ rest)) (Stepped w cs tz R rest (stepA cs A)) := by
  have g1 := G.out
  have g2 := G.errs
  have g3 := G.pos
  have g4 := G.len
  have g5 := G.buffer
  have C := next_rep w cs tz R (some D) rest A P (by omega) (by omega)
  (k_dflt (refine' spec_def ?ho ?hcd ?hb ?hs ?_; (case ho => k_is); (case hcd => k_is); (case hb => exact fun _ => BindsTo.of_eq rfl); (case hs => exact rfl); k_whole); intro meanZ9 mgZ9 mbZ9 AZ9 A₀Z9 outerZ9 baseZ9 gZ9 LZ9 sZ9 qZ9 F'Z9 N'Z9 B'Z9 X'Z9 T'Z9 hhZ9 hAZ9 hdZ9 huZ9 hretZ9; (try dsimp only); (try simp only [List.cons_append, List.nil_append, List.append_assoc] at N'Z9))
  k_steps
  refine hold_in ?_
  (k_dflt (refine' use_next ?S ?B ?F ?X ?N ?T ?hh ?hA ?hf ?hk ?hd ?hu ?_; ((case S => first | assumption | ((with_reducible rename (∀ _ : Tok, Spec _ _ _ _ _ _ _) => C9); exact C9 _)); (case hA => first | with_reducible assumption | exact rfl); (case hf => exact rfl); (case F => k_asm); (case B => k_asm); (case X => k_asm); (case N => first | k_asm | exact news_tail (by k_asm) | exact news_tail (news_tail (by k_asm))); (case T => k_asm); (case hh => first | with_reducible assumption | exact rfl); (case hk => exact rfl); (case hd => ktr_room); (case hu => ktr_units))))
  intro tk1 R1 ex1 h9 tk9 e1 P1 F9 N9
  k_sweep
  clear C
  cases hL : letterS (signAt cs A.pos) with
  | true =>
    obtain ⟨c, hc, hl⟩ := letter_some hL
    rw [show signAt cs A.pos = sg c by simp [signAt, hc]] at hL ⊢
    have q1 := (P1.drEq hd).1
    have q2 := (P1.drEq hd).2
    obtain ⟨R0, e0⟩ : ∃ R0 : Raw, R1 = { R0 with T := { R0.T with draft := .ref D.d } } := ⟨R1, Raw.drEq q1⟩
    subst e0
    have Z := P1.offAll w
    obtain ⟨z1, z2, z3⟩ := Z
    obtain ⟨u1, u2, u3, u4, u5, u6⟩ := P1.ord
    obtain ⟨f1, f2, f3⟩ := P1.off
    obtain ⟨p1, p2, p3⟩ := q5of P1 hd
    obtain ⟨r1, r2⟩ := q6of P1 hd
    have hs1 : D.name.length + 1 ≤ 1000 := by rw [q2]; simp [Str.length]; omega
    have hs2 : R0.T.buffer.length + 1 ≤ 1000 := by rw [show R0.T.buffer = tx A.buffer from P1.buffer]; simp [Str.length]; omega
    have hs3 : D.name.length ≤ 1000 := by omega
    have hs4 : R0.T.buffer.length ≤ 1000 := by omega
    (try dsimp only at u1 u2 u3 u4 u5 u6 f1 f2 f3 p1)
    dsimp only [DLo, DL, List.cons_append, List.nil_append] at N9
    k_steps
    (with_reducible rename News _ _ _ _ => N8)
    (with_reducible rename Fr _ _ _ _ => F8)
    (with_reducible rename RetE _ _ _ _ => hret)
    obtain ⟨bt, nt, N7⟩ : ∃ bt nt, News _ _ _ (ML w tz { R0 with T := { R0.T with draft := .ref D.d, buffer := R0.T.buffer ++ sg c, bfT := bt } } ++ (DLo w (some { D with name := D.name ++ sg (lowerC c), nmT := nt }) ++ (ex1 ++ rest))) := ⟨_, _, N8⟩
    rw [etn_letter hst hd hc hl] at hret
    first | exact fin_ret hret F8 N7 rfl ⟨rfl, { R0 with T := { R0.T with draft := .ref D.d, buffer := R0.T.buffer ++ sg c, bfT := bt } }, some { D with name := D.name ++ sg (lowerC c), nmT := nt }, ex1, e1, rfl, P1.setName hd (lowerC c) c bt nt⟩ | exact fin_next hret F8 N7 rfl ⟨rfl, { R0 with T := { R0.T with draft := .ref D.d, buffer := R0.T.buffer ++ sg c, bfT := bt } }, some { D with name := D.name ++ sg (lowerC c), nmT := nt }, ex1, e1, rfl, P1.setName hd (lowerC c) c bt nt⟩
  | false =>
    have C := is_apt_rep w cs tz R1 D (ex1 ++ rest) _ P1 d hd (by simpa using hlast)
    k_steps
    refine hold_in ?_
    (k_dflt (refine' use_eq ?S ?B ?F ?X ?N ?T ?hh ?hA ?hf ?hk ?hd ?hu ?_; ((case S => first | assumption | ((with_reducible rename (∀ _ : Tok, Spec _ _ _ _ _ _ _) => C9); exact C9 _)); (case hA => first | with_reducible assumption | exact rfl); (case hf => exact rfl); (case F => k_asm); (case B => k_asm); (case X => k_asm); (case N => first | k_asm | exact news_tail (by k_asm) | exact news_tail (news_tail (by k_asm))); (case T => k_asm); (case hh => first | with_reducible assumption | exact rfl); (case hk => exact rfl); (case hd => ktr_room); (case hu => ktr_units))))
    intro h9 tk9 F9 N9
    k_sweep
    clear C
    cases hap : tx d.name == tx A.last with
    | false =>
      have hne : d.name ≠ A.last := fun e => by rw [e] at hap; simp at hap
      have C := fun z => emit_text_rep w cs tz _ (some D) (ex1 ++ rest) _ P1 ([60, 47] ++ A.buffer) z (by dsimp only; omega) (by simp; omega)
      have hbf : Str.ofString "</" ++ R1.T.buffer = tx ([60, 47] ++ A.buffer) := by rw [P1.buffer]; exact tx_app [60, 47] A.buffer
      have hbl : R1.T.buffer.length ≤ 1000 := by rw [P1.buffer]; simp [Str.length]; omega
      k_steps
      refine hold_in ?_
      rw [hbf]
      (k_dflt (refine' use_after ?S ?B ?F ?X ?N ?T ?hh ?hA ?hf ?hk ?hd ?hu ?_; ((case S => first | assumption | ((with_reducible rename (∀ _ : Tok, Spec _ _ _ _ _ _ _) => C9); exact C9 _)); (case hA => first | with_reducible assumption | exact rfl); (case hf => exact rfl); (case F => k_asm); (case B => k_asm); (case X => k_asm); (case N => first | k_asm | exact news_tail (by k_asm) | exact news_tail (news_tail (by k_asm))); (case T => k_asm); (case hh => first | with_reducible assumption | exact rfl); (case hk => exact rfl); (case hd => ktr_room); (case hu => ktr_units))))
      intro R2 ex2 h9 tk9 e2 P2 F9 N9
      k_sweep
      replace C := fun z => again_rep w cs tz R2 (some D) (ex2 ++ (ex1 ++ rest)) _ P2 (.held k) z A.pos rfl
      rw [kd_held] at C
      k_steps
      refine hold_in ?_
      (k_dflt (refine' use_after ?S ?B ?F ?X ?N ?T ?hh ?hA ?hf ?hk ?hd ?hu ?_; ((case S => first | assumption | ((with_reducible rename (∀ _ : Tok, Spec _ _ _ _ _ _ _) => C9); exact C9 _)); (case hA => first | with_reducible assumption | exact rfl); (case hf => exact rfl); (case F => k_asm); (case B => k_asm); (case X => k_asm); (case N => first | k_asm | exact news_tail (by k_asm) | exact news_tail (news_tail (by k_asm))); (case T => k_asm); (case hh => first | with_reducible assumption | exact rfl); (case hk => exact rfl); (case hd => ktr_room); (case hu => ktr_units))))
      intro R3 ex3 h9 tk9 e3 P3 F9 N9
      k_sweep
      replace N9 := cb_drop N9 (sub_drop (w := w) (Y := DLo w (some D)))
      k_steps
      ((with_reducible rename RetE _ _ _ _ => hret9); (first | refine fin_ret hret9 (by assumption) (by assumption) rfl ?_ | refine fin_next hret9 (by assumption) (by assumption) rfl ?_))
      exact stepped3 e1 e2 e3 P3.dropD (etn_tail hst hd hL fun e => absurd e hne).symm
    | true =>
      have heq : d.name = A.last := by simpa using hap
      cases hB : blankS (signAt cs A.pos) with
      | true =>
        have C := fun z => to_rep w cs tz R1 (some D) (ex1 ++ rest) _ P1 .ba z
        k_steps
        refine hold_in ?_
        (k_dflt (refine' use_after ?S ?B ?F ?X ?N ?T ?hh ?hA ?hf ?hk ?hd ?hu ?_; ((case S => first | assumption | ((with_reducible rename (∀ _ : Tok, Spec _ _ _ _ _ _ _) => C9); exact C9 _)); (case hA => first | with_reducible assumption | exact rfl); (case hf => exact rfl); (case F => k_asm); (case B => k_asm); (case X => k_asm); (case N => first | k_asm | exact news_tail (by k_asm) | exact news_tail (news_tail (by k_asm))); (case T => k_asm); (case hh => first | with_reducible assumption | exact rfl); (case hk => exact rfl); (case hd => ktr_room); (case hu => ktr_units))))
        intro R2 ex2 h9 tk9 e2 P2 F9 N9
        k_sweep
        k_steps
        ((with_reducible rename RetE _ _ _ _ => hret9); (first | refine fin_ret hret9 (by assumption) (by assumption) rfl ?_ | refine fin_next hret9 (by assumption) (by assumption) rfl ?_))
        exact stepped2 e1 e2 P2 (etn_ba hst hd hL heq hB).symm
      | false =>
        by_cases h1 : cs[A.pos]? = some 47
        · have b3 : (signAt cs A.pos == Str.ofString "/") = true := by rw [show signAt cs A.pos = sg 47 by simp [signAt, h1]]; decide +kernel
          have C := fun z => to_rep w cs tz R1 (some D) (ex1 ++ rest) _ P1 .sol z
          k_steps
          refine hold_in ?_
          (k_dflt (refine' use_after ?S ?B ?F ?X ?N ?T ?hh ?hA ?hf ?hk ?hd ?hu ?_; ((case S => first | assumption | ((with_reducible rename (∀ _ : Tok, Spec _ _ _ _ _ _ _) => C9); exact C9 _)); (case hA => first | with_reducible assumption | exact rfl); (case hf => exact rfl); (case F => k_asm); (case B => k_asm); (case X => k_asm); (case N => first | k_asm | exact news_tail (by k_asm) | exact news_tail (news_tail (by k_asm))); (case T => k_asm); (case hh => first | with_reducible assumption | exact rfl); (case hk => exact rfl); (case hd => ktr_room); (case hu => ktr_units))))
          intro R2 ex2 h9 tk9 e2 P2 F9 N9
          k_sweep
          k_steps
          ((with_reducible rename RetE _ _ _ _ => hret9); (first | refine fin_ret hret9 (by assumption) (by assumption) rfl ?_ | refine fin_next hret9 (by assumption) (by assumption) rfl ?_))
          exact stepped2 e1 e2 P2 (etn_sol hst hd hL heq h1).symm
        · have b3 : (signAt cs A.pos == Str.ofString "/") = false := sign_ne 47 (by decide +kernel) h1
          by_cases h2 : cs[A.pos]? = some 62
          · have b4 : (signAt cs A.pos == Str.ofString ">") = true := by rw [show signAt cs A.pos = sg 62 by simp [signAt, h2]]; decide +kernel
            have C := fun z => to_rep w cs tz R1 (some D) (ex1 ++ rest) _ P1 .data z
            k_steps
            refine hold_in ?_
            (k_dflt (refine' use_after ?S ?B ?F ?X ?N ?T ?hh ?hA ?hf ?hk ?hd ?hu ?_; ((case S => first | assumption | ((with_reducible rename (∀ _ : Tok, Spec _ _ _ _ _ _ _) => C9); exact C9 _)); (case hA => first | with_reducible assumption | exact rfl); (case hf => exact rfl); (case F => k_asm); (case B => k_asm); (case X => k_asm); (case N => first | k_asm | exact news_tail (by k_asm) | exact news_tail (news_tail (by k_asm))); (case T => k_asm); (case hh => first | with_reducible assumption | exact rfl); (case hk => exact rfl); (case hd => ktr_room); (case hu => ktr_units))))
            intro R2 ex2 h9 tk9 e2 P2 F9 N9
            k_sweep
            replace C := emit_draft_rep w cs tz R2 D (ex2 ++ (ex1 ++ rest)) _ d P2 hd A.pos rfl (by dsimp only; omega) (by dsimp only; omega) (G.attrs d hd)
            k_steps
            refine hold_in ?_
            (k_dflt (refine' use_after ?S ?B ?F ?X ?N ?T ?hh ?hA ?hf ?hk ?hd ?hu ?_; ((case S => first | assumption | ((with_reducible rename (∀ _ : Tok, Spec _ _ _ _ _ _ _) => C9); exact C9 _)); (case hA => first | with_reducible assumption | exact rfl); (case hf => exact rfl); (case F => k_asm); (case B => k_asm); (case X => k_asm); (case N => first | k_asm | exact news_tail (by k_asm) | exact news_tail (news_tail (by k_asm))); (case T => k_asm); (case hh => first | with_reducible assumption | exact rfl); (case hk => exact rfl); (case hd => ktr_room); (case hu => ktr_units))))
            intro R3 ex3 h9 tk9 e3 P3 F9 N9
            k_sweep
            k_steps
            ((with_reducible rename RetE _ _ _ _ => hret9); (first | refine fin_ret hret9 (by assumption) (by assumption) rfl ?_ | refine fin_next hret9 (by assumption) (by assumption) rfl ?_))
            rw [etn_gt hst hd hL heq h2]
            exact stepped3 e1 e2 e3 P3 (by first | rfl | simp [emitDraft])
          · have b4 : (signAt cs A.pos == Str.ofString ">") = false := sign_ne 62 (by decide +kernel) h2
            have C := fun z => emit_text_rep w cs tz _ (some D) (ex1 ++ rest) _ P1 ([60, 47] ++ A.buffer) z (by dsimp only; omega) (by simp; omega)
            have hbf : Str.ofString "</" ++ R1.T.buffer = tx ([60, 47] ++ A.buffer) := by rw [P1.buffer]; exact tx_app [60, 47] A.buffer
            have hbl : R1.T.buffer.length ≤ 1000 := by rw [P1.buffer]; simp [Str.length]; omega
            k_steps
            refine hold_in ?_
            rw [hbf]
            (k_dflt (refine' use_after ?S ?B ?F ?X ?N ?T ?hh ?hA ?hf ?hk ?hd ?hu ?_; ((case S => first | assumption | ((with_reducible rename (∀ _ : Tok, Spec _ _ _ _ _ _ _) => C9); exact C9 _)); (case hA => first | with_reducible assumption | exact rfl); (case hf => exact rfl); (case F => k_asm); (case B => k_asm); (case X => k_asm); (case N => first | k_asm | exact news_tail (by k_asm) | exact news_tail (news_tail (by k_asm))); (case T => k_asm); (case hh => first | with_reducible assumption | exact rfl); (case hk => exact rfl); (case hd => ktr_room); (case hu => ktr_units))))
            intro R2 ex2 h9 tk9 e2 P2 F9 N9
            k_sweep
            replace C := fun z => again_rep w cs tz R2 (some D) (ex2 ++ (ex1 ++ rest)) _ P2 (.held k) z A.pos rfl
            rw [kd_held] at C
            k_steps
            refine hold_in ?_
            (k_dflt (refine' use_after ?S ?B ?F ?X ?N ?T ?hh ?hA ?hf ?hk ?hd ?hu ?_; ((case S => first | assumption | ((with_reducible rename (∀ _ : Tok, Spec _ _ _ _ _ _ _) => C9); exact C9 _)); (case hA => first | with_reducible assumption | exact rfl); (case hf => exact rfl); (case F => k_asm); (case B => k_asm); (case X => k_asm); (case N => first | k_asm | exact news_tail (by k_asm) | exact news_tail (news_tail (by k_asm))); (case T => k_asm); (case hh => first | with_reducible assumption | exact rfl); (case hk => exact rfl); (case hd => ktr_room); (case hu => ktr_units))))
            intro R3 ex3 h9 tk9 e3 P3 F9 N9
            k_sweep
            replace N9 := cb_drop N9 (sub_drop (w := w) (Y := DLo w (some D)))
            k_steps
            ((with_reducible rename RetE _ _ _ _ => hret9); (first | refine fin_ret hret9 (by assumption) (by assumption) rfl ?_ | refine fin_next hret9 (by assumption) (by assumption) rfl ?_))
            exact stepped3 e1 e2 e3 P3.dropD (etn_tail hst hd hL fun _ => ⟨hB, h1, h2⟩).symm
end
end
set_option hygiene false
local macro_rules | `(tactic| walk_at "pad") => `(tactic| skip)
set_option hygiene true
example : True := by w_top off; trivial
section
section
variable (w : World) (cs : List Nat) (tz : Nat) (R : Raw) (rest : Led) (A : Abs)
theorem held_rc_rule (hst : A.st = .held .rc) (hdr : A.dr = none) (P : Rep cs tz R none rest A) (G : Good cs A) :
    Spec w 161 [.ref tz] 60 120 (ML w tz R ++ (DLo w none ++ rest)) (Stepped w cs tz R rest (stepA cs A)) := by
  have C := fun z => held_spec w cs tz R rest A .rc z hst hdr P G
  (k_dflt (refine' spec_def ?ho ?hcd ?hb ?hs ?_; (case ho => k_is); (case hcd => k_is); (case hb => exact fun _ => BindsTo.of_eq rfl); (case hs => exact rfl); k_whole); intro meanZ9 mgZ9 mbZ9 AZ9 A₀Z9 outerZ9 baseZ9 gZ9 LZ9 sZ9 qZ9 F'Z9 N'Z9 B'Z9 X'Z9 T'Z9 hhZ9 hAZ9 hdZ9 huZ9 hretZ9; (try dsimp only); (try simp only [List.cons_append, List.nil_append, List.append_assoc] at N'Z9))
  k_steps
  refine hold_in ?_
  (k_dflt (refine' use_stepped ?S ?B ?F ?X ?N ?T ?hh ?hA ?hf ?hk ?hd ?hu ?_; ((case S => first | assumption | ((with_reducible rename (∀ _ : Tok, Spec _ _ _ _ _ _ _) => C9); exact C9 _)); (case hA => first | with_reducible assumption | exact rfl); (case hf => exact rfl); (case F => k_asm); (case B => k_asm); (case X => k_asm); (case N => first | k_asm | exact news_tail (by k_asm) | exact news_tail (news_tail (by k_asm))); (case T => k_asm); (case hh => first | with_reducible assumption | exact rfl); (case hk => exact rfl); (case hd => ktr_room); (case hu => ktr_units))))
  intro R2 D2 ex2 h9 tk9 e2 P2 F9 N9
  k_sweep
  k_steps
  ((with_reducible rename RetE _ _ _ _ => hret9); (first | refine fin_ret hret9 (by assumption) (by assumption) rfl ?_ | refine fin_next hret9 (by assumption) (by assumption) rfl ?_))
  exact ⟨rfl, R2, D2, ex2, e2, rfl, P2⟩
theorem held_rw_rule (hst : A.st = .held .rw) (hdr : A.dr = none) (P : Rep cs tz R none rest A) (G : Good cs A) :
    Spec w 189 [.ref tz] 60 120 (ML w tz R ++ (DLo w none ++ rest)) (Stepped w cs tz R rest (stepA cs A)) := by
  have C := fun z => held_spec w cs tz R rest A .rw z hst hdr P G
  (k_dflt (refine' spec_def ?ho ?hcd ?hb ?hs ?_; (case ho => k_is); (case hcd => k_is); (case hb => exact fun _ => BindsTo.of_eq rfl); (case hs => exact rfl); k_whole); intro meanZ9 mgZ9 mbZ9 AZ9 A₀Z9 outerZ9 baseZ9 gZ9 LZ9 sZ9 qZ9 F'Z9 N'Z9 B'Z9 X'Z9 T'Z9 hhZ9 hAZ9 hdZ9 huZ9 hretZ9; (try dsimp only); (try simp only [List.cons_append, List.nil_append, List.append_assoc] at N'Z9))
  k_steps
  refine hold_in ?_
  (k_dflt (refine' use_stepped ?S ?B ?F ?X ?N ?T ?hh ?hA ?hf ?hk ?hd ?hu ?_; ((case S => first | assumption | ((with_reducible rename (∀ _ : Tok, Spec _ _ _ _ _ _ _) => C9); exact C9 _)); (case hA => first | with_reducible assumption | exact rfl); (case hf => exact rfl); (case F => k_asm); (case B => k_asm); (case X => k_asm); (case N => first | k_asm | exact news_tail (by k_asm) | exact news_tail (news_tail (by k_asm))); (case T => k_asm); (case hh => first | with_reducible assumption | exact rfl); (case hk => exact rfl); (case hd => ktr_room); (case hu => ktr_units))))
  intro R2 D2 ex2 h9 tk9 e2 P2 F9 N9
  k_sweep
  k_steps
  ((with_reducible rename RetE _ _ _ _ => hret9); (first | refine fin_ret hret9 (by assumption) (by assumption) rfl ?_ | refine fin_next hret9 (by assumption) (by assumption) rfl ?_))
  exact ⟨rfl, R2, D2, ex2, e2, rfl, P2⟩
theorem lt_rc_rule (hst : A.st = .lt .rc) (P : Rep cs tz R none rest A) (G : Good cs A) :
    Spec w 168 [.ref tz] 60 120 (ML w tz R ++ (DLo w none ++ rest)) (Stepped w cs tz R rest (stepA cs A)) := by
  have C := fun z => lt_spec w cs tz R rest A .rc z hst P G
  (k_dflt (refine' spec_def ?ho ?hcd ?hb ?hs ?_; (case ho => k_is); (case hcd => k_is); (case hb => exact fun _ => BindsTo.of_eq rfl); (case hs => exact rfl); k_whole); intro meanZ9 mgZ9 mbZ9 AZ9 A₀Z9 outerZ9 baseZ9 gZ9 LZ9 sZ9 qZ9 F'Z9 N'Z9 B'Z9 X'Z9 T'Z9 hhZ9 hAZ9 hdZ9 huZ9 hretZ9; (try dsimp only); (try simp only [List.cons_append, List.nil_append, List.append_assoc] at N'Z9))
  k_steps
  refine hold_in ?_
  (k_dflt (refine' use_stepped ?S ?B ?F ?X ?N ?T ?hh ?hA ?hf ?hk ?hd ?hu ?_; ((case S => first | assumption | ((with_reducible rename (∀ _ : Tok, Spec _ _ _ _ _ _ _) => C9); exact C9 _)); (case hA => first | with_reducible assumption | exact rfl); (case hf => exact rfl); (case F => k_asm); (case B => k_asm); (case X => k_asm); (case N => first | k_asm | exact news_tail (by k_asm) | exact news_tail (news_tail (by k_asm))); (case T => k_asm); (case hh => first | with_reducible assumption | exact rfl); (case hk => exact rfl); (case hd => ktr_room); (case hu => ktr_units))))
  intro R2 D2 ex2 h9 tk9 e2 P2 F9 N9
  k_sweep
  k_steps
  ((with_reducible rename RetE _ _ _ _ => hret9); (first | refine fin_ret hret9 (by assumption) (by assumption) rfl ?_ | refine fin_next hret9 (by assumption) (by assumption) rfl ?_))
  exact ⟨rfl, R2, D2, ex2, e2, rfl, P2⟩
theorem lt_rw_rule (hst : A.st = .lt .rw) (P : Rep cs tz R none rest A) (G : Good cs A) :
    Spec w 196 [.ref tz] 60 120 (ML w tz R ++ (DLo w none ++ rest)) (Stepped w cs tz R rest (stepA cs A)) := by
  have C := fun z => lt_spec w cs tz R rest A .rw z hst P G
  (k_dflt (refine' spec_def ?ho ?hcd ?hb ?hs ?_; (case ho => k_is); (case hcd => k_is); (case hb => exact fun _ => BindsTo.of_eq rfl); (case hs => exact rfl); k_whole); intro meanZ9 mgZ9 mbZ9 AZ9 A₀Z9 outerZ9 baseZ9 gZ9 LZ9 sZ9 qZ9 F'Z9 N'Z9 B'Z9 X'Z9 T'Z9 hhZ9 hAZ9 hdZ9 huZ9 hretZ9; (try dsimp only); (try simp only [List.cons_append, List.nil_append, List.append_assoc] at N'Z9))
  k_steps
  refine hold_in ?_
  (k_dflt (refine' use_stepped ?S ?B ?F ?X ?N ?T ?hh ?hA ?hf ?hk ?hd ?hu ?_; ((case S => first | assumption | ((with_reducible rename (∀ _ : Tok, Spec _ _ _ _ _ _ _) => C9); exact C9 _)); (case hA => first | with_reducible assumption | exact rfl); (case hf => exact rfl); (case F => k_asm); (case B => k_asm); (case X => k_asm); (case N => first | k_asm | exact news_tail (by k_asm) | exact news_tail (news_tail (by k_asm))); (case T => k_asm); (case hh => first | with_reducible assumption | exact rfl); (case hk => exact rfl); (case hd => ktr_room); (case hu => ktr_units))))
  intro R2 D2 ex2 h9 tk9 e2 P2 F9 N9
  k_sweep
  k_steps
  ((with_reducible rename RetE _ _ _ _ => hret9); (first | refine fin_ret hret9 (by assumption) (by assumption) rfl ?_ | refine fin_next hret9 (by assumption) (by assumption) rfl ?_))
  exact ⟨rfl, R2, D2, ex2, e2, rfl, P2⟩
theorem eto_rc_rule (hst : A.st = .eto .rc) (P : Rep cs tz R none rest A) (G : Good cs A) :
    Spec w 175 [.ref tz] 60 120 (ML w tz R ++ (DLo w none ++ rest)) (Stepped w cs tz R rest (stepA cs A)) := by
  have C := fun z => eto_spec w cs tz R rest A .rc z hst P G
  (k_dflt (refine' spec_def ?ho ?hcd ?hb ?hs ?_; (case ho => k_is); (case hcd => k_is); (case hb => exact fun _ => BindsTo.of_eq rfl); (case hs => exact rfl); k_whole); intro meanZ9 mgZ9 mbZ9 AZ9 A₀Z9 outerZ9 baseZ9 gZ9 LZ9 sZ9 qZ9 F'Z9 N'Z9 B'Z9 X'Z9 T'Z9 hhZ9 hAZ9 hdZ9 huZ9 hretZ9; (try dsimp only); (try simp only [List.cons_append, List.nil_append, List.append_assoc] at N'Z9))
  k_steps
  refine hold_in ?_
  (k_dflt (refine' use_stepped ?S ?B ?F ?X ?N ?T ?hh ?hA ?hf ?hk ?hd ?hu ?_; ((case S => first | assumption | ((with_reducible rename (∀ _ : Tok, Spec _ _ _ _ _ _ _) => C9); exact C9 _)); (case hA => first | with_reducible assumption | exact rfl); (case hf => exact rfl); (case F => k_asm); (case B => k_asm); (case X => k_asm); (case N => first | k_asm | exact news_tail (by k_asm) | exact news_tail (news_tail (by k_asm))); (case T => k_asm); (case hh => first | with_reducible assumption | exact rfl); (case hk => exact rfl); (case hd => ktr_room); (case hu => ktr_units))))
  intro R2 D2 ex2 h9 tk9 e2 P2 F9 N9
  k_sweep
  k_steps
  ((with_reducible rename RetE _ _ _ _ => hret9); (first | refine fin_ret hret9 (by assumption) (by assumption) rfl ?_ | refine fin_next hret9 (by assumption) (by assumption) rfl ?_))
  exact ⟨rfl, R2, D2, ex2, e2, rfl, P2⟩
theorem eto_rw_rule (hst : A.st = .eto .rw) (P : Rep cs tz R none rest A) (G : Good cs A) :
    Spec w 203 [.ref tz] 60 120 (ML w tz R ++ (DLo w none ++ rest)) (Stepped w cs tz R rest (stepA cs A)) := by
  have C := fun z => eto_spec w cs tz R rest A .rw z hst P G
  (k_dflt (refine' spec_def ?ho ?hcd ?hb ?hs ?_; (case ho => k_is); (case hcd => k_is); (case hb => exact fun _ => BindsTo.of_eq rfl); (case hs => exact rfl); k_whole); intro meanZ9 mgZ9 mbZ9 AZ9 A₀Z9 outerZ9 baseZ9 gZ9 LZ9 sZ9 qZ9 F'Z9 N'Z9 B'Z9 X'Z9 T'Z9 hhZ9 hAZ9 hdZ9 huZ9 hretZ9; (try dsimp only); (try simp only [List.cons_append, List.nil_append, List.append_assoc] at N'Z9))
  k_steps
  refine hold_in ?_
  (k_dflt (refine' use_stepped ?S ?B ?F ?X ?N ?T ?hh ?hA ?hf ?hk ?hd ?hu ?_; ((case S => first | assumption | ((with_reducible rename (∀ _ : Tok, Spec _ _ _ _ _ _ _) => C9); exact C9 _)); (case hA => first | with_reducible assumption | exact rfl); (case hf => exact rfl); (case F => k_asm); (case B => k_asm); (case X => k_asm); (case N => first | k_asm | exact news_tail (by k_asm) | exact news_tail (news_tail (by k_asm))); (case T => k_asm); (case hh => first | with_reducible assumption | exact rfl); (case hk => exact rfl); (case hd => ktr_room); (case hu => ktr_units))))
  intro R2 D2 ex2 h9 tk9 e2 P2 F9 N9
  k_sweep
  k_steps
  ((with_reducible rename RetE _ _ _ _ => hret9); (first | refine fin_ret hret9 (by assumption) (by assumption) rfl ?_ | refine fin_next hret9 (by assumption) (by assumption) rfl ?_))
  exact ⟨rfl, R2, D2, ex2, e2, rfl, P2⟩
theorem etn_rc_rule (D : DRaw) (hst : A.st = .etn .rc) (d : Dr) (hd : A.dr = some d) (P : Rep cs tz R (some D) rest A) (G : Good cs A) (hlast : A.last ≠ []) (hnm : d.name.length ≤ 100) :
    Spec w 182 [.ref tz] 60 120 (ML w tz R ++ (DLo w (some D) ++ rest)) (Stepped w cs tz R rest (stepA cs A)) := by
  have C := fun z => etn_spec w cs tz R D rest A .rc z hst d hd P G hlast hnm
  (k_dflt (refine' spec_def ?ho ?hcd ?hb ?hs ?_; (case ho => k_is); (case hcd => k_is); (case hb => exact fun _ => BindsTo.of_eq rfl); (case hs => exact rfl); k_whole); intro meanZ9 mgZ9 mbZ9 AZ9 A₀Z9 outerZ9 baseZ9 gZ9 LZ9 sZ9 qZ9 F'Z9 N'Z9 B'Z9 X'Z9 T'Z9 hhZ9 hAZ9 hdZ9 huZ9 hretZ9; (try dsimp only); (try simp only [List.cons_append, List.nil_append, List.append_assoc] at N'Z9))
  k_steps
  refine hold_in ?_
  (k_dflt (refine' use_stepped ?S ?B ?F ?X ?N ?T ?hh ?hA ?hf ?hk ?hd ?hu ?_; ((case S => first | assumption | ((with_reducible rename (∀ _ : Tok, Spec _ _ _ _ _ _ _) => C9); exact C9 _)); (case hA => first | with_reducible assumption | exact rfl); (case hf => exact rfl); (case F => k_asm); (case B => k_asm); (case X => k_asm); (case N => first | k_asm | exact news_tail (by k_asm) | exact news_tail (news_tail (by k_asm))); (case T => k_asm); (case hh => first | with_reducible assumption | exact rfl); (case hk => exact rfl); (case hd => ktr_room); (case hu => ktr_units))))
  intro R2 D2 ex2 h9 tk9 e2 P2 F9 N9
  k_sweep
  k_steps
  ((with_reducible rename RetE _ _ _ _ => hret9); (first | refine fin_ret hret9 (by assumption) (by assumption) rfl ?_ | refine fin_next hret9 (by assumption) (by assumption) rfl ?_))
  exact ⟨rfl, R2, D2, ex2, e2, rfl, P2⟩
theorem etn_rw_rule (D : DRaw) (hst : A.st = .etn .rw) (d : Dr) (hd : A.dr = some d) (P : Rep cs tz R (some D) rest A) (G : Good cs A) (hlast : A.last ≠ []) (hnm : d.name.length ≤ 100) :
    Spec w 210 [.ref tz] 60 120 (ML w tz R ++ (DLo w (some D) ++ rest)) (Stepped w cs tz R rest (stepA cs A)) := by
  have C := fun z => etn_spec w cs tz R D rest A .rw z hst d hd P G hlast hnm
  (k_dflt (refine' spec_def ?ho ?hcd ?hb ?hs ?_; (case ho => k_is); (case hcd => k_is); (case hb => exact fun _ => BindsTo.of_eq rfl); (case hs => exact rfl); k_whole); intro meanZ9 mgZ9 mbZ9 AZ9 A₀Z9 outerZ9 baseZ9 gZ9 LZ9 sZ9 qZ9 F'Z9 N'Z9 B'Z9 X'Z9 T'Z9 hhZ9 hAZ9 hdZ9 huZ9 hretZ9; (try dsimp only); (try simp only [List.cons_append, List.nil_append, List.append_assoc] at N'Z9))
  k_steps
  refine hold_in ?_
  (k_dflt (refine' use_stepped ?S ?B ?F ?X ?N ?T ?hh ?hA ?hf ?hk ?hd ?hu ?_; ((case S => first | assumption | ((with_reducible rename (∀ _ : Tok, Spec _ _ _ _ _ _ _) => C9); exact C9 _)); (case hA => first | with_reducible assumption | exact rfl); (case hf => exact rfl); (case F => k_asm); (case B => k_asm); (case X => k_asm); (case N => first | k_asm | exact news_tail (by k_asm) | exact news_tail (news_tail (by k_asm))); (case T => k_asm); (case hh => first | with_reducible assumption | exact rfl); (case hk => exact rfl); (case hd => ktr_room); (case hu => ktr_units))))
  intro R2 D2 ex2 h9 tk9 e2 P2 F9 N9
  k_sweep
  k_steps
  ((with_reducible rename RetE _ _ _ _ => hret9); (first | refine fin_ret hret9 (by assumption) (by assumption) rfl ?_ | refine fin_next hret9 (by assumption) (by assumption) rfl ?_))
  exact ⟨rfl, R2, D2, ex2, e2, rfl, P2⟩
end
end
example : True := by w_top off; trivial
section
open PyProof.V PySem.Spec PySem.Calls
def ruleA : St → Nat
  | .held .rc => 161 | .held .rw => 189 | .lt .rc => 168 | .lt .rw => 196 | .eto .rc => 175 | .eto .rw => 203 | .etn .rc => 182 | .etn .rw => 210
  | .ref => 510 | .ba => 496 | .sol => 503 | .data => 0
noncomputable def ruleV : St → Option Value
  | .data => none
  | st => some (.ref (ruleA st))
/-- the table of the states -/
structure StTab (w : World) (R : Raw) (o : Obj) (kvs : List (PySem.Str × Value)) : Prop where
  lo : (R.T.states == sysModules) = false
  is : o.IsDictOf (PySem.strKind PySem.Challenge.rw_nt0604_01.row.prog w) kvs
  val : ∀ st, valueAt kvs (stS st) = ruleV st
section
variable {w : World} {A : Around} {E : Value → Shared → Prop} {s : Shared} {h₀ : Heap} {L d : Addr} {news : Led} {o : Obj} {kvs : List (PySem.Str × Value)} {k : PySem.Str} {tk : Tok}
theorem st_notin {r : Option Value} {Q : Value → Shared → Prop} (N : News h₀ L s.heap news) (hp : (d, o) ∈ news) (hd : o.IsDictOf (PySem.strKind PySem.Challenge.rw_nt0604_01.row.prog w) kvs) (lo : (d == sysModules) = false) (hl : valueAt kvs k = r)
    (h : Q (.bool (!r.isSome)) { s with toks := s.toks + 1 }) : wpAny (model PySem.Challenge.rw_nt0604_01.row.prog w) A (compareOp .NotIn (.str k tk) (.ref d)) Q E s :=
  kdg_notin (knd := PySem.strKind PySem.Challenge.rw_nt0604_01.row.prog w) N hp hd lo (strKind_is _ _ _ _) r.isSome (by rw [hl]) h
theorem st_item {value slice : PySem.Expr} {v : Value} {Q : Value → Shared → Prop} (N : News h₀ L s.heap news) (hp : (d, o) ∈ news) (hd : o.IsDictOf (PySem.strKind PySem.Challenge.rw_nt0604_01.row.prog w) kvs) (hl : valueAt kvs k = some v)
    (hs : subscripted slice false (.ref d) (.str k tk) = operate [.ref d, .str k tk] (getItem (.ref d) (.str k tk)))
    (h : Q v { s with toks := s.toks + 1 }) : wpAny (model PySem.Challenge.rw_nt0604_01.row.prog w) A (subscriptTail value slice (.ref d) (.str k tk)) Q E s :=
  have hD := kda_dict N hp hd
  tail_any hD.typeIs slot_dict_getitem.lookup (wpAny_getItem_of (strKind_is _ _ _ _) hD.mapOf hl h) hs
end
set_option hygiene false
local macro_rules | `(tactic| walk_at "compareOp NotIn str ref") => `(tactic| refine hold_out ?_)
local macro_rules | `(tactic| walk_at "subscriptTail") => `(tactic| ((with_reducible show wpAny _ _ (subscriptTail _ _ (Value.ref _) (Value.str _ _)) _ _ _); refine hold_out ?_))
local macro_rules | `(tactic| walk_at "subscriptTail Name Attribute ref str") => `(tactic| ((with_reducible show wpAny _ _ (subscriptTail _ _ (Value.ref _) (Value.str _ _)) _ _ _); refine hold_out ?_))
local macro_rules | `(tactic| walk_at "callWith ref") => `(tactic| ((with_reducible show wpAny _ _ (callWith _ (Value.ref (ruleA _)) _ _ _) _ _ _); refine hold_out ?_))
local macro_rules | `(tactic| walk_at "call ref cons nil") => `(tactic| ((with_reducible show wpAny _ _ (call (Value.ref (ruleA _)) _) _ _ _); refine hold_out ?_))
set_option hygiene true
theorem Raw.wEq {R : Raw} (h : R.T.waiting = false) : R = { R with T := { R.T with waiting := false } } := by
  obtain ⟨td, T, sd, signs, serr, k, vs, sn, outs, on, ers, en⟩ := R
  obtain ⟨kt, states, stream, vat, atT, state, stT, back, bkT, out, errors, draft, buffer, bfT, code, last, lsT, foreign, waiting, done⟩ := T
  dsimp only at h
  subst h
  rfl
section
variable (w : World) (cs : List Nat) (t : Nat) (R : Raw) (rest : Led) (A : Abs) (D : Option DRaw)
theorem step_spec (o : Obj) (kvs : List (PySem.Str × Value)) (B : StTab w R o kvs) (ho : (R.T.states, o) ∈ rest) (hst : ruleV A.st = some (.ref (ruleA A.st))) (P : Rep cs t R D rest A)
    (hkp : keepIn (hd.heap_39 w.params) (.ref (ruleA A.st)) = true)
    (hC : Spec w (ruleA A.st) [.ref t] 60 120 (ML w t R ++ (DLo w D ++ rest)) (Stepped w cs t R rest (stepA cs A))) :
    Spec w 447 [.ref t] 80 160 (ML w t R ++ (DLo w D ++ rest)) (Stepped w cs t R rest (stepA cs A)) := by
  have hval : valueAt kvs R.T.state = some (.ref (ruleA A.st)) := by rw [P.state, B.val, hst]
  have his := B.is
  have hlo := B.lo
  have hne := neN (P.off.f1 _ ho)
  obtain ⟨R0, e0⟩ : ∃ R0 : Raw, R = { R0 with T := { R0.T with waiting := false } } := ⟨R, Raw.wEq P.waiting⟩
  subst e0
  obtain ⟨z1, z2, z3⟩ := P.offAll w
  obtain ⟨u1, u2, u3, u4, u5, u6⟩ := P.ord
  (try dsimp only at z1 z2 z3 u1 u2 u3 u4 u5 u6 hval hne hlo)
  have C := hC
  (k_dflt (refine' spec_def ?ho ?hcd ?hb ?hs ?_; (case ho => k_is); (case hcd => k_is); (case hb => exact fun _ => BindsTo.of_eq rfl); (case hs => exact rfl); k_whole); intro meanZ9 mgZ9 mbZ9 AZ9 A₀Z9 outerZ9 baseZ9 gZ9 LZ9 sZ9 qZ9 F'Z9 N'Z9 B'Z9 X'Z9 T'Z9 hhZ9 hAZ9 hdZ9 huZ9 hretZ9; (try dsimp only); (try simp only [List.cons_append, List.nil_append, List.append_assoc] at N'Z9))
  (with_reducible rename News _ _ _ _ => N8)
  have N9 := news_dup N8 (q := (R0.T.states, o)) (by simp [ho])
  clear N8
  (k_steps; repeat' ((refine hold_in ?_); (first | ((with_reducible show wpAny _ _ (compareOp _ _ _) _ _ _); ((k_dflt (refine st_notin (by k_asm) (.head _) (by assumption) (by assumption) (by assumption) ?_); (try dsimp only [Option.isSome, Bool.not_true, Bool.not_false])))) | ((with_reducible show wpAny _ _ (subscriptTail _ _ (Value.ref _) (Value.str _ _)) _ _ _); ((k_dflt (refine' st_item (by k_asm) (.head _) (by assumption) (by assumption) (by with_unfolding_all rfl) ?_; k_whole)))) | ((with_reducible show wpAny _ _ (callWith _ _ _ _ _) _ _ _); ((k_dflt (refine' callWith_K (by k_asm) (by assumption) ?_; k_whole))))); k_steps))
  refine hold_in ?_
  (k_dflt (refine' use_stepped ?S ?B ?F ?X ?N ?T ?hh ?hA ?hf ?hk ?hd ?hu ?_; ((case S => first | assumption | ((with_reducible rename (∀ _ : Tok, Spec _ _ _ _ _ _ _) => C9); exact C9 _)); (case hA => first | with_reducible assumption | exact rfl); (case hf => exact rfl); (case F => k_asm); (case B => k_asm); (case X => k_asm); (case N => first | k_asm | exact news_tail (by k_asm) | exact news_tail (news_tail (by k_asm))); (case T => k_asm); (case hh => first | with_reducible assumption | exact rfl); (case hk => exact rfl); (case hd => ktr_room); (case hu => ktr_units))))
  intro R2 D2 ex2 h9 tk9 e2 P2 F9 N9
  k_sweep
  have hw := P2.waiting
  (k_steps; repeat' ((refine hold_in ?_); (first | ((with_reducible show wpAny _ _ (compareOp _ _ _) _ _ _); ((k_dflt (refine st_notin (by k_asm) (.head _) (by assumption) (by assumption) (by assumption) ?_); (try dsimp only [Option.isSome, Bool.not_true, Bool.not_false])))) | ((with_reducible show wpAny _ _ (subscriptTail _ _ (Value.ref _) (Value.str _ _)) _ _ _); ((k_dflt (refine' st_item (by k_asm) (.head _) (by assumption) (by assumption) (by with_unfolding_all rfl) ?_; k_whole)))) | ((with_reducible show wpAny _ _ (callWith _ _ _ _ _) _ _ _); ((k_dflt (refine' callWith_K (by k_asm) (by assumption) ?_; k_whole))))); k_steps))
  ((with_reducible rename RetE _ _ _ _ => hret9); (first | refine fin_ret hret9 (by assumption) (by assumption) rfl ?_ | refine fin_next hret9 (by assumption) (by assumption) rfl ?_))
  exact ⟨rfl, R2, D2, ex2, e2, rfl, P2⟩
end
end
example : True := by w_top off; trivial
section
open PyProof.V PySem.Spec PySem.Calls
set_option hygiene false
local macro_rules | `(tactic| walk_at "compareOp NotIn str ref") => `(tactic| refine hold_out ?_)
set_option hygiene true
section
variable (w : World) (cs : List Nat) (t : Nat) (R : Raw) (rest : Led) (A : Abs) (D : Option DRaw)
theorem ready_spec (o : Obj) (kvs : List (PySem.Str × Value)) (B : StTab w R o kvs) (ho : (R.T.states, o) ∈ rest) (P : Rep cs t R D rest A) :
    Spec w 454 [.ref t] 10 20 (ML w t R ++ (DLo w D ++ rest)) (fun v n => v = .bool (!A.done && (ruleV A.st).isSome) ∧ n = ML w t R ++ (DLo w D ++ rest)) := by
  have his := B.is
  have hlo := B.lo
  have hval : valueAt kvs R.T.state = ruleV A.st := by rw [P.state, B.val]
  have hw := P.waiting
  have hdn := P.done
  cases hd : A.done with
  | true =>
    rw [hd] at hdn
    (k_dflt (refine' spec_def ?ho ?hcd ?hb ?hs ?_; (case ho => k_is); (case hcd => k_is); (case hb => exact fun _ => BindsTo.of_eq rfl); (case hs => exact rfl); k_whole); intro meanZ9 mgZ9 mbZ9 AZ9 A₀Z9 outerZ9 baseZ9 gZ9 LZ9 sZ9 qZ9 F'Z9 N'Z9 B'Z9 X'Z9 T'Z9 hhZ9 hAZ9 hdZ9 huZ9 hretZ9; (try dsimp only); (try simp only [List.cons_append, List.nil_append, List.append_assoc] at N'Z9))
    (with_reducible rename News _ _ _ _ => N8)
    have N9 := news_dup N8 (q := (R.T.states, o)) (by simp [ho])
    clear N8
    (k_steps; repeat' ((refine hold_in ?_); (first | ((with_reducible show wpAny _ _ (compareOp _ _ _) _ _ _); ((k_dflt (refine st_notin (by k_asm) (.head _) (by assumption) (by assumption) (by assumption) ?_); (try dsimp only [Option.isSome, Bool.not_true, Bool.not_false]))))); k_steps))
    ((with_reducible rename RetE _ _ _ _ => hret9); (first | refine fin_ret hret9 (by assumption) (news_tail (by assumption)) rfl ?_ | refine fin_next hret9 (by assumption) (news_tail (by assumption)) rfl ?_))
    exact ⟨rfl, rfl⟩
  | false =>
    rw [hd] at hdn
    rcases hv : ruleV A.st with _ | f
    · rw [hv] at hval
      (k_dflt (refine' spec_def ?ho ?hcd ?hb ?hs ?_; (case ho => k_is); (case hcd => k_is); (case hb => exact fun _ => BindsTo.of_eq rfl); (case hs => exact rfl); k_whole); intro meanZ9 mgZ9 mbZ9 AZ9 A₀Z9 outerZ9 baseZ9 gZ9 LZ9 sZ9 qZ9 F'Z9 N'Z9 B'Z9 X'Z9 T'Z9 hhZ9 hAZ9 hdZ9 huZ9 hretZ9; (try dsimp only); (try simp only [List.cons_append, List.nil_append, List.append_assoc] at N'Z9))
      (with_reducible rename News _ _ _ _ => N8)
      have N9 := news_dup N8 (q := (R.T.states, o)) (by simp [ho])
      clear N8
      (k_steps; repeat' ((refine hold_in ?_); (first | ((with_reducible show wpAny _ _ (compareOp _ _ _) _ _ _); ((k_dflt (refine st_notin (by k_asm) (.head _) (by assumption) (by assumption) (by assumption) ?_); (try dsimp only [Option.isSome, Bool.not_true, Bool.not_false]))))); k_steps))
      ((with_reducible rename RetE _ _ _ _ => hret9); (first | refine fin_ret hret9 (by assumption) (news_tail (by assumption)) rfl ?_ | refine fin_next hret9 (by assumption) (news_tail (by assumption)) rfl ?_))
      exact ⟨rfl, rfl⟩
    · rw [hv] at hval
      (k_dflt (refine' spec_def ?ho ?hcd ?hb ?hs ?_; (case ho => k_is); (case hcd => k_is); (case hb => exact fun _ => BindsTo.of_eq rfl); (case hs => exact rfl); k_whole); intro meanZ9 mgZ9 mbZ9 AZ9 A₀Z9 outerZ9 baseZ9 gZ9 LZ9 sZ9 qZ9 F'Z9 N'Z9 B'Z9 X'Z9 T'Z9 hhZ9 hAZ9 hdZ9 huZ9 hretZ9; (try dsimp only); (try simp only [List.cons_append, List.nil_append, List.append_assoc] at N'Z9))
      (with_reducible rename News _ _ _ _ => N8)
      have N9 := news_dup N8 (q := (R.T.states, o)) (by simp [ho])
      clear N8
      (k_steps; repeat' ((refine hold_in ?_); (first | ((with_reducible show wpAny _ _ (compareOp _ _ _) _ _ _); ((k_dflt (refine st_notin (by k_asm) (.head _) (by assumption) (by assumption) (by assumption) ?_); (try dsimp only [Option.isSome, Bool.not_true, Bool.not_false]))))); k_steps))
      ((with_reducible rename RetE _ _ _ _ => hret9); (first | refine fin_ret hret9 (by assumption) (news_tail (by assumption)) rfl ?_ | refine fin_next hret9 (by assumption) (news_tail (by assumption)) rfl ?_))
      exact ⟨rfl, rfl⟩
end
end
section
open PyProof.V PySem.Spec PySem.Calls
theorem Spec.weaken {w : World} {f : Addr} {vs : List Value} {dd uu dd' uu' : Nat} {news : Led} {Ret : Value → Led → Prop} (S : Spec w f vs dd uu news Ret) (h1 : dd ≤ dd') (h2 : uu ≤ uu') : Spec w f vs dd' uu' news Ret := by
  unfold Spec at *
  intro mean mg mb A A₀ env outer base h₀ L m s Q E B F X N T hh hA hf hk hd hu ret
  exact S mean mg mb A A₀ env outer base h₀ L m s Q E B F X N T hh hA hf hk (by omega) (by omega) ret
theorem rep_none {cs : List Nat} {t : Nat} {R : Raw} {D : Option DRaw} {rest : Led} {A : Abs} (P : Rep cs t R D rest A) (h : A.dr = none) : D = none := by
  have q := P.dr
  rw [h] at q
  cases D with
  | none => rfl
  | some D => exact q.elim
theorem rep_some {cs : List Nat} {t : Nat} {R : Raw} {D : Option DRaw} {rest : Led} {A : Abs} {d : Dr} (P : Rep cs t R D rest A) (h : A.dr = some d) : ∃ D', D = some D' := by
  have q := P.dr
  rw [h] at q
  cases D with
  | none => exact q.elim
  | some D => exact ⟨D, rfl⟩
theorem rule_spec (w : World) (cs : List Nat) (t : Nat) (R : Raw) (rest : Led) (A : Abs) (D : Option DRaw) (K : Nat) (P : Rep cs t R D rest A) (I : Inv cs K A) (hK : K ≤ 10) (hr : readyA A = true) :
    Spec w (ruleA A.st) [.ref t] 60 120 (ML w t R ++ (DLo w D ++ rest)) (Stepped w cs t R rest (stepA cs A)) := by
  have hdn : A.done = false := by
    unfold readyA at hr
    cases h : A.done <;> simp_all
  have G := I.good hK hdn
  have f := I.fit
  unfold Fit at f
  have l := I.len
  have p := I.pos hdn
  cases hst : A.st with
  | held k =>
    rw [hst] at f
    have e := rep_none P f
    subst e
    cases k
    · exact held_rc_rule w cs t R rest A hst f P G
    · exact held_rw_rule w cs t R rest A hst f P G
  | lt k =>
    rw [hst] at f
    have e := rep_none P f
    subst e
    cases k
    · exact lt_rc_rule w cs t R rest A hst P G
    · exact lt_rw_rule w cs t R rest A hst P G
  | eto k =>
    rw [hst] at f
    have e := rep_none P f.1
    subst e
    cases k
    · exact eto_rc_rule w cs t R rest A hst P G
    · exact eto_rw_rule w cs t R rest A hst P G
  | etn k =>
    rw [hst] at f
    obtain ⟨d, f⟩ := f
    obtain ⟨D', e⟩ := rep_some P f
    subst e
    have hn := (I.dr d f).2
    cases k
    · exact etn_rc_rule w cs t R rest A D' hst d f P G I.last (by omega)
    · exact etn_rw_rule w cs t R rest A D' hst d f P G I.last (by omega)
  | ref =>
    rw [hst] at f
    have e := rep_none P f
    subst e
    exact (ref_spec w cs t R rest A hst P G).weaken (by decide) (by decide)
  | ba =>
    rw [hst] at f
    obtain ⟨d, f⟩ := f
    obtain ⟨D', e⟩ := rep_some P f
    subst e
    exact (ba_spec w cs t R rest A D' hst d f P G).weaken (by decide) (by decide)
  | sol =>
    rw [hst] at f
    obtain ⟨d, f⟩ := f
    obtain ⟨D', e⟩ := rep_some P f
    subst e
    exact (sol_spec w cs t R rest A D' hst d f P G).weaken (by decide) (by decide)
  | data =>
    unfold readyA at hr
    rw [hst] at hr
    simp [isData] at hr
theorem ruleV_ready {A : Abs} (hr : readyA A = true) : ruleV A.st = some (.ref (ruleA A.st)) := by
  unfold readyA at hr
  cases hst : A.st <;> simp_all [ruleV, isData]
theorem ready_bool (A : Abs) : (!A.done && (ruleV A.st).isSome) = readyA A := by
  unfold readyA
  cases A.st <;> simp [ruleV, isData]
theorem keep_rule (w : World) (st : St) (h : isData st = false) : keepIn (hd.heap_39 w.params) (.ref (ruleA st)) = true := by
  cases st with
  | held k => cases k <;> k_is
  | lt k => cases k <;> k_is
  | eto k => cases k <;> k_is
  | etn k => cases k <;> k_is
  | data => cases h
  | _ => k_is
section
variable {prog : Program} {w : World} {A : Around} {E : Value → Shared → Prop} {s : Shared} {env : PySem.Env} {h₀ : Heap} {test : PySem.Expr} {body orelse : List Stmt} {Q : Flow → Shared → Prop}
noncomputable def WhlT (h₀ : Heap) (L : Addr) (J : Nat → Led → Prop) (m : PySem.Str → Option Value) (n : Nat) (Q : Flow → Shared → Prop) (s : Shared) (f : Flow) (s₃ : Shared) : Prop := match f with
  | .ret v => Q (.ret v) s₃
  | .brk => Q .next s₃
  | _ => ∃ n' nx h tk, n' < n ∧ J n' nx ∧ Fr h₀ L h m ∧ News h₀ L h nx ∧ s₃ = { s with heap := h, toks := tk }
/-- a while loop by a measure -/
theorem loop_while {m : PySem.Str → Option Value} {news : Led} (J : Nat → Led → Prop) (hE : PassesOwn (model prog w) A env E) (n : Nat)
    (F : Fr h₀ env.locals s.heap m) (N : News h₀ env.locals s.heap news) (hj : J n news)
    (turn : ∀ n nx h tk, J n nx → Fr h₀ env.locals h m → News h₀ env.locals h nx →
      wpAny (model prog w) A (isTrue test env (eval test env)) (fun b s₂ => WhlIf b (wpAny (model prog w) A (execs body env) (WhlT h₀ env.locals J m n Q s) E s₂) (wpAny (model prog w) A (execs orelse env) Q E s₂)) E { s with heap := h, toks := tk }) :
    WhlRest prog w A E env test body orelse Q 0 s := by
  have H : ∀ n nx h tk, J n nx → Fr h₀ env.locals h m → News h₀ env.locals h nx → WhlRest prog w A E env test body orelse Q 0 { s with heap := h, toks := tk } := by
    intro n
    induction n using Nat.strongRecOn with
    | ind n ih =>
      intro nx h tk hJ hF hN
      refine whl_turn (k := 0) hE (wpAny_mono (turn n nx h tk hJ hF hN) (fun b s₂ hb => ?_) fun _ _ h => h)
      cases b with
      | false => exact hb
      | true =>
        refine WhlIf.yes rfl (wpAny_mono (show wpAny _ _ _ _ _ _ from hb) (fun f s₃ hf => ?_) fun _ _ h => h)
        cases f with
        | ret v => exact hf
        | brk => exact hf
        | next =>
          obtain ⟨n', nx', h', tk', hlt, hJ', hF', hN', rfl⟩ := hf
          exact ih n' hlt nx' h' tk' hJ' hF' hN'
        | cont =>
          obtain ⟨n', nx', h', tk', hlt, hJ', hF', hN', rfl⟩ := hf
          exact ih n' hlt nx' h' tk' hJ' hF' hN'
  exact H n news s.heap s.toks hj F N
end
end
example : True := by w_top off; trivial
section
open PyProof.V PySem.Spec PySem.Calls
set_option hygiene false
local macro_rules | `(tactic| walk_at "exec While") => `(tactic| refine hold_out ?_)
local macro_rules | `(tactic| walk_at "exec While Call") => `(tactic| refine hold_out ?_)
set_option hygiene true
/-- the tokenizer's run, so far -/
noncomputable def RunJ (w : World) (cs : List Nat) (t : Nat) (st : Nat) (rest : Led) (K : Nat) (Z : Abs) (n : Nat) (nx : Led) : Prop :=
  ∃ R D ex A, R.T.states = st ∧ nx = ML w t R ++ (DLo w D ++ (ex ++ rest)) ∧ Rep cs t R D (ex ++ rest) A ∧ Inv cs K A ∧ mA cs A ≤ n ∧ runA cs n A = Z
section
variable (w : World) (cs : List Nat) (t : Nat) (R : Raw) (rest : Led) (A : Abs) (D : Option DRaw)
theorem run_spec (o : Obj) (kvs : List (PySem.Str × Value)) (B : StTab w R o kvs) (ho : (R.T.states, o) ∈ rest) (K : Nat) (P : Rep cs t R D rest A) (I : Inv cs K A) (hK : K ≤ 10) :
    Spec w 461 [.ref t] 100 200 (ML w t R ++ (DLo w D ++ rest))
      (fun v n => ∃ R' D' ex, v = .bool (runA cs (mA cs A) A).done ∧ R'.T.states = R.T.states ∧ n = ML w t R' ++ (DLo w D' ++ (ex ++ rest)) ∧ Rep cs t R' D' (ex ++ rest) (runA cs (mA cs A) A) ∧ Inv cs K (runA cs (mA cs A) A) ∧ readyA (runA cs (mA cs A) A) = false) := by
  have C : True := trivial
  (k_dflt (refine' spec_def ?ho ?hcd ?hb ?hs ?_; (case ho => k_is); (case hcd => k_is); (case hb => exact fun _ => BindsTo.of_eq rfl); (case hs => exact rfl); k_whole); intro meanZ9 mgZ9 mbZ9 AZ9 A₀Z9 outerZ9 baseZ9 gZ9 LZ9 sZ9 qZ9 F'Z9 N'Z9 B'Z9 X'Z9 T'Z9 hhZ9 hAZ9 hdZ9 huZ9 hretZ9; (try dsimp only); (try simp only [List.cons_append, List.nil_append, List.append_assoc] at N'Z9))
  k_steps
  refine hold_in ?_
  (with_reducible rename Fr _ _ _ _ => F9)
  (with_reducible rename News _ _ _ _ => N9)
  refine whl_start 0 ?_
  refine loop_while (J := RunJ w cs t R.T.states rest K (runA cs (mA cs A) A)) ?hE (mA cs A) F9 N9 ⟨R, D, [], A, rfl, rfl, P, I, Nat.le_refl _, rfl⟩ ?_
  case hE => first | passes_own | with_unfolding_all passes_own
  rintro n nx h tk ⟨R1, D1, ex1, A1, e1, rfl, P1, I1, hm, hrun⟩ F8 N8
  clear F9 N9
  have B1 : StTab w R1 o kvs := ⟨by rw [e1]; exact B.lo, B.is, B.val⟩
  have ho1 : (R1.T.states, o) ∈ ex1 ++ rest := by rw [e1]; exact List.mem_append.mpr (.inr ho)
  replace C := ready_spec w cs t R1 (ex1 ++ rest) A1 D1 o kvs B1 ho1 P1
  rw [ready_bool] at C
  cases hr : readyA A1 with
  | false =>
    rw [hr] at C
    k_steps
    refine hold_in ?_
    (k_dflt (refine' use_eq ?S ?B ?F ?X ?N ?T ?hh ?hA ?hf ?hk ?hd ?hu ?_; ((case S => first | assumption | ((with_reducible rename (∀ _ : Tok, Spec _ _ _ _ _ _ _) => C9); exact C9 _)); (case hA => first | with_reducible assumption | exact rfl); (case hf => exact rfl); (case F => k_asm); (case B => k_asm); (case X => k_asm); (case N => first | k_asm | exact news_tail (by k_asm) | exact news_tail (news_tail (by k_asm))); (case T => k_asm); (case hh => first | with_reducible assumption | exact rfl); (case hk => exact rfl); (case hd => ktr_room); (case hu => ktr_units))))
    intro h9 tk9 F9 N9
    k_sweep
    k_steps
    have ez : A1 = runA cs (mA cs A) A := (run_off hr n).symm.trans hrun
    ((with_reducible rename RetE _ _ _ _ => hret9); (first | refine fin_ret hret9 (by assumption) (by assumption) rfl ?_ | refine fin_next hret9 (by assumption) (by assumption) rfl ?_))
    rw [← ez]
    exact ⟨R1, D1, ex1, by rw [P1.done], e1, rfl, P1, I1, hr⟩
  | true =>
    rw [hr] at C
    obtain ⟨I2, hlt⟩ := step_inv I1 hr
    obtain ⟨n', rfl⟩ : ∃ n', n = n' + 1 := ⟨n - 1, by omega⟩
    have hrun2 : runA cs n' (stepA cs A1) = runA cs (mA cs A) A := by
      rw [← hrun]
      show _ = if readyA A1 then _ else _
      rw [hr]; rfl
    have hnd : isData A1.st = false := by
      unfold readyA at hr
      cases h : isData A1.st <;> simp_all
    k_steps
    refine hold_in ?_
    (k_dflt (refine' use_eq ?S ?B ?F ?X ?N ?T ?hh ?hA ?hf ?hk ?hd ?hu ?_; ((case S => first | assumption | ((with_reducible rename (∀ _ : Tok, Spec _ _ _ _ _ _ _) => C9); exact C9 _)); (case hA => first | with_reducible assumption | exact rfl); (case hf => exact rfl); (case F => k_asm); (case B => k_asm); (case X => k_asm); (case N => first | k_asm | exact news_tail (by k_asm) | exact news_tail (news_tail (by k_asm))); (case T => k_asm); (case hh => first | with_reducible assumption | exact rfl); (case hk => exact rfl); (case hd => ktr_room); (case hu => ktr_units))))
    intro h9 tk9 F9 N9
    k_sweep
    replace C := step_spec w cs t R1 (ex1 ++ rest) A1 D1 o kvs B1 ho1 (ruleV_ready hr) P1 (keep_rule w A1.st hnd) (rule_spec w cs t R1 (ex1 ++ rest) A1 D1 K P1 I1 hK hr)
    k_steps
    refine hold_in ?_
    (k_dflt (refine' use_stepped ?S ?B ?F ?X ?N ?T ?hh ?hA ?hf ?hk ?hd ?hu ?_; ((case S => first | assumption | ((with_reducible rename (∀ _ : Tok, Spec _ _ _ _ _ _ _) => C9); exact C9 _)); (case hA => first | with_reducible assumption | exact rfl); (case hf => exact rfl); (case F => k_asm); (case B => k_asm); (case X => k_asm); (case N => first | k_asm | exact news_tail (by k_asm) | exact news_tail (news_tail (by k_asm))); (case T => k_asm); (case hh => first | with_reducible assumption | exact rfl); (case hk => exact rfl); (case hd => ktr_room); (case hu => ktr_units))))
    intro R2 D2 ex2 h9 tk9 e2 P2 F9 N9
    k_sweep
    k_steps
    exact ⟨n', _, _, _, Nat.lt_succ_self _, ⟨R2, D2, ex2 ++ ex1, _, e2.trans e1, by rw [List.append_assoc], by rw [List.append_assoc]; exact P2, I2, by omega, hrun2⟩, F9, N9, rfl⟩
end
end
set_option hygiene false
local macro_rules | `(tactic| walk_at "pad") => `(tactic| skip)
set_option hygiene true
example : True := by w_top off; trivial
section
open PyProof.V PySem.Spec PySem.Calls
/-- a contract of a def that is handed a list of the first heap -/
noncomputable def SpecL (w : World) (l : Addr) (vs : List Value) (f : Addr) (args : List Value) (dd uu : Nat) (news : Led) (Ret : Value → Led → Prop) : Prop :=
  ∀ (mean : ExcName → Option Value) (mg mb : PySem.Str → Option Value) (A A₀ : Around) (env : PySem.Env) (outer : List PySem.Env) (base h₀ : Heap) (L : Addr) (m : PySem.Str → Option Value) (s : Shared) (Q E : Value → Shared → Prop),
    Below A₀ base outer h₀ → Fr h₀ L s.heap m → (hd.heap_39 w.params).In h₀ → News h₀ L s.heap news → h₀.IsList l vs.toArray →
    Top hd.view_39 (looseW hd.view_39 []) mean mg mb h₀ → A.handled = none → A.frames = some (env :: outer) → env.frame = some L → env.scope.kind = .function → A.depth + dd < recursionLimit → A.units + uu < cLine →
    (∀ v news' h' tk', Ret v news' → Fr h₀ L h' m → News h₀ L h' news' → Q v { s with heap := h', toks := tk' }) →
    wpAny (model PySem.Challenge.rw_nt0604_01.row.prog w) A (call (.ref f) args) Q E s
theorem ints_get {vs : List Value} {ns : List Int} (h : IntsAre vs ns) : ∀ k (hk : k < vs.length), ∃ d td, vs[k] = Value.int d td := by
  induction h with
  | nil => intro k hk; exact absurd hk (Nat.not_lt_zero _)
  | cons i t h ih =>
    intro k hk
    cases k with
    | zero => exact ⟨_, _, rfl⟩
    | succ k => exact ih k (Nat.lt_of_succ_lt_succ hk)
theorem isList_in {h₀ h : Heap} {L l : Addr} {m : PySem.Str → Option Value} {a : Array Value} (F : Fr h₀ L h m) (hl : h₀.IsList l a) : h.IsList l a := by
  obtain ⟨o, ho, r⟩ := hl
  exact ⟨o, F.keep _ _ ho, r⟩
section
variable {w : World} {l : Addr} {lv : List Value} {f : Addr} {name qual : PySem.Str} {params : Arguments} {body : List Stmt} {scope : Scope} {dV kV doc pm cdv ct oc : Value} {an od : Option Addr} {osl : Array (Option Value)} {vs : List Value} {k j : Nat} {news : Led} {Ret : Value → Led → Prop}
theorem specL_def
    (ho : (hd.heap_39 w.params).lookup f = some ⟨oc, od, .func (fnOf name qual params body scope dV kV doc pm an cdv ct), osl⟩) (hcd : codeIn (hd.heap_39 w.params) cdv qual = true)
    (hbind : ∀ s, BindsTo s (fnOf name qual params body scope dV kV doc pm an cdv ct) ⟨vs, []⟩ (bd params vs)) (hsc : scOk params scope = true)
    (h : ∀ (mean : ExcName → Option Value) (mg mb : PySem.Str → Option Value) (A A₀ : Around) (outer : List PySem.Env) (base g : Heap) (L : Addr) (s : Shared) (q : Flow → Shared → Prop),
      Fr g L s.heap (mB params vs) → News g L s.heap news → g.IsList l lv.toArray → Below A₀ base outer g → (hd.heap_39 w.params).In g → Top hd.view_39 (looseW hd.view_39 []) mean mg mb g →
      A.handled = none → A.frames = some (envOf qual scope L f cdv :: outer) → A.depth + k < recursionLimit → A.units + j < cLine → RetE g s Ret q →
      wpAny (model PySem.Challenge.rw_nt0604_01.row.prog w) A (execs body (envOf qual scope L f cdv)) (Nx q) (fun _ _ => False) s) : SpecL w l lv f vs (k + 1) (j + 3) news Ret := by
  intro mean mg mb A A₀ env outer base h₀ L m s Q E B F X N hl T hh hA hf hk hd hu ret
  refine wpAny_call (code_defB B F X N T hh hA hf hk hd hu ho hcd (hbind s) (scOk_loc hsc) hsc fun A₁ g L' h₁ q tk FG F' N' B' X' T' hh' hA' hd' hu' H => ?_)
  refine h mean mg mb A₁ A (env :: outer) base g L' _ q F' N' (isList_in FG hl) B' X' T' hh' hA' hd' hu' ⟨?_, ?_⟩
  · exact fun v h' tk' L2 m2 n2 hr F2 N2 => H.r v _ L2 m2 n2 F2 N2 fun kF kN => ret v n2 h' tk' hr kF kN
  · exact fun h' tk' L2 m2 n2 hr F2 N2 => H.n _ L2 m2 n2 F2 N2 fun kF kN => ret _ n2 h' tk' hr kF kN
end
set_option hygiene false
local macro_rules | `(tactic| walk_at "call builtin:len") => `(tactic| refine hold_out ?_)
local macro_rules | `(tactic| walk_at "subscriptTail Name Name ref int") => `(tactic| refine hold_out ?_)
set_option hygiene true
section
variable (w : World) (l : Addr) (vs : List Value) (ns : List Int) (rest : Led)
theorem digit_spec (hI : IntsAre vs ns) (hn : ns.length ≤ 63) (k : Nat) (kk : Int) (hkk : kk = k) (kt : Tok) (hk : k ≤ 40) : SpecL w l vs 475 [.ref l, .int kk kt] 10 20 rest (fun v n => (∃ d tk, v = .int d tk) ∧ n = rest) := by
  have hlen : vs.length = ns.length := hI.length
  subst hkk
  by_cases hlt : k < vs.length
  · obtain ⟨d, td, hx⟩ : ∃ d td, vs[((k : Nat) : Int).toNat]? = some (Value.int d td) := by
      rw [Int.toNat_natCast, List.getElem?_eq_getElem hlt]
      obtain ⟨d, td, e⟩ := ints_get hI k hlt
      exact ⟨d, td, by rw [e]⟩
    have hlt2 : (k : Int) < vs.length := by omega
    (k_dflt (refine' specL_def ?ho ?hcd ?hb ?hs ?_; (case ho => k_is); (case hcd => k_is); (case hb => exact fun _ => BindsTo.of_eq rfl); (case hs => exact rfl); k_whole); intro meanZ9 mgZ9 mbZ9 AZ9 A₀Z9 outerZ9 baseZ9 gZ9 LZ9 sZ9 qZ9 F'Z9 N'Z9 hl0Z9 B'Z9 X'Z9 T'Z9 hhZ9 hAZ9 hdZ9 huZ9 hretZ9; (try dsimp only); (try simp only [List.cons_append, List.nil_append, List.append_assoc] at N'Z9); (have hl1 := isList_in F'Z9 hl0Z9))
    (k_steps; repeat' ((refine hold_in ?_); (first | ((with_reducible show wpAny _ _ (call (Value.builtin _) _) _ _ _); ((refine len_list (isList_in (by assumption) (by assumption)) (by simp only [List.size_toArray]; omega) ?_))) | ((with_reducible show wpAny _ _ (subscriptTail _ (Expr.Name _ _) _ _) _ _ _); ((with_unfolding_all refine' item_at (by exact isList_in (by assumption) (by assumption)) (by omega) (by omega) (by first | assumption | exact rfl) (by with_unfolding_all rfl) ?_; k_whole)))); k_steps))
    ((with_reducible rename RetE _ _ _ _ => hret9); (first | refine fin_ret hret9 (by assumption) (by assumption) rfl ?_ | refine fin_next hret9 (by assumption) (by assumption) rfl ?_))
    exact ⟨⟨_, _, rfl⟩, rfl⟩
  · have hlt2 : ¬ ((k : Int) < vs.length) := by omega
    (k_dflt (refine' specL_def ?ho ?hcd ?hb ?hs ?_; (case ho => k_is); (case hcd => k_is); (case hb => exact fun _ => BindsTo.of_eq rfl); (case hs => exact rfl); k_whole); intro meanZ9 mgZ9 mbZ9 AZ9 A₀Z9 outerZ9 baseZ9 gZ9 LZ9 sZ9 qZ9 F'Z9 N'Z9 hl0Z9 B'Z9 X'Z9 T'Z9 hhZ9 hAZ9 hdZ9 huZ9 hretZ9; (try dsimp only); (try simp only [List.cons_append, List.nil_append, List.append_assoc] at N'Z9); (have hl1 := isList_in F'Z9 hl0Z9))
    (k_steps; repeat' ((refine hold_in ?_); (first | ((with_reducible show wpAny _ _ (call (Value.builtin _) _) _ _ _); ((refine len_list (isList_in (by assumption) (by assumption)) (by simp only [List.size_toArray]; omega) ?_))) | ((with_reducible show wpAny _ _ (subscriptTail _ (Expr.Name _ _) _ _) _ _ _); ((with_unfolding_all refine' item_at (by exact isList_in (by assumption) (by assumption)) (by omega) (by omega) (by first | assumption | exact rfl) (by with_unfolding_all rfl) ?_; k_whole)))); k_steps))
    ((with_reducible rename RetE _ _ _ _ => hret9); (first | refine fin_ret hret9 (by assumption) (by assumption) rfl ?_ | refine fin_next hret9 (by assumption) (by assumption) rfl ?_))
    exact ⟨⟨_, _, rfl⟩, rfl⟩
end
theorem specL_use {w : World} {l : Addr} {lv : List Value} {f : Addr} {vs : List Value} {dd uu : Nat} {news : Led} {Ret : Value → Led → Prop} (S : SpecL w l lv f vs dd uu news Ret)
    {mean : ExcName → Option Value} {mg mb : PySem.Str → Option Value} {A A₀ : Around} {env : PySem.Env} {outer : List PySem.Env} {base h₀ : Heap} {L : Addr} {m : PySem.Str → Option Value} {s : Shared} {Q E : Value → Shared → Prop}
    (B : Below A₀ base outer h₀) (F : Fr h₀ L s.heap m) (X : (hd.heap_39 w.params).In h₀) (N : News h₀ L s.heap news) (hl : h₀.IsList l lv.toArray)
    (T : Top hd.view_39 (looseW hd.view_39 []) mean mg mb h₀) (hh : A.handled = none) (hA : A.frames = some (env :: outer)) (hf : env.frame = some L) (hk : env.scope.kind = .function) (hd' : A.depth + dd < recursionLimit) (hu : A.units + uu < cLine)
    (ret : ∀ v news' h' tk', Ret v news' → Fr h₀ L h' m → News h₀ L h' news' → Q v { s with heap := h', toks := tk' }) :
    wpAny (model PySem.Challenge.rw_nt0604_01.row.prog w) A (call (.ref f) vs) Q E s :=
  S mean mg mb A A₀ env outer base h₀ L m s Q E B F X N hl T hh hA hf hk hd' hu ret
section
variable {prog : Program} {w : World} {A : Around} {E : Value → Shared → Prop} {s : Shared} {env : PySem.Env} {h₀ : Heap} {x x2 : PySem.Str} {body : List Stmt} {Q : Flow → Shared → Prop}
/-- only the loop's own name and one more are stored -/
noncomputable def Two (x x2 : PySem.Str) (m₀ : PySem.Str → Option Value) (J : Led → Prop) (m : PySem.Str → Option Value) (nx : Led) : Prop := (∀ z, z ≠ x → z ≠ x2 → m z = m₀ z) ∧ J nx
theorem two_fr {h₀ h : Heap} {L : Addr} {m₀ m₁ : PySem.Str → Option Value} {v : Value} (F : Fr h₀ L h (fun y => if y = x then some v else m₁ y)) (e : ∀ z, z ≠ x → z ≠ x2 → m₁ z = m₀ z) : Fr h₀ L h (fun y => if y = x then some v else if y = x2 then m₁ y else m₀ y) :=
  fr_map F fun y => by by_cases q : y = x <;> by_cases q2 : y = x2 <;> simp_all
theorem two_out {h₀ h : Heap} {L : Addr} {m₀ m₁ : PySem.Str → Option Value} (F : Fr h₀ L h m₁) (e : ∀ z, z ≠ x → z ≠ x2 → m₁ z = m₀ z) : Fr h₀ L h (fun y => if y = x then m₁ y else if y = x2 then m₁ y else m₀ y) :=
  fr_map F fun y => by by_cases q : y = x <;> by_cases q2 : y = x2 <;> simp_all
theorem loop_range2 (x2 : PySem.Str) {r : Addr} {a₀ b₀ : Int} {t₀ u₀ v₀ : Tok} {n : Nat} {m₀ : PySem.Str → Option Value} {news : Led} (J : Nat → Led → Prop)
    (hh : A.handled = none) (hr : IsRange s.heap r a₀ b₀ 1 t₀ u₀ v₀) (hsmall : Builtin.Range.small a₀ b₀ 1 = true) (hsz : Builtin.Range.rangeSize a₀ b₀ 1 = (n : Int)) (F : Fr h₀ env.locals s.heap m₀) (N : News h₀ env.locals s.heap news) (hj : J 0 news)
    (turn : ∀ (u : PySem.Str → Option Value) i t nx h tk own, i < n → OwnOff own (nx.map (·.1)) → J i nx → Fr h₀ env.locals h (fun y => if y = x then some (.int (a₀ + (i : Int)) t) else if y = x2 then u y else m₀ y) → News h₀ env.locals h (nx ++ own) →
      wpAny (model prog w) A (execs body env) (InvPostG h₀ env.locals (Two x x2 m₀ (J (i + 1))) own { s with heap := h, toks := tk } Q) E { s with heap := h, toks := tk })
    (done : ∀ (u : PySem.Str → Option Value) nx h tk, J n nx → Fr h₀ env.locals h (fun y => if y = x then u y else if y = x2 then u y else m₀ y) → News h₀ env.locals h nx → Q .next { s with heap := h, toks := tk }) :
    wpAny (model prog w) A (pyIter (.ref r)) (fun it s₂ => LoopAtV prog w A h₀ env x body Q E it s₂) E s :=
  loop_range (fun i m nx => Two x x2 m₀ (J i) m nx) hh hr hsmall hsz F N ⟨fun _ _ _ => rfl, hj⟩ (fun i t m₁ nx h tk own hi hoff hJ F₁ N₁ => turn m₁ i t nx h tk own hi hoff hJ.2 (two_fr F₁ hJ.1) N₁) fun m₁ nx h tk hJ F₁ N₁ => done m₁ nx h tk hJ.2 (two_out F₁ hJ.1) N₁
theorem item_mem {value slice : PySem.Expr} {l : Addr} {vs : List Value} {k : Int} {u : Tok} {Q : Value → Shared → Prop}
    (hl : s.heap.IsList l vs.toArray) (h0 : 0 ≤ k) (h1 : k < vs.length) (hb : vs.length ≤ 1000)
    (hs : subscripted slice false (.ref l) (.int k u) = operate [.ref l, .int k u] (getItem (.ref l) (.int k u))) (h : ∀ v, v ∈ vs → Q v s) :
    wpAny (model prog w) A (subscriptTail value slice (.ref l) (.int k u)) Q E s := by
  have hlt : k.toNat < vs.length := by omega
  exact item_at hl h0 (by omega) (List.getElem?_eq_getElem hlt) hs (h _ (List.getElem_mem hlt))
end
end
example : True := by w_top off; trivial
section
open PyProof.V PySem.Spec PySem.Calls
set_option hygiene false
local macro_rules | `(tactic| walk_at "subscriptTail Name BinOp ref int") => `(tactic| refine hold_out ?_)
set_option hygiene true
/-- an element of the law: its kind and its name -/
noncomputable abbrev elD (e : Kd × List Nat) : Dat := .tuple [.str (kindS e.1), .str (tx e.2)]
noncomputable def ElJ (rest : Led) (e : Nat) (i : Nat) (nx : Led) : Prop :=
  ∃ (evs : List Value) (n : Nat) (ex : Led) (els : List (Kd × List Nat)), els.length = i ∧ (∀ e ∈ els, ElOk e) ∧ (∀ p ∈ ex, @LT.lt Nat _ e p.1) ∧ DatAll ex evs (els.map elD) ∧ nx = (e, listOf evs.toArray n) :: (ex ++ rest)
theorem news_el {h₀ h : Heap} {L : Addr} {x1 x2 x3 q : Addr × Obj} {ex rest own : Led} (N : News h₀ L h (x1 :: x2 :: x3 :: q :: (ex ++ (rest ++ own)))) : News h₀ L h ((q :: ((x1 :: x2 :: x3 :: ex) ++ rest)) ++ own) := by
  intro p hp
  apply N
  simp only [List.mem_cons, List.mem_append, List.cons_append, or_assoc] at hp ⊢
  rcases hp with h | h | h | h | h | h | h <;> simp [h]
theorem kind_of {v : Value} {t1 t2 : Tok} (h : v ∈ [Value.str (Str.ofString "RCDATA") t1, Value.str (Str.ofString "RAWTEXT") t2]) : ∃ kd tk, v = .str (kindS kd) tk := by
  simp only [List.mem_cons, List.not_mem_nil, or_false] at h
  rcases h with rfl | rfl
  · exact ⟨.rc, _, rfl⟩
  · exact ⟨.rw, _, rfl⟩
theorem name_of {v : Value} {t1 t2 t3 t4 : Tok} (h : v ∈ [Value.str (Str.ofString "ta") t1, Value.str (Str.ofString "a") t2, Value.str (Str.ofString "t") t3, Value.str (Str.ofString "tta") t4]) : ∃ nm tk, nm ∈ [[116, 97], [97], [116], [116, 116, 97]] ∧ v = .str (tx nm) tk := by
  have e1 : Str.ofString "ta" = tx [116, 97] := by decide +kernel
  have e2 : Str.ofString "a" = tx [97] := by decide +kernel
  have e3 : Str.ofString "t" = tx [116] := by decide +kernel
  have e4 : Str.ofString "tta" = tx [116, 116, 97] := by decide +kernel
  rw [e1, e2, e3, e4] at h
  simp only [List.mem_cons, List.not_mem_nil, or_false] at h
  rcases h with rfl | rfl | rfl | rfl
  · exact ⟨_, _, by simp, rfl⟩
  · exact ⟨_, _, by simp, rfl⟩
  · exact ⟨_, _, by simp, rfl⟩
  · exact ⟨_, _, by simp, rfl⟩
theorem elJ0 (rest : Led) (e : Nat) : ElJ rest e 0 ((e, listOf #[] 0) :: rest) := ⟨[], 0, [], [], rfl, (fun _ h => nomatch h), (fun _ h => nomatch h), .nil, rfl⟩
section
variable (w : World) (l : Addr) (vs : List Value) (ns : List Int) (rest : Led)
theorem elements_spec (hI : IntsAre vs ns) (hn : ns.length ≤ 63) : SpecL w l vs 482 [.ref l] 20 40 rest (fun v nx => ∃ (e n : Nat) (evs : List Value) (ex : Led) (els : List (Kd × List Nat)), v = .ref e ∧ els.length = 4 ∧ (∀ x ∈ els, ElOk x) ∧ (∀ p ∈ (e, listOf evs.toArray n) :: ex, ∀ y ∈ rest, @LT.lt Nat _ y.1 p.1) ∧ DatAll ex evs (els.map elD) ∧ nx = (e, listOf evs.toArray n) :: (ex ++ rest)) := by
  have hlen : vs.length = ns.length := hI.length
  have C : True := trivial
  (k_dflt (refine' specL_def ?ho ?hcd ?hb ?hs ?_; (case ho => k_is); (case hcd => k_is); (case hb => exact fun _ => BindsTo.of_eq rfl); (case hs => exact rfl); k_whole); intro meanZ9 mgZ9 mbZ9 AZ9 A₀Z9 outerZ9 baseZ9 gZ9 LZ9 sZ9 qZ9 F'Z9 N'Z9 hl0Z9 B'Z9 X'Z9 T'Z9 hhZ9 hAZ9 hdZ9 huZ9 hretZ9; (try dsimp only); (try simp only [List.cons_append, List.nil_append, List.append_assoc] at N'Z9); (have hl1 := isList_in F'Z9 hl0Z9))
  (k_steps; repeat' ((refine hold_in ?_); (first | ((with_reducible show wpAny _ _ (subscriptTail _ (Expr.BinOp _ _ _ _) _ _) _ _ _); ((k_dflt (refine' item_mem (by exact News.isList (by k_asm) (by k_dflt k_mem)) (by exact Int.fmod_nonneg_of_pos _ (by decide)) (by exact Int.lt_of_lt_of_le (Int.fmod_lt_of_pos _ (by decide)) (by simp)) (by simp) (by with_unfolding_all rfl) ?_); intro _ _)))); k_steps))
  refine hold_in ?_
  (with_reducible rename Fr _ _ _ _ => F9)
  (with_reducible rename News _ _ _ _ => N9)
  (with_reducible rename IsRange _ _ _ _ _ _ _ _ => R9)
  (with_reducible rename (∀ (p : Addr × Obj), p ∈ rest → p.fst < _) => lr)
  refine loop_range2 (n := 4) (Str.ofString "digit") (ElJ rest _) (by assumption) R9 (by decide) (by decide) F9 N9 (elJ0 rest _) ?_ ?_
  · rintro u i ti nx h tk own hi hoff ⟨evs, n, ex, els, hel, hok, hex, hdat, rfl⟩ F8 N8
    clear F9 N9 R9
    simp only [List.cons_append, List.nil_append, List.append_assoc] at N8
    have q1 : ∀ p ∈ ex, p.1 ≠ _ := fun p hp => Nat.ne_of_gt (hex p hp)
    have q2 : ∀ p ∈ rest, p.1 ≠ _ := fun p hp => Nat.ne_of_lt (lr p hp)
    have q3 : ∀ p ∈ own, p.1 ≠ _ := hoff.ne (.head _)
    have q5 : evs.length ≤ 200 := by have := hdat.length; rw [List.length_map] at this; omega
    replace C := fun z rr => digit_spec w l vs ns rr hI hn i (0 + (i : Int)) (by omega) z (by omega)
    (k_steps; repeat' ((refine hold_in ?_); (first | ((with_reducible show wpAny _ _ (subscriptTail _ (Expr.BinOp _ _ _ _) _ _) _ _ _); ((k_dflt (refine' item_mem (by exact News.isList (by k_asm) (by k_dflt k_mem)) (by exact Int.fmod_nonneg_of_pos _ (by decide)) (by exact Int.lt_of_lt_of_le (Int.fmod_lt_of_pos _ (by decide)) (by simp)) (by simp) (by with_unfolding_all rfl) ?_); intro _ _)))); k_steps))
    refine hold_in ?_
    (k_dflt (refine' specL_use ?S ?B ?F ?X ?N ?hl ?T ?hh ?hA ?hf ?hk ?hd ?hu ?_; (case N => first | k_asm | exact news_tail (by k_asm) | exact news_tail (news_tail (by k_asm))); (case S => first | assumption | ((with_reducible rename (∀ (_ : Tok) (_ : Led), SpecL _ _ _ _ _ _ _ _ _) => C9); exact C9 _ _)); (case hA => first | with_reducible assumption | exact rfl); (case hf => exact rfl); (case F => k_asm); (case B => k_asm); (case X => k_asm); (case hl => assumption); (case T => k_asm); (case hh => first | with_reducible assumption | exact rfl); (case hk => exact rfl); (case hd => ktr_room); (case hu => ktr_units)))
    rintro v9 n9 h9 tk9 ⟨⟨d, dt, rfl⟩, rfl⟩ F9 N9
    k_sweep
    (k_steps; repeat' ((refine hold_in ?_); (first | ((with_reducible show wpAny _ _ (subscriptTail _ (Expr.BinOp _ _ _ _) _ _) _ _ _); ((k_dflt (refine' item_mem (by exact News.isList (by k_asm) (by k_dflt k_mem)) (by exact Int.fmod_nonneg_of_pos _ (by decide)) (by exact Int.lt_of_lt_of_le (Int.fmod_lt_of_pos _ (by decide)) (by simp)) (by simp) (by with_unfolding_all rfl) ?_); intro _ _)))); k_steps))
    (with_reducible rename Fr _ _ _ _ => F7)
    (with_reducible rename News _ _ _ _ => N7)
    (with_reducible rename (_ ∧ AllLt _ _) => l1)
    (with_reducible rename (_ ∧ _ ∧ AllLt _ _) => l2)
    (with_reducible rename (_ ∧ _ ∧ _ ∧ AllLt _ _) => l3)
    (with_reducible rename (_ ∈ [_, _]) => m1)
    (with_reducible rename (_ ∈ [_, _, _, _]) => m2)
    obtain ⟨kd, tk1, rfl⟩ := kind_of m1
    obtain ⟨nm, tk2, hnm, rfl⟩ := name_of m2
    have a1 := List.forall_mem_append.mp (allLt_lt l1.2)
    have a2 := List.forall_mem_append.mp (allLt_lt l2.2.2)
    have a3 := List.forall_mem_append.mp (allLt_lt l3.2.2.2)
    have b1 := List.forall_mem_append.mp a1.2
    have b2 := List.forall_mem_append.mp a2.2
    have b3 := List.forall_mem_append.mp a3.2
    refine inv_end (nx := (_, listOf (evs ++ [Value.ref _]).toArray (n + 1)) :: (((_, tup [.str (kindS kd) tk1, .str (tx nm) tk2]) :: (_, _) :: (_, _) :: ex) ++ rest)) F7 (news_el N7)
      ⟨fun z h1 h2 => (if_neg h2).trans ((if_neg h1).trans (if_neg h2)), evs ++ [Value.ref _], n + 1, (_, tup [.str (kindS kd) tk1, .str (tx nm) tk2]) :: (_, _) :: (_, _) :: ex, els ++ [(kd, nm)], by simp [hel], ?_, ?_, ?_, rfl⟩
      (off_new (A := [_]) (off_new (A := [_]) (off_new (A := [_]) hoff fun p hp => Nat.ne_of_lt (b1.2 p hp)) fun p hp => Nat.ne_of_lt (b2.2 p hp)) fun p hp => Nat.ne_of_lt (b3.2 p hp))
    · intro e he
      rcases List.mem_append.mp he with he | he
      · exact hok e he
      · rw [List.mem_singleton.mp he]; exact hnm
    · intro p hp
      simp only [List.mem_cons] at hp
      rcases hp with rfl | rfl | rfl | hp
      · exact l3.2.2.1
      · exact l2.2.1
      · exact l1.1
      · exact hex p hp
    · rw [List.map_append]
      exact (DatAll.mono (fun p hp => .tail _ (.tail _ (.tail _ hp))) hdat).append (.one (.tuple (n := 0) (.head _) (.cons (.str _ _) (.cons (.str _ _) .nil))))
  · rintro u nx h tk ⟨evs, n, ex, els, hel, hok, hex, hdat, rfl⟩ F8 N8
    clear F9 N9 R9
    (k_steps; repeat' ((refine hold_in ?_); (first | ((with_reducible show wpAny _ _ (subscriptTail _ (Expr.BinOp _ _ _ _) _ _) _ _ _); ((k_dflt (refine' item_mem (by exact News.isList (by k_asm) (by k_dflt k_mem)) (by exact Int.fmod_nonneg_of_pos _ (by decide)) (by exact Int.lt_of_lt_of_le (Int.fmod_lt_of_pos _ (by decide)) (by simp)) (by simp) (by with_unfolding_all rfl) ?_); intro _ _)))); k_steps))
    ((with_reducible rename RetE _ _ _ _ => hret9); (first | refine fin_ret hret9 (by assumption) (by assumption) rfl ?_ | refine fin_next hret9 (by assumption) (by assumption) rfl ?_))
    refine ⟨_, n, evs, ex, els, rfl, hel, hok, ?_, hdat, rfl⟩
    intro p hp y hy
    rcases List.mem_cons.mp hp with rfl | hp
    · exact lr y hy
    · exact Nat.lt_trans (lr y hy) (hex p hp)
end
end
example : True := by w_top off; trivial
section
open PyProof.V PySem.Spec PySem.Calls
set_option hygiene false
local macro_rules | `(tactic| walk_at "binaryOp Add str str") => `(tactic| refine hold_out ?_)
set_option hygiene true
noncomputable def No13 (x : PySem.Str) : Prop := ∀ c ∈ x.cps.toList, c ≠ 13 ∧ c < 1114112
theorem no13_nil : No13 (Str.ofString "") := by
  have : (Str.ofString "").cps.toList = [] := by decide +kernel
  unfold No13
  rw [this]; intro c hc; cases hc
theorem no13_nl : No13 (Str.ofString "\n") := by
  have : (Str.ofString "\n").cps.toList = [10] := by decide +kernel
  unfold No13
  rw [this]; intro c hc; rw [List.mem_singleton.mp hc]; exact ⟨by decide, by decide⟩
theorem no13_sg {n : Nat} (h : n ≠ 13 ∧ n < 1114112) : No13 (sg n) := by
  intro c hc
  rw [List.mem_singleton.mp hc]; exact h
theorem no13_app {x y : PySem.Str} (h1 : No13 x) (h2 : No13 y) : No13 (x ++ y) := by
  intro c hc
  have : (x ++ y).cps.toList = x.cps.toList ++ y.cps.toList := by rw [PySem.Str.cps_append, Array.toList_append]
  rw [this] at hc
  rcases List.mem_append.mp hc with h | h
  · exact h1 c h
  · exact h2 c h
theorem no13_nat {e : Int} (h : e ≠ 13) (h0 : 0 ≤ e) (h1 : e < 1114112) : e.toNat ≠ 13 ∧ e.toNat < 1114112 := by omega
theorem slice_take (x : PySem.Str) (b : Nat) : Txt.slice x none (some (b : Int)) = tx (x.cps.toList.take b) := by
  show StrLaws.sliceText x none (some (b : Int)) = _
  by_cases h : b ≤ x.length
  · have e := StrLaws.sliceText_nat x (a := 0) (b := b) (Nat.zero_le _) h
    rw [List.drop_zero, Nat.sub_zero] at e
    unfold StrLaws.sliceText at e ⊢
    rw [StrLaws.sliceIdx_none_lo]
    exact e
  · have h2 : (x.length : Int) ≤ (b : Int) := by omega
    have e := StrLaws.sliceText_nat x (a := 0) (b := x.length) (Nat.zero_le _) (Nat.le_refl _)
    rw [List.drop_zero, Nat.sub_zero] at e
    unfold StrLaws.sliceText at e ⊢
    rw [sliceIdx_hi_beyond _ h2, StrLaws.sliceIdx_none_lo]
    refine e.trans ?_
    have h3 : x.cps.toList.length = x.length := by simp [Str.length]
    rw [List.take_of_length_le (by omega), List.take_of_length_le (by omega)]
noncomputable def PieceV (v : Value) : Prop := ∃ x t, v = .str x t ∧ x.length ≤ 7 ∧ No13 x
theorem piece_lit (x : String) (t : Tok) (h : (Nat.ble (Str.ofString x).length 7 && (Str.ofString x).cps.toList.all fun c => !Nat.beq c 13 && Nat.ble c 1114111) = true) : PieceV (.str (Str.ofString x) t) := by
  obtain ⟨h1, h2⟩ := Bool.and_eq_true_iff.mp h
  refine ⟨_, _, rfl, Nat.le_of_ble_eq_true h1, fun c hc => ?_⟩
  obtain ⟨q1, q2⟩ := Bool.and_eq_true_iff.mp (List.all_eq_true.mp h2 c hc)
  exact ⟨fun e => by rw [e] at q1; exact absurd q1 (by decide), Nat.lt_succ_of_le (Nat.le_of_ble_eq_true q2)⟩
noncomputable def IntV (v : Value) : Prop := ∃ j t, v = .int j t
section
variable {prog : Program} {w : World} {A : Around} {E : Value → Shared → Prop} {s : Shared} {env : PySem.Env} {h₀ : Heap} {x x2 x3 x4 : PySem.Str} {body : List Stmt} {Q : Flow → Shared → Prop}
/-- a loop that grows a text -/
noncomputable def Txt (x x2 x3 x4 : PySem.Str) (m₀ : PySem.Str → Option Value) (J : PySem.Str → Led → Prop) (m : PySem.Str → Option Value) (nx : Led) : Prop :=
  (∀ z, z ≠ x → z ≠ x2 → z ≠ x3 → z ≠ x4 → m z = m₀ z) ∧ ∃ z tz, m x2 = some (.str z tz) ∧ J z nx
theorem txt_fr {h : Heap} {L : Addr} {m₀ m₁ : PySem.Str → Option Value} {v v2 : Value} (F : Fr h₀ L h (fun y => if y = x then some v else m₁ y)) (e : ∀ z, z ≠ x → z ≠ x2 → z ≠ x3 → z ≠ x4 → m₁ z = m₀ z) (e2 : m₁ x2 = some v2) (hne : x2 ≠ x) :
    Fr h₀ L h (fun y => if y = x then some v else if y = x2 then some v2 else if y = x3 then m₁ y else if y = x4 then m₁ y else m₀ y) :=
  fr_map F fun y => by by_cases q : y = x <;> by_cases q2 : y = x2 <;> by_cases q3 : y = x3 <;> by_cases q4 : y = x4 <;> simp_all
theorem txt_out {h : Heap} {L : Addr} {m₀ m₁ : PySem.Str → Option Value} {v2 : Value} (F : Fr h₀ L h m₁) (e : ∀ z, z ≠ x → z ≠ x2 → z ≠ x3 → z ≠ x4 → m₁ z = m₀ z) (e2 : m₁ x2 = some v2) (hne : x2 ≠ x) :
    Fr h₀ L h (fun y => if y = x then m₁ y else if y = x2 then some v2 else if y = x3 then m₁ y else if y = x4 then m₁ y else m₀ y) :=
  fr_map F fun y => by by_cases q : y = x <;> by_cases q2 : y = x2 <;> by_cases q3 : y = x3 <;> by_cases q4 : y = x4 <;> simp_all
theorem loop_rangeT (x2 x3 x4 : PySem.Str) (hne : x2 ≠ x) {r : Addr} {a₀ b₀ : Int} {t₀ u₀ v₀ : Tok} {n : Nat} {m₀ : PySem.Str → Option Value} {news : Led} {z₀ : PySem.Str} {tz₀ : Tok} (J : Nat → PySem.Str → Led → Prop)
    (hh : A.handled = none) (hr : IsRange s.heap r a₀ b₀ 1 t₀ u₀ v₀) (hsmall : Builtin.Range.small a₀ b₀ 1 = true) (hsz : Builtin.Range.rangeSize a₀ b₀ 1 = (n : Int)) (F : Fr h₀ env.locals s.heap m₀) (hm : m₀ x2 = some (.str z₀ tz₀)) (N : News h₀ env.locals s.heap news) (hj : J 0 z₀ news)
    (turn : ∀ (u : PySem.Str → Option Value) z tz i t nx h tk own, i < n → OwnOff own (nx.map (·.1)) → J i z nx → Fr h₀ env.locals h (fun y => if y = x then some (.int (a₀ + (i : Int)) t) else if y = x2 then some (.str z tz) else if y = x3 then u y else if y = x4 then u y else m₀ y) → News h₀ env.locals h (nx ++ own) →
      wpAny (model prog w) A (execs body env) (InvPostG h₀ env.locals (Txt x x2 x3 x4 m₀ (J (i + 1))) own { s with heap := h, toks := tk } Q) E { s with heap := h, toks := tk })
    (done : ∀ (u : PySem.Str → Option Value) z tz nx h tk, J n z nx → Fr h₀ env.locals h (fun y => if y = x then u y else if y = x2 then some (.str z tz) else if y = x3 then u y else if y = x4 then u y else m₀ y) → News h₀ env.locals h nx → Q .next { s with heap := h, toks := tk }) :
    wpAny (model prog w) A (pyIter (.ref r)) (fun it s₂ => LoopAtV prog w A h₀ env x body Q E it s₂) E s :=
  loop_range (fun i m nx => Txt x x2 x3 x4 m₀ (J i) m nx) hh hr hsmall hsz F N ⟨fun _ _ _ _ _ => rfl, z₀, tz₀, hm, hj⟩
    (fun i t m₁ nx h tk own hi hoff hJ F₁ N₁ => by
      obtain ⟨e, z, tz, e2, hJ⟩ := hJ
      exact turn m₁ z tz i t nx h tk own hi hoff hJ (txt_fr F₁ e e2 hne) N₁)
    fun m₁ nx h tk hJ F₁ N₁ => by
      obtain ⟨e, z, tz, e2, hJ⟩ := hJ
      exact done m₁ z tz nx h tk hJ (txt_out F₁ e e2 hne) N₁
theorem item_int {value slice : PySem.Expr} {l : Addr} {vs : List Value} {k : Int} {u : Tok} {Q : Value → Shared → Prop}
    (hl : s.heap.IsList l vs.toArray) (hv : ∀ v ∈ vs, IntV v) (h0 : 0 ≤ k) (h1 : k < vs.length) (hb : vs.length ≤ 1000)
    (hs : subscripted slice false (.ref l) (.int k u) = operate [.ref l, .int k u] (getItem (.ref l) (.int k u))) (h : ∀ j t, Q (.int j t) s) :
    wpAny (model prog w) A (subscriptTail value slice (.ref l) (.int k u)) Q E s := by
  refine item_mem hl h0 h1 hb hs fun v hm => ?_
  obtain ⟨j, t, rfl⟩ := hv v hm
  exact h j t
theorem item_piece {value slice : PySem.Expr} {l : Addr} {vs : List Value} {k : Int} {u : Tok} {Q : Value → Shared → Prop}
    (hl : s.heap.IsList l vs.toArray) (hv : ∀ v ∈ vs, PieceV v) (h0 : 0 ≤ k) (h1 : k < vs.length) (hb : vs.length ≤ 1000)
    (hs : subscripted slice false (.ref l) (.int k u) = operate [.ref l, .int k u] (getItem (.ref l) (.int k u))) (h : ∀ x t, x.length ≤ 1000 → x.length ≤ 7 → No13 x → Q (.str x t) s) :
    wpAny (model prog w) A (subscriptTail value slice (.ref l) (.int k u)) Q E s := by
  refine item_mem hl h0 h1 hb hs fun v hm => ?_
  obtain ⟨x, t, rfl, h2, h3⟩ := hv v hm
  exact h x t (by omega) h2 h3
end
noncomputable def GrowJ (led : Led) (i : Nat) (z : PySem.Str) (nx : Led) : Prop := z.length ≤ 7 * i ∧ No13 z ∧ nx = led
set_option hygiene false
local macro_rules | `(tactic| walk_at "subscriptTail Name Name ref int") => `(tactic| refine hold_out ?_)
local macro_rules | `(tactic| walk_at "subscriptTail Name BinOp ref int") => `(tactic| refine hold_out ?_)
set_option hygiene true
section
variable (w : World) (l : Addr) (vs : List Value) (ns : List Int) (rest : Led)
theorem text_spec (hI : IntsAre vs ns) (hn : ns.length ≤ 63) : SpecL w l vs 489 [.ref l] 20 40 rest (fun v nx => ∃ (cs : List Nat) (tk : Tok), v = .str (tx cs) tk ∧ cs.length ≤ 32 ∧ (∀ c ∈ cs, c ≠ 13 ∧ c < 1114112) ∧ nx = rest) := by
  have hlen : vs.length = ns.length := hI.length
  have C : True := trivial
  (k_dflt (refine' specL_def ?ho ?hcd ?hb ?hs ?_; (case ho => k_is); (case hcd => k_is); (case hb => exact fun _ => BindsTo.of_eq rfl); (case hs => exact rfl); k_whole); intro meanZ9 mgZ9 mbZ9 AZ9 A₀Z9 outerZ9 baseZ9 gZ9 LZ9 sZ9 qZ9 F'Z9 N'Z9 hl0Z9 B'Z9 X'Z9 T'Z9 hhZ9 hAZ9 hdZ9 huZ9 hretZ9; (try dsimp only); (try simp only [List.cons_append, List.nil_append, List.append_assoc] at N'Z9); (have hl1 := isList_in F'Z9 hl0Z9))
  (k_steps; repeat' ((refine hold_in ?_); (first | ((with_reducible show wpAny _ _ (binaryOp _ _ _) _ _ _); (((with_reducible refine' PyProof.Rows.add_str ?_ (add_fit (by with_reducible assumption) (by first | with_reducible assumption | with_reducible exact sg_fit _))); intro _ _))) | ((with_reducible show wpAny _ _ (subscriptTail _ (Expr.Name _ _) _ _) _ _ _); ((k_dflt (refine' item_int (by exact News.isList (by k_asm) (by k_dflt k_mem)) (by with_reducible assumption) (by omega) (by omega) (by omega) (by with_unfolding_all rfl) ?_); intro _ _))) | ((with_reducible show wpAny _ _ (subscriptTail _ (Expr.BinOp _ _ _ _) _ _) _ _ _); ((k_dflt (refine' item_piece (by exact News.isList (by k_asm) (by k_dflt k_mem)) (by with_reducible assumption) (by exact Int.fmod_nonneg_of_pos _ (by decide)) (by omega) (by omega) (by with_unfolding_all rfl) ?_); intro _ _ _ _ _)))); k_steps))
  refine hold_in ?_
  (with_reducible rename Fr _ _ _ _ => F9)
  (with_reducible rename News _ _ _ _ => N8)
  (with_reducible rename IsRange _ _ _ _ _ _ _ _ => R9)
  obtain ⟨fl, pl, nf, np, x3, x4, hfl, hfn, hpl, hpn, N9⟩ : ∃ (fl pl : List Value) (nf np : Nat) (x3 x4 : Addr × Obj), (∀ v ∈ fl, IntV v) ∧ fl.length = 16 ∧ (∀ v ∈ pl, PieceV v) ∧ pl.length = 23 ∧ News _ _ _ ((_, listOf fl.toArray nf) :: (_, listOf pl.toArray np) :: x3 :: x4 :: rest) := by
    refine ⟨_, _, _, _, _, _, ?_, ?_, ?_, ?_, N8⟩
    · simp only [List.forall_mem_cons]
      exact ⟨⟨_, _, rfl⟩, ⟨_, _, rfl⟩, ⟨_, _, rfl⟩, ⟨_, _, rfl⟩, ⟨_, _, rfl⟩, ⟨_, _, rfl⟩, ⟨_, _, rfl⟩, ⟨_, _, rfl⟩, ⟨_, _, rfl⟩, ⟨_, _, rfl⟩, ⟨_, _, rfl⟩, ⟨_, _, rfl⟩, ⟨_, _, rfl⟩, ⟨_, _, rfl⟩, ⟨_, _, rfl⟩, ⟨_, _, rfl⟩, List.forall_mem_nil _⟩
    · rfl
    · simp only [List.forall_mem_cons]
      refine ⟨?_, ?_, ?_, ?_, ?_, ?_, ?_, ?_, ?_, ?_, ?_, ?_, ?_, ?_, ?_, ?_, ?_, ?_, ?_, ?_, ?_, ?_, ?_, List.forall_mem_nil _⟩
      all_goals exact piece_lit _ _ (by decide +kernel)
    · rfl
  clear N8
  refine loop_rangeT (n := 16) (z₀ := Str.ofString "") (Str.ofString "text") (Str.ofString "digit") (Str.ofString "point") (by decide +kernel) (GrowJ _) (by assumption) R9 (by decide) (by decide) F9 rfl N9 ⟨by decide, no13_nil, rfl⟩ ?_ ?_
  · rintro u z tz i ti nx h tk own hi hoff ⟨hz, hz13, rfl⟩ F8 N8
    clear F9 N9 R9
    have hzl : z.length ≤ 1000 := by omega
    replace C := fun z rr => digit_spec w l vs ns rr hI hn (i + 4) (0 + (i : Int) + 4) (by omega) z (by omega)
    (k_steps; repeat' ((refine hold_in ?_); (first | ((with_reducible show wpAny _ _ (binaryOp _ _ _) _ _ _); (((with_reducible refine' PyProof.Rows.add_str ?_ (add_fit (by with_reducible assumption) (by first | with_reducible assumption | with_reducible exact sg_fit _))); intro _ _))) | ((with_reducible show wpAny _ _ (subscriptTail _ (Expr.Name _ _) _ _) _ _ _); ((k_dflt (refine' item_int (by exact News.isList (by k_asm) (by k_dflt k_mem)) (by with_reducible assumption) (by omega) (by omega) (by omega) (by with_unfolding_all rfl) ?_); intro _ _))) | ((with_reducible show wpAny _ _ (subscriptTail _ (Expr.BinOp _ _ _ _) _ _) _ _ _); ((k_dflt (refine' item_piece (by exact News.isList (by k_asm) (by k_dflt k_mem)) (by with_reducible assumption) (by exact Int.fmod_nonneg_of_pos _ (by decide)) (by omega) (by omega) (by with_unfolding_all rfl) ?_); intro _ _ _ _ _)))); k_steps))
    refine hold_in ?_
    (k_dflt (refine' specL_use ?S ?B ?F ?X ?N ?hl ?T ?hh ?hA ?hf ?hk ?hd ?hu ?_; (case N => first | k_asm | exact news_tail (by k_asm) | exact news_tail (news_tail (by k_asm))); (case S => first | assumption | ((with_reducible rename (∀ (_ : Tok) (_ : Led), SpecL _ _ _ _ _ _ _ _ _) => C9); exact C9 _ _)); (case hA => first | with_reducible assumption | exact rfl); (case hf => exact rfl); (case F => k_asm); (case B => k_asm); (case X => k_asm); (case hl => assumption); (case T => k_asm); (case hh => first | with_reducible assumption | exact rfl); (case hk => exact rfl); (case hd => ktr_room); (case hu => ktr_units)))
    rintro v9 n9 h9 tk9 ⟨⟨d, dt, rfl⟩, rfl⟩ F9 N9
    k_sweep
    (k_steps; repeat' ((refine hold_in ?_); (first | ((with_reducible show wpAny _ _ (binaryOp _ _ _) _ _ _); (((with_reducible refine' PyProof.Rows.add_str ?_ (add_fit (by with_reducible assumption) (by first | with_reducible assumption | with_reducible exact sg_fit _))); intro _ _))) | ((with_reducible show wpAny _ _ (subscriptTail _ (Expr.Name _ _) _ _) _ _ _); ((k_dflt (refine' item_int (by exact News.isList (by k_asm) (by k_dflt k_mem)) (by with_reducible assumption) (by omega) (by omega) (by omega) (by with_unfolding_all rfl) ?_); intro _ _))) | ((with_reducible show wpAny _ _ (subscriptTail _ (Expr.BinOp _ _ _ _) _ _) _ _ _); ((k_dflt (refine' item_piece (by exact News.isList (by k_asm) (by k_dflt k_mem)) (by with_reducible assumption) (by exact Int.fmod_nonneg_of_pos _ (by decide)) (by omega) (by omega) (by with_unfolding_all rfl) ?_); intro _ _ _ _ _)))); k_steps))
    case' _ => (with_reducible rename Fr _ _ _ _ => F7)
    case' _ => (with_reducible rename News _ _ _ _ => N7)
    · refine inv_end (nx := _ :: _ :: x3 :: x4 :: rest) F7 N7 ⟨fun zz h1 h2 h3 h4 => (by dsimp only [up]; simp only [if_neg h1, if_neg h2, if_neg h3, if_neg h4]), _, _, rfl, ?_, ?_, rfl⟩ hoff
      · rw [PySem.Str.length_append]; omega
      · exact no13_app hz13 (by assumption)
    · (with_reducible rename Fr _ _ _ _ => F7)
      (with_reducible rename News _ _ _ _ => N7)
      refine inv_end (nx := _ :: _ :: x3 :: x4 :: rest) F7 N7 ⟨fun zz h1 h2 h3 h4 => (by dsimp only [up]; simp only [if_neg h1, if_neg h2, if_neg h3, if_neg h4]), _, _, rfl, ?_, ?_, rfl⟩ hoff
      · rw [PySem.Str.length_append]
        show _ + 1 ≤ _
        omega
      · exact no13_app hz13 no13_nl
    · (with_reducible rename Fr _ _ _ _ => F7)
      (with_reducible rename News _ _ _ _ => N7)
      refine inv_end (nx := _ :: _ :: x3 :: x4 :: rest) F7 N7 ⟨fun zz h1 h2 h3 h4 => (by dsimp only [up]; simp only [if_neg h1, if_neg h2, if_neg h3, if_neg h4]), _, _, rfl, ?_, ?_, rfl⟩ hoff
      · rw [PySem.Str.length_append]
        show _ + 1 ≤ _
        omega
      · refine no13_app hz13 (no13_sg (no13_nat (by assumption) (Int.fmod_nonneg_of_pos _ (by decide)) (Int.fmod_lt_of_pos _ (by decide))))
  · rintro u z tz nx h tk ⟨hz, hz13, rfl⟩ F8 N8
    clear F9 N9 R9
    (k_steps; repeat' ((refine hold_in ?_); (first | ((with_reducible show wpAny _ _ (binaryOp _ _ _) _ _ _); (((with_reducible refine' PyProof.Rows.add_str ?_ (add_fit (by with_reducible assumption) (by first | with_reducible assumption | with_reducible exact sg_fit _))); intro _ _))) | ((with_reducible show wpAny _ _ (subscriptTail _ (Expr.Name _ _) _ _) _ _ _); ((k_dflt (refine' item_int (by exact News.isList (by k_asm) (by k_dflt k_mem)) (by with_reducible assumption) (by omega) (by omega) (by omega) (by with_unfolding_all rfl) ?_); intro _ _))) | ((with_reducible show wpAny _ _ (subscriptTail _ (Expr.BinOp _ _ _ _) _ _) _ _ _); ((k_dflt (refine' item_piece (by exact News.isList (by k_asm) (by k_dflt k_mem)) (by with_reducible assumption) (by exact Int.fmod_nonneg_of_pos _ (by decide)) (by omega) (by omega) (by with_unfolding_all rfl) ?_); intro _ _ _ _ _)))); k_steps))
    (with_reducible rename News _ _ _ _ => N7)
    (with_reducible rename Fr _ _ _ _ => F7)
    (with_reducible rename RetE _ _ _ _ => hret)
    first | refine fin_ret hret F7 (cb_drop N7 (fun p hp => .tail _ (.tail _ (.tail _ (.tail _ hp))))) rfl ?r | refine fin_next hret F7 (cb_drop N7 (fun p hp => .tail _ (.tail _ (.tail _ (.tail _ hp))))) rfl ?r
    refine ⟨_, _, by rw [show (32 : Int) = ((32 : Nat) : Int) from rfl, slice_take], ?_, ?_, rfl⟩
    · rw [List.length_take]; exact Nat.min_le_left _ _
    · exact fun c hc => hz13 c (List.mem_of_mem_take hc)
end
end
example : True := by w_top off; trivial
section
open PyProof.V PySem.Spec PySem.Calls
section
variable {prog : Program} {w : World} {A : Around} {E : Value → Shared → Prop} {s : Shared} {h₀ : Heap} {L d d2 : Addr} {m : PySem.Str → Option Value} {rest : Led} {o o2 : Obj} {kvs more : List (PySem.Str × Value)}
theorem st_update {Q : Value → Shared → Prop} (F : Fr h₀ L s.heap m) (N : News h₀ L s.heap ((d2, o2) :: (d, o) :: rest)) (hd : o.IsDictOf (PySem.strKind prog w) kvs) (hd2 : o2.IsDictOf (PySem.strKind prog w) more)
    (lo2 : (d2 == sysModules) = false) (hne : d ≠ d2) (hr : ∀ p ∈ rest, p.1 < d) (hsz : kvs.length + more.length ≤ sizeLine)
    (h : ∀ h' o', Fr h₀ L h' m → News h₀ L h' ((d2, o2) :: (d, o') :: rest) → o'.IsDictOf (PySem.strKind prog w) (merged kvs more) → Q .none { s with heap := h' }) :
    wpAny (model prog w) A (call (.builtin "dict.update") [.ref d, .ref d2]) Q E s := by
  have hm := N (d, o) (.tail _ (.head _))
  have hD : s.heap.DictOf (PySem.strKind prog w) d kvs := Heap.dictOf_iff.mpr ⟨o, hm.1, hd⟩
  have hD2 : s.heap.DictOf (PySem.strKind prog w) d2 more := Heap.dictOf_iff.mpr ⟨o2, (N (d2, o2) (.head _)).1, hd2⟩
  refine call_meetsIn PySem.F.slot_dict_update hD.typeIs PySem.F.entry_dict_update (PySem.F.args_dict_update_2 _ _) (meets_dict_update (PySem.strKind prog w) d d2 hne lo2)
    ⟨kvs, more, hD, hD2, hsz, fun h' hmm _ hs => ?_⟩
  obtain ⟨o', ho', hd'⟩ := Heap.dictOf_iff.mp hmm
  exact h h' o' (F.change hs hm.2.1 hm.2.2) (News.setIn (own := [(d2, o2)]) N (by intro p hp; rw [List.mem_singleton.mp hp]; exact fun e => hne e.symm) (fun p hp => Nat.ne_of_lt (hr p hp)) hs ho') hd'
end
set_option hygiene false
local macro_rules | `(tactic| walk_at "getMethod ref") => `(tactic| ((with_reducible show wpAny _ _ (getMethod (Value.ref _) (Str.ofString "update") _) _ _ _); refine hold_out ?_))
local macro_rules | `(tactic| walk_at "call builtin:dict.update") => `(tactic| refine hold_out ?_)
set_option hygiene true
section
variable (w : World) (rest : Led)
theorem states_spec : Spec w 517 [] 30 60 rest (fun v n => ∃ (d : Nat) (o : Obj) (kvs : List (PySem.Str × Value)), v = .ref d ∧ (∀ p ∈ rest, @LT.lt Nat _ p.1 d) ∧ (d == sysModules) = false ∧
    o.IsDictOf (PySem.strKind PySem.Challenge.rw_nt0604_01.row.prog w) kvs ∧ (∀ st, valueAt kvs (stS st) = ruleV st) ∧ n = (d, o) :: rest) := by
  (k_dflt (refine' spec_def ?ho ?hcd ?hb ?hs ?_; (case ho => k_is); (case hcd => k_is); (case hb => exact fun _ => BindsTo.of_eq rfl); (case hs => exact rfl); k_whole); intro meanZ9 mgZ9 mbZ9 AZ9 A₀Z9 outerZ9 baseZ9 gZ9 LZ9 sZ9 qZ9 F'Z9 N'Z9 B'Z9 X'Z9 T'Z9 hhZ9 hAZ9 hdZ9 huZ9 hretZ9; (try dsimp only); (try simp only [List.cons_append, List.nil_append, List.append_assoc] at N'Z9))
  (k_steps; repeat' ((refine hold_in ?_); (first | ((with_reducible show wpAny _ _ (getMethod _ _ _) _ _ _); ((k_dflt (refine kob_method (knd := PySem.strKind _ _) PySem.F.slot_dict_update PySem.F.type_dict_update (by k_asm) (by k_mem) (by assumption) ?_)))) | ((with_reducible show wpAny _ _ (call (Value.builtin _) _) _ _ _); ((k_dflt (refine' st_update (by k_asm) (by k_asm) (by assumption) (by assumption) (by assumption) (by k_ne) (by assumption) (by first | kob_size | (rw [sizeLine_eq]; decide)) ?_); intro _ _ _ _ _)))); k_steps))
  (with_reducible rename Obj.IsDictOf _ _ _ => hz)
  (with_reducible rename (∀ (p : Addr × Obj), p ∈ rest → p.fst < _) => lr)
  ((with_reducible rename RetE _ _ _ _ => hret9); (first | refine fin_ret hret9 (by assumption) (news_tail (by assumption)) rfl ?_ | refine fin_next hret9 (by assumption) (news_tail (by assumption)) rfl ?_))
  refine ⟨_, _, _, rfl, lr, by assumption, hz, ?_, rfl⟩
  intro st
  cases st with
  | held k => cases k <;> kernel_rfl
  | lt k => cases k <;> kernel_rfl
  | eto k => cases k <;> kernel_rfl
  | etn k => cases k <;> kernel_rfl
  | _ => kernel_rfl
end
end
example : True := by w_top off; trivial
section
open PyProof.V PySem.Spec PySem.Calls
section
variable (w : World) (rest : Led)
theorem inputerr_spec (n : Nat) (tk : Tok) : Spec w 263 [.int n tk] 20 40 rest (fun v nx => (∃ z tz, v = .str z tz) ∧ nx = rest) := by
  (k_dflt (refine' spec_def ?ho ?hcd ?hb ?hs ?_; (case ho => k_is); (case hcd => k_is); (case hb => exact fun _ => BindsTo.of_eq rfl); (case hs => exact rfl); k_whole); intro meanZ9 mgZ9 mbZ9 AZ9 A₀Z9 outerZ9 baseZ9 gZ9 LZ9 sZ9 qZ9 F'Z9 N'Z9 B'Z9 X'Z9 T'Z9 hhZ9 hAZ9 hdZ9 huZ9 hretZ9; (try dsimp only); (try simp only [List.cons_append, List.nil_append, List.append_assoc] at N'Z9))
  k_steps
  all_goals
    first
    | (((with_reducible rename RetE _ _ _ _ => hret9); (first | refine fin_ret hret9 (by assumption) (by assumption) rfl ?_ | refine fin_next hret9 (by assumption) (by assumption) rfl ?_)); exact ⟨⟨_, _, rfl⟩, rfl⟩)
    | (((with_reducible rename RetE _ _ _ _ => hret9); (first | refine fin_ret hret9 (by assumption) (news_tail (by assumption)) rfl ?_ | refine fin_next hret9 (by assumption) (news_tail (by assumption)) rfl ?_)); exact ⟨⟨_, _, rfl⟩, rfl⟩)
end
section
variable {prog : Program} {w : World} {A : Around} {E : Value → Shared → Prop} {s : Shared} {env : PySem.Env} {h₀ : Heap} {x x2 : PySem.Str} {body : List Stmt} {Q : Flow → Shared → Prop}
noncomputable def Two' (x x2 : PySem.Str) (m₀ : PySem.Str → Option Value) (J : Led → Prop) (m : PySem.Str → Option Value) (nx : Led) : Prop := (∀ z, z ≠ x → z ≠ x2 → m z = m₀ z) ∧ J nx
theorem two_fr' {h₀ h : Heap} {L : Addr} {m₀ m₁ : PySem.Str → Option Value} {v : Value} (F : Fr h₀ L h (fun y => if y = x then some v else m₁ y)) (e : ∀ z, z ≠ x → z ≠ x2 → m₁ z = m₀ z) : Fr h₀ L h (fun y => if y = x then some v else if y = x2 then m₁ y else m₀ y) :=
  fr_map F fun y => by by_cases q : y = x <;> by_cases q2 : y = x2 <;> simp_all
theorem two_out' {h₀ h : Heap} {L : Addr} {m₀ m₁ : PySem.Str → Option Value} (F : Fr h₀ L h m₁) (e : ∀ z, z ≠ x → z ≠ x2 → m₁ z = m₀ z) : Fr h₀ L h (fun y => if y = x then m₁ y else if y = x2 then m₁ y else m₀ y) :=
  fr_map F fun y => by by_cases q : y = x <;> by_cases q2 : y = x2 <;> simp_all
theorem loop_text2 (x2 : PySem.Str) {xt : PySem.Str} {tx : Tok} {m₀ : PySem.Str → Option Value} {news : Led} (J : Nat → Led → Prop)
    (hh : A.handled = none) (F : Fr h₀ env.locals s.heap m₀) (N : News h₀ env.locals s.heap news) (hj : J 0 news)
    (turn : ∀ (u : PySem.Str → Option Value) i n t nx h tk own, xt.cps[i]? = some n → OwnOff own (nx.map (·.1)) → J i nx → Fr h₀ env.locals h (fun y => if y = x then some (.str (sg n) t) else if y = x2 then u y else m₀ y) → News h₀ env.locals h (nx ++ own) →
      wpAny (model prog w) A (execs body env) (InvPostG h₀ env.locals (Two' x x2 m₀ (J (i + 1))) own { s with heap := h, toks := tk } Q) E { s with heap := h, toks := tk })
    (done : ∀ (u : PySem.Str → Option Value) nx h tk, J xt.cps.size nx → Fr h₀ env.locals h (fun y => if y = x then u y else if y = x2 then u y else m₀ y) → News h₀ env.locals h nx → Q .next { s with heap := h, toks := tk }) :
    wpAny (model prog w) A (pyIter (.str xt tx)) (fun it s₂ => LoopAtV prog w A h₀ env x body Q E it s₂) E s :=
  loop_text (fun i m nx => Two' x x2 m₀ (J i) m nx) hh F N ⟨fun _ _ _ => rfl, hj⟩ (fun i n t m₁ nx h tk own hn hoff hJ F₁ N₁ => turn m₁ i n t nx h tk own hn hoff hJ.2 (two_fr' F₁ hJ.1) N₁) fun m₁ nx h tk hJ F₁ N₁ => done m₁ nx h tk hJ.2 (two_out' F₁ hJ.1) N₁
end
/-- the stream and what hangs on it -/
noncomputable abbrev SO (w : World) (k : Nat → Tok) (st sd sg_ se : Nat) (vs : List Value) (sn : Nat) (ev : List Value) (en : Nat) : Led :=
  [(st, instObj 301 sd), (sd, dictOf (stEs w k sg_ false false se) 4), (sg_, listOf vs.toArray sn), (se, listOf ev.toArray en)]
set_option hygiene false
local macro_rules | `(tactic| walk_at "call ref cons nil") => `(tactic| ((with_reducible show wpAny _ _ (call (Value.ref 263) _) _ _ _); refine hold_out ?_))
set_option hygiene true
noncomputable def FeedJ (w : World) (rest : Led) (k : Nat → Tok) (st sd sn se : Nat) (cs : List Nat) (i : Nat) (nx : Led) : Prop :=
  ∃ (vs : List Value) (n : Nat) (ev : List Value) (en : Nat) (ex : Led), vs.length = i ∧ (∀ j c, j < i → cs[j]? = some c → ∃ tk, vs[j]? = some (Value.str (sg c) tk)) ∧ ev.length ≤ i ∧
    (∀ p ∈ ex, ∀ y ∈ SO w k st sd sn se [] 0 [] 0 ++ rest, @LT.lt Nat _ y.1 p.1) ∧ nx = SO w k st sd sn se vs n ev en ++ (ex ++ rest)
theorem feedJ0 (w : World) (rest : Led) (k : Nat → Tok) (st sd sn se : Nat) (cs : List Nat) (n1 n2 : Nat) : FeedJ w rest k st sd sn se cs 0 (SO w k st sd sn se [] n1 [] n2 ++ rest) :=
  ⟨[], n1, [], n2, [], rfl, (fun _ _ h => absurd h (Nat.not_lt_zero _)), Nat.zero_le _, (fun _ h => nomatch h), rfl⟩
theorem feed_one {cs : List Nat} {vs : List Value} {i n : Nat} {t : Tok} (hl : vs.length = i) (h : ∀ j c, j < i → cs[j]? = some c → ∃ tk, vs[j]? = some (Value.str (sg c) tk)) (hn : cs[i]? = some n) :
    ∀ j c, j < i + 1 → cs[j]? = some c → ∃ tk, (vs ++ [Value.str (sg n) t])[j]? = some (Value.str (sg c) tk) := by
  intro j c hj hc
  rcases Nat.lt_succ_iff_lt_or_eq.mp hj with h1 | h1
  · obtain ⟨tk, e⟩ := h j c h1 hc
    exact ⟨tk, by rw [List.getElem?_append_left (by omega)]; exact e⟩
  · subst h1
    rw [hn] at hc
    cases hc
    exact ⟨t, by rw [List.getElem?_append_right (by omega), hl]; simp⟩
theorem news_fd {h₀ h : Heap} {L : Addr} {x a1 a2 a3 a4 : Addr × Obj} {ex rest own : Led} (N : News h₀ L h (x :: a1 :: a2 :: a3 :: a4 :: (ex ++ (rest ++ own)))) : News h₀ L h (([a1, a2, a3, a4] ++ ((x :: ex) ++ rest)) ++ own) := by
  intro p hp
  apply N
  simp only [List.mem_cons, List.mem_append, List.cons_append, List.nil_append, or_assoc] at hp ⊢
  rcases hp with h | h | h | h | h | h | h | h <;> simp [h]
theorem news_fd0 {h₀ h : Heap} {L : Addr} {a1 a2 a3 a4 : Addr × Obj} {ex rest own : Led} (N : News h₀ L h (a1 :: a2 :: a3 :: a4 :: (ex ++ (rest ++ own)))) : News h₀ L h (([a1, a2, a3, a4] ++ (ex ++ rest)) ++ own) := by
  intro p hp
  apply N
  simp only [List.mem_cons, List.mem_append, List.cons_append, List.nil_append, or_assoc] at hp ⊢
  exact hp
section
variable (w : World) (rest : Led)
theorem sfeed_spec (k : Nat → Tok) (st sd sn se : Nat) (cs : List Nat) (ctk : Tok) (n1 n2 : Nat) (o1 : sd < st) (o2 : st < sn) (o3 : sn < se) (hc : cs.length ≤ 40) (h13 : ∀ c ∈ cs, c ≠ 13)
    (Z1 : ∀ p ∈ rest, p.1 ≠ sd) (Z2 : ∀ p ∈ rest, p.1 ≠ sn) (Z3 : ∀ p ∈ rest, p.1 ≠ se) :
    Spec w 284 [.ref st, .str (tx cs) ctk] 40 80 (SO w k st sd sn se [] n1 [] n2 ++ rest) (fun v nx => v = .none ∧ FeedJ w rest k st sd sn se cs cs.length nx) := by
  have C : True := trivial
  (k_dflt (refine' spec_def ?ho ?hcd ?hb ?hs ?_; (case ho => k_is); (case hcd => k_is); (case hb => exact fun _ => BindsTo.of_eq rfl); (case hs => exact rfl); k_whole); intro meanZ9 mgZ9 mbZ9 AZ9 A₀Z9 outerZ9 baseZ9 gZ9 LZ9 sZ9 qZ9 F'Z9 N'Z9 B'Z9 X'Z9 T'Z9 hhZ9 hAZ9 hdZ9 huZ9 hretZ9; (try dsimp only); (try simp only [List.cons_append, List.nil_append, List.append_assoc] at N'Z9))
  k_steps
  refine hold_in ?_
  (with_reducible rename Fr _ _ _ _ => F9)
  (with_reducible rename News _ _ _ _ => N9)
  refine loop_text2 (Str.ofString "code") (FeedJ w rest k st sd sn se cs) (by assumption) F9 N9 (feedJ0 w rest k st sd sn se cs n1 n2) ?_ ?_
  · rintro u i n ti nx h tk own hcn hoff ⟨vs, nn, ev, en, ex, hvl, hvs, hev, hex, rfl⟩ F8 N8
    clear F9 N9
    have hcn' : cs[i]? = some n := by simpa using hcn
    have hi : i < cs.length := (List.getElem?_eq_some_iff.mp hcn').1
    have hn13 : n ≠ 13 := h13 n (List.mem_of_getElem? hcn')
    have b1 : (sg n == Str.ofString "\x0d") = false := sgne 13 (by decide +kernel) hn13
    simp only [List.cons_append, List.nil_append, List.append_assoc] at N8
    have q1 : ∀ p ∈ own, p.1 ≠ sd := hoff.ne (.tail _ (.head _))
    have q2 : ∀ p ∈ own, p.1 ≠ sn := hoff.ne (.tail _ (.tail _ (.head _)))
    have q3 : ∀ p ∈ own, p.1 ≠ se := hoff.ne (.tail _ (.tail _ (.tail _ (.head _))))
    have x1 : ∀ p ∈ ex, p.1 ≠ sd := fun p hp => Nat.ne_of_gt (hex p hp (sd, dictOf (stEs w k sn false false se) 4) (by simp))
    have x2 : ∀ p ∈ ex, p.1 ≠ sn := fun p hp => Nat.ne_of_gt (hex p hp (sn, listOf #[] 0) (by simp))
    have x3 : ∀ p ∈ ex, p.1 ≠ se := fun p hp => Nat.ne_of_gt (hex p hp (se, listOf #[] 0) (by simp))
    have g1 : vs.length ≤ 100 := by omega
    have g2 : ev.length ≤ 100 := by omega
    replace C := fun z rr => inputerr_spec w rr n z
    k_steps
    all_goals
      refine hold_in ?_
      k_dflt (refine' spec_use (inputerr_spec _ _ _ _) ?B ?F ?X ?N ?T ?hh ?hA ?hf ?hk ?hd ?hu ?_)
      case hA => first | with_reducible assumption | exact rfl
      case hh => first | with_reducible assumption | exact rfl
      case hf => exact rfl
      case F => k_asm
      case B => k_asm
      case X => k_asm
      case N => k_asm
      case T => k_asm
      case hk => exact rfl
      case hd => ktr_room
      case hu => ktr_units
      rintro v9 n9 h9 tk9 ⟨⟨z, tz, rfl⟩, rfl⟩ F9 N9
      k_sweep
      k_steps
      · (with_reducible rename Fr _ _ _ _ => F7)
        (with_reducible rename News _ _ _ _ => N7)
        rw [b1] at N7
        (with_reducible rename (_ ∧ _ ∧ _ ∧ _ ∧ AllLt _ _) => l1)
        have l2 := List.forall_mem_append.mp (allLt_lt l1.2.2.2.2)
        have l3 := List.forall_mem_append.mp l2.2
        refine inv_end (nx := SO w k st sd sn se (vs ++ [Value.str (sg n) ti]) (nn + 1) (ev ++ [Value.ref _]) (en + 1) ++ (((_, _) :: ex) ++ rest)) F7 (news_fd N7)
          ⟨fun zz h1 h2 => (if_neg h2).trans ((if_neg h1).trans (if_neg h2)), vs ++ [Value.str (sg n) ti], nn + 1, ev ++ [Value.ref _], en + 1, (_, _) :: ex, by simp [hvl], feed_one hvl hvs hcn', by simp; omega, ?_, rfl⟩
          (off_new (A := [_, _, _, _]) hoff fun p hp => Nat.ne_of_lt (l3.2 p hp))
        intro p hp y hy
        rcases List.mem_cons.mp hp with rfl | hp
        · rcases List.mem_append.mp hy with hy | hy
          · simp only [List.mem_cons, List.not_mem_nil, or_false] at hy
            rcases hy with rfl | rfl | rfl | rfl
            · exact l1.1
            · exact l1.2.1
            · exact l1.2.2.1
            · exact l1.2.2.2.1
          · exact l3.1 y hy
        · exact hex p hp y hy
      · (with_reducible rename Fr _ _ _ _ => F7)
        (with_reducible rename News _ _ _ _ => N7)
        rw [b1] at N7
        refine inv_end (nx := SO w k st sd sn se (vs ++ [Value.str (sg n) ti]) (nn + 1) ev en ++ (ex ++ rest)) F7 (news_fd0 N7)
          ⟨fun zz h1 h2 => (if_neg h2).trans ((if_neg h1).trans (if_neg h2)), vs ++ [Value.str (sg n) ti], nn + 1, ev, en, ex, by simp [hvl], feed_one hvl hvs hcn', by omega, hex, rfl⟩ hoff
  · rintro u nx h tk hJ F8 N8
    clear F9 N9
    have hJ' : FeedJ w rest k st sd sn se cs cs.length nx := by simpa using hJ
    k_steps
    ((with_reducible rename RetE _ _ _ _ => hret9); (first | refine fin_ret hret9 (by assumption) (by assumption) rfl ?_ | refine fin_next hret9 (by assumption) (by assumption) rfl ?_))
    exact ⟨rfl, hJ'⟩
end
end
example : True := by w_top off; trivial
section
open PyProof.V PySem.Spec PySem.Calls
/-- the tokenizer and its stream, before the end -/
noncomputable abbrev MO (w : World) (t : Nat) (R : Raw) (cl : Bool) (ev : List Value) (en : Nat) : Led :=
  [(t, instObj 464 R.td), (R.td, dictOf (tkEs w R.T) 14), (R.T.stream, instObj 301 R.sd), (R.sd, dictOf (stEs w R.k R.signs cl false R.serr) 4),
   (R.signs, listOf R.vs.toArray R.sn), (R.T.out, listOf R.outs.toArray R.on), (R.T.errors, listOf R.ers.toArray R.en), (R.serr, listOf ev.toArray en)]
theorem mo_so {t1 t2 s1 s2 s3 o1 o2 s4 : Addr × Obj} {rest : Led} : ∀ p ∈ [s1, s2, s3, s4] ++ ([t1, t2, o1, o2] ++ rest), p ∈ [t1, t2, s1, s2, s3, o1, o2, s4] ++ rest := by
  intro p hp
  simp only [List.mem_cons, List.mem_append, List.not_mem_nil, or_false, or_assoc] at hp ⊢
  rcases hp with h | h | h | h | h | h | h | h | h <;> simp [h]
theorem so_mo {t1 t2 s1 s2 s3 o1 o2 s4 : Addr × Obj} {ex rest : Led} : ∀ p ∈ [t1, t2, s1, s2, s3, o1, o2, s4] ++ (ex ++ rest), p ∈ [s1, s2, s3, s4] ++ (ex ++ ([t1, t2, o1, o2] ++ rest)) := by
  intro p hp
  simp only [List.mem_cons, List.mem_append, List.not_mem_nil, or_false, or_assoc] at hp ⊢
  rcases hp with h | h | h | h | h | h | h | h | h | h <;> simp [h]
theorem ml_mo {t1 t2 s1 s2 s3 o1 o2 s4 : Addr × Obj} {rest : Led} : ∀ p ∈ [t1, t2, s1, s2, s3, o1, o2] ++ rest, p ∈ t1 :: t2 :: s1 :: s2 :: s3 :: o1 :: o2 :: s4 :: rest := by
  intro p hp
  simp only [List.mem_cons, List.mem_append, List.not_mem_nil, or_false, or_assoc] at hp ⊢
  rcases hp with h | h | h | h | h | h | h | h <;> simp [h]
section
variable (w : World) (t : Nat) (R : Raw) (rest : Led)
theorem tfeed_spec (cs : List Nat) (ctk : Tok) (n2 : Nat) (hv : R.vs = []) (hw : R.T.waiting = false) (O : Ord t R) (s1 : R.signs < R.serr) (s2 : R.serr < R.T.out) (hc : cs.length ≤ 40) (h13 : ∀ c ∈ cs, c ≠ 13)
    (Z1 : ∀ p ∈ rest, p.1 < R.td) :
    Spec w 327 [.ref t, .str (tx cs) ctk] 60 120 (MO w t R false [] n2 ++ rest)
      (fun v nx => v = .none ∧ ∃ vs sn ev en ex, SignsAre vs cs ∧ (∀ p ∈ ex, Fresh R.T.errors rest p.1) ∧ nx = MO w t { R with vs := vs, sn := sn } false ev en ++ (ex ++ rest)) := by
  obtain ⟨o1, o2, o3, o4, o5, o6⟩ := O
  have y1 : ∀ p ∈ rest, p.1 ≠ R.td := fun p hp => Nat.ne_of_lt (Z1 p hp)
  have y2 : ∀ p ∈ rest, p.1 ≠ R.sd := fun p hp => Nat.ne_of_lt (Nat.lt_trans (Z1 p hp) (Nat.lt_trans o1 o2))
  have y3 : ∀ p ∈ rest, p.1 ≠ R.signs := fun p hp => Nat.ne_of_lt (Nat.lt_trans (Z1 p hp) (Nat.lt_trans o1 (Nat.lt_trans o2 (Nat.lt_trans o3 o4))))
  have y4 : ∀ p ∈ rest, p.1 ≠ R.serr := fun p hp => Nat.ne_of_lt (Nat.lt_trans (Z1 p hp) (Nat.lt_trans o1 (Nat.lt_trans o2 (Nat.lt_trans o3 (Nat.lt_trans o4 s1)))))
  have C : ∀ z, Spec w 284 _ 40 80 _ _ := fun z => sfeed_spec w ([(t, instObj 464 R.td), (R.td, dictOf (tkEs w R.T) 14), (R.T.out, listOf R.outs.toArray R.on), (R.T.errors, listOf R.ers.toArray R.en)] ++ rest) R.k R.T.stream R.sd R.signs R.serr cs z R.sn n2 o3 o4 s1 hc h13
    (by simp only [List.cons_append, List.nil_append, List.forall_mem_cons]; exact ⟨Nat.ne_of_lt o2, Nat.ne_of_lt (Nat.lt_trans o1 o2), neN (by (try dsimp only); omega), neN (by (try dsimp only); omega), y2⟩)
    (by simp only [List.cons_append, List.nil_append, List.forall_mem_cons]; exact ⟨neN (by (try dsimp only); omega), neN (by (try dsimp only); omega), neN (by (try dsimp only); omega), neN (by (try dsimp only); omega), y3⟩)
    (by simp only [List.cons_append, List.nil_append, List.forall_mem_cons]; exact ⟨neN (by (try dsimp only); omega), neN (by (try dsimp only); omega), neN (by (try dsimp only); omega), neN (by (try dsimp only); omega), y4⟩)
  obtain ⟨R0, e0⟩ : ∃ R0 : Raw, R = { R0 with T := { R0.T with waiting := false } } := ⟨R, Raw.wEq hw⟩
  subst e0
  dsimp only at hv o1 o2 o3 o4 o5 o6 s1 s2 y1 y2 y3 y4 C
  (k_dflt (refine' spec_def ?ho ?hcd ?hb ?hs ?_; (case ho => k_is); (case hcd => k_is); (case hb => exact fun _ => BindsTo.of_eq rfl); (case hs => exact rfl); k_whole); intro meanZ9 mgZ9 mbZ9 AZ9 A₀Z9 outerZ9 baseZ9 gZ9 LZ9 sZ9 qZ9 F'Z9 N'Z9 B'Z9 X'Z9 T'Z9 hhZ9 hAZ9 hdZ9 huZ9 hretZ9; (try dsimp only); (try simp only [List.cons_append, List.nil_append, List.append_assoc] at N'Z9))
  (with_reducible rename News _ _ _ _ => N8)
  rw [hv] at N8
  replace N8 := cb_drop N8 mo_so
  k_steps
  refine hold_in ?_
  (k_dflt (refine' spec_use ?S ?B ?F ?X ?N ?T ?hh ?hA ?hf ?hk ?hd ?hu ?_; ((case S => first | assumption | ((with_reducible rename (∀ _ : Tok, Spec _ _ _ _ _ _ _) => C9); exact C9 _)); (case hA => first | with_reducible assumption | exact rfl); (case hf => exact rfl); (case F => k_asm); (case B => k_asm); (case X => k_asm); (case N => first | k_asm | exact news_tail (by k_asm) | exact news_tail (news_tail (by k_asm))); (case T => k_asm); (case hh => first | with_reducible assumption | exact rfl); (case hk => exact rfl); (case hd => ktr_room); (case hu => ktr_units))))
  rintro v9 n9 h9 tk9 ⟨rfl, vs, n, ev, en, ex, hl, hvs, hev, hex, rfl⟩ F9 N9
  replace N9 := cb_drop N9 so_mo
  have x1 : ∀ p ∈ ex, p.1 ≠ R0.td := fun p hp => Nat.ne_of_gt (hex p hp _ (List.mem_append.mpr (.inr (.tail _ (.head _)))))
  k_sweep
  k_steps
  ((with_reducible rename RetE _ _ _ _ => hret9); (first | refine fin_ret hret9 (by assumption) (by assumption) rfl ?_ | refine fin_next hret9 (by assumption) (by assumption) rfl ?_))
  refine ⟨rfl, vs, n, ev, en, ex, ⟨hl, fun j c hj => hvs j c (List.getElem?_eq_some_iff.mp hj).1 hj⟩, fun p hp => ⟨?_, fun y hy => ?_⟩, rfl⟩
  · exact hex p hp _ (List.mem_append.mpr (.inr (.tail _ (.tail _ (.tail _ (.head _))))))
  · exact hex p hp y (List.mem_append.mpr (.inr (.tail _ (.tail _ (.tail _ (.tail _ hy))))))
theorem tend_spec (ev : List Value) (en : Nat) (hw : R.T.waiting = false) (O : Ord t R) (s1 : R.signs < R.serr) (s2 : R.serr < R.T.out) (Z1 : ∀ p ∈ rest, p.1 ≠ R.td) (Z2 : ∀ p ∈ rest, p.1 ≠ R.sd) :
    Spec w 334 [.ref t] 30 60 (MO w t R false ev en ++ rest) (fun v nx => v = .none ∧ nx = ML w t R ++ rest) := by
  obtain ⟨o1, o2, o3, o4, o5, o6⟩ := O
  obtain ⟨R0, e0⟩ : ∃ R0 : Raw, R = { R0 with T := { R0.T with waiting := false } } := ⟨R, Raw.wEq hw⟩
  subst e0
  dsimp only at o1 o2 o3 o4 o5 o6 s1 s2 Z1 Z2
  (k_dflt (refine' spec_def ?ho ?hcd ?hb ?hs ?_; (case ho => k_is); (case hcd => k_is); (case hb => exact fun _ => BindsTo.of_eq rfl); (case hs => exact rfl); k_whole); intro meanZ9 mgZ9 mbZ9 AZ9 A₀Z9 outerZ9 baseZ9 gZ9 LZ9 sZ9 qZ9 F'Z9 N'Z9 B'Z9 X'Z9 T'Z9 hhZ9 hAZ9 hdZ9 huZ9 hretZ9; (try dsimp only); (try simp only [List.cons_append, List.nil_append, List.append_assoc] at N'Z9))
  k_steps
  (with_reducible rename News _ _ _ _ => N7)
  (with_reducible rename Fr _ _ _ _ => F7)
  (with_reducible rename RetE _ _ _ _ => hret)
  first | exact fin_ret hret F7 (cb_drop N7 ml_mo) rfl ⟨rfl, rfl⟩ | exact fin_next hret F7 (cb_drop N7 ml_mo) rfl ⟨rfl, rfl⟩
end
end
section
open PySem PySem.W PyProof.Rows PyProof.V PySem.Spec PySem.Calls
section
variable {prog : Program} {w : World} {A : Around} {E : Value → Shared → Prop} {s : Shared} {env : PySem.Env} {h₀ : Heap} {target : PySem.Expr} {body : List Stmt} {Q : Flow → Shared → Prop}
/-- a loop over a list of the ledger that stores two names -/
theorem loop_listT2 (x x2 : PySem.Str) {l : Addr} {vs : List Value} {nn : Nat} {m₀ : PySem.Str → Option Value} {news : Led} (J : Nat → Led → Prop) (JB : Led → Prop)
    (hh : A.handled = none) (hl : (l, listOf vs.toArray nn) ∈ news) (F : Fr h₀ env.locals s.heap m₀) (N : News h₀ env.locals s.heap news) (hj : J 0 news)
    (turn : ∀ (u : PySem.Str → Option Value) i v nx h tk own, vs[i]? = some v → (∀ p ∈ own, p.2.cls = .type "list_iterator") → OwnOff own (nx.map (·.1)) → (l, listOf vs.toArray nn) ∈ nx → J i nx → Fr h₀ env.locals h (fun y => if y = x then u y else if y = x2 then u y else m₀ y) → News h₀ env.locals h (nx ++ own) →
      wpAny (model prog w) A (assign target env v) (fun _ s₃ => wpAny (model prog w) A (execs body env) (InvPostB h₀ env.locals (fun m' nx => (l, listOf vs.toArray nn) ∈ nx ∧ Two x x2 m₀ (J (i + 1)) m' nx) (Two x x2 m₀ JB) own { s with heap := h, toks := tk } Q) E s₃) E { s with heap := h, toks := tk })
    (done : ∀ (u : PySem.Str → Option Value) nx h tk, (J vs.length nx ∨ JB nx) → Fr h₀ env.locals h (fun y => if y = x then u y else if y = x2 then u y else m₀ y) → News h₀ env.locals h nx → Q .next { s with heap := h, toks := tk }) :
    wpAny (model prog w) A (pyIter (.ref l)) (fun it s₂ => TurnsAt prog w A h₀ env target body Q E it s₂) E s :=
  loop_listTB (fun i => Two x x2 m₀ (J i)) (Two x x2 m₀ JB) hh hl F N ⟨fun _ _ _ => rfl, hj⟩
    (fun i v m₁ nx h tk own a a2 b c d F₁ N₁ => turn m₁ i v nx h tk own a a2 b c d.2 (two_out F₁ d.1) N₁)
    fun m₁ nx h tk hJ F₁ N₁ => by
      rcases hJ with hJ | hJ
      · exact done m₁ nx h tk (.inl hJ.2) (two_out F₁ hJ.1) N₁
      · exact done m₁ nx h tk (.inr hJ.2) (two_out F₁ hJ.1) N₁
end
/-- the first state of the machine -/
noncomputable def A0 : Abs := ⟨0, .data, none, [], [], [], [], false, none⟩
/-- the law's loop, so far -/
noncomputable def LawS (w : World) (cs : List Nat) (els : List (Kd × List Nat)) (d t : Nat) (rest0 : Led) (i : Nat) (nx : Led) : Prop :=
  ∃ R D ex1 A, nx = ML w t R ++ (DLo w D ++ (ex1 ++ rest0)) ∧ R.T.states = d ∧ Rep cs t R D (ex1 ++ rest0) A ∧ A.done = false ∧ A.dr = none ∧ A.st = .data ∧ A.pos ≤ cs.length ∧
    A.out.length ≤ A.pos + i ∧ A.errs.length ≤ 2 * A.pos ∧ A.buffer.length ≤ A.pos ∧ lawA cs (els.drop i) A = lawA cs els A0
noncomputable def LawB (w : World) (cs : List Nat) (els : List (Kd × List Nat)) (d t : Nat) (rest0 : Led) (nx : Led) : Prop :=
  ∃ R D ex1, nx = ML w t R ++ (DLo w D ++ (ex1 ++ rest0)) ∧ R.T.states = d ∧ Rep cs t R D (ex1 ++ rest0) (lawA cs els A0)
/-- what is no tuple and no list bears no data -/
theorem dat_strip {Y own : Led} (ho : ∀ p ∈ own, p.2.cls = .type "list_iterator") {v : Value} {dd : Dat} (h : DatIn (Y ++ own) v dd) : DatIn Y v dd := by
  refine DatIn.rec (motive_1 := fun v dd _ => DatIn Y v dd) (motive_2 := fun vs ds _ => DatAll Y vs ds) ?_ ?_ ?_ ?_ ?_ ?_ ?_ ?_ ?_ h
  · exact .none
  · exact .bool
  · exact .int
  · exact .str
  · exact .bytes
  · intro a vs n ds hm _ ih
    rcases List.mem_append.mp hm with hm | hm
    · exact .tuple hm ih
    · exact absurd (ho _ hm) (by show ¬ Value.type "tuple" = Value.type "list_iterator"; decide)
  · intro a vs n ds hm _ ih
    rcases List.mem_append.mp hm with hm | hm
    · exact .list hm ih
    · exact absurd (ho _ hm) (by show ¬ Value.type "list" = Value.type "list_iterator"; decide)
  · exact .nil
  · intro v vs d ds _ _ h1 h2
    exact .cons h1 h2
theorem datAll_strip {Y own : Led} (ho : ∀ p ∈ own, p.2.cls = .type "list_iterator") : ∀ {vs : List Value} {ds : List Dat}, DatAll (Y ++ own) vs ds → DatAll Y vs ds
  | _, _, .nil => .nil
  | _, _, .cons h r => .cons (dat_strip ho h) (datAll_strip ho r)
theorem Rep.strip {cs : List Nat} {t : Nat} {R : Raw} {D : Option DRaw} {Y own : Led} {A : Abs} (ho : ∀ p ∈ own, p.2.cls = .type "list_iterator") (P : Rep cs t R D (Y ++ own) A) : Rep cs t R D Y A where
  sgs := P.sgs
  pos := P.pos
  state := P.state
  back := P.back
  outs := datAll_strip ho P.outs
  errs := datAll_strip ho P.errs
  buffer := P.buffer
  last := P.last
  done := P.done
  waiting := P.waiting
  handed := P.handed
  dr := by
    have q := P.dr
    cases hd : A.dr with
    | none => rw [hd] at q; cases D with
      | none => trivial
      | some D => exact q
    | some d => rw [hd] at q; cases D with
      | none => exact q
      | some D =>
        obtain ⟨q1, q2, q3, q4, q5, q6⟩ := q
        exact ⟨q1, q2, q3, datAll_strip ho q4, q5, ⟨fun p hp => q6.f1 p (List.mem_append.mpr (.inl hp)), fun p hp => q6.f2 p (List.mem_append.mpr (.inl hp))⟩⟩
  ord := P.ord
  off := ⟨fun p hp => P.off.f1 p (List.mem_append.mpr (.inl hp)), fun p hp => P.off.f2 p (List.mem_append.mpr (.inl hp)), fun p hp => P.off.f3 p (List.mem_append.mpr (.inl hp))⟩
theorem Rep.tail {cs : List Nat} {t : Nat} {R : Raw} {D : Option DRaw} {Y own : Led} {A : Abs} (P : Rep cs t R D Y A) (ho : Off R own) (h2 : D = none) : Rep cs t R D (Y ++ own) A where
  sgs := P.sgs
  pos := P.pos
  state := P.state
  back := P.back
  outs := P.outs.mono fun _ hp => List.mem_append.mpr (.inl hp)
  errs := P.errs.mono fun _ hp => List.mem_append.mpr (.inl hp)
  buffer := P.buffer
  last := P.last
  done := P.done
  waiting := P.waiting
  handed := P.handed
  dr := by
    subst h2
    have q := P.dr
    cases hd : A.dr with
    | none => trivial
    | some d => rw [hd] at q; exact q
  ord := P.ord
  off := P.off.app ho
/-- an element, as it lies -/
theorem dat_el {ex : Led} {evs : List Value} {els : List (Kd × List Nat)} {i : Nat} {v : Value} (h : DatAll ex evs (els.map elD)) (hv : evs[i]? = some v) :
    ∃ k nm p n t1 t2, els[i]? = some (k, nm) ∧ v = .ref p ∧ (p, ({ cls := .type "tuple", data := .seq #[.str (kindS k) t1, .str (tx nm) t2] n } : Obj)) ∈ ex := by
  have hl := h.length
  rw [List.length_map] at hl
  have hi : i < els.length := by rw [← hl]; exact (List.getElem?_eq_some_iff.mp hv).1
  obtain ⟨v', e, hd⟩ := h.get (k := i) (by rw [List.length_map]; exact hi)
  rw [hv] at e
  cases e
  rw [List.getElem_map] at hd
  rcases hh : els[i] with ⟨k, nm⟩
  rw [hh] at hd
  have hd' : DatIn ex v (.tuple [.str (kindS k), .str (tx nm)]) := hd
  cases hd' with
  | tuple hm hr =>
    cases hr with
    | cons h1 hr =>
      cases hr with
      | cons h2 hr =>
        cases hr
        cases h1
        cases h2
        exact ⟨k, nm, _, _, _, _, by rw [List.getElem?_eq_getElem hi, hh], rfl, hm⟩
section
variable {prog : Program} {w : World} {A : Around} {E : Value → Shared → Prop} {s : Shared} {env : PySem.Env} {h₀ : Heap} {target : PySem.Expr} {body : List Stmt} {Q : Flow → Shared → Prop}
/-- the law's loop -/
theorem loop_law {l : Addr} {vs : List Value} {nn : Nat} {m₀ : PySem.Str → Option Value} {news : Led} {cs : List Nat} {els : List (Kd × List Nat)} {d t : Nat} {rest0 : Led} (hj : LawS w cs els d t rest0 0 news)
    (hh : A.handled = none) (hl : (l, listOf vs.toArray nn) ∈ news) (F : Fr h₀ env.locals s.heap m₀) (N : News h₀ env.locals s.heap news)
    (turn : ∀ (u : PySem.Str → Option Value) i v nx h tk own, vs[i]? = some v → (∀ p ∈ own, p.2.cls = .type "list_iterator") → OwnOff own (nx.map (·.1)) → (l, listOf vs.toArray nn) ∈ nx → LawS w cs els d t rest0 i nx → Fr h₀ env.locals h (fun y => if y = Str.ofString "kind" then u y else if y = Str.ofString "name" then u y else m₀ y) → News h₀ env.locals h (nx ++ own) →
      wpAny (model prog w) A (assign target env v) (fun _ s₃ => wpAny (model prog w) A (execs body env) (InvPostB h₀ env.locals (fun m' nx => (l, listOf vs.toArray nn) ∈ nx ∧ Two (Str.ofString "kind") (Str.ofString "name") m₀ (LawS w cs els d t rest0 (i + 1)) m' nx) (Two (Str.ofString "kind") (Str.ofString "name") m₀ (LawB w cs els d t rest0)) own { s with heap := h, toks := tk } Q) E s₃) E { s with heap := h, toks := tk })
    (done : ∀ (u : PySem.Str → Option Value) nx h tk, (LawS w cs els d t rest0 vs.length nx ∨ LawB w cs els d t rest0 nx) → Fr h₀ env.locals h (fun y => if y = Str.ofString "kind" then u y else if y = Str.ofString "name" then u y else m₀ y) → News h₀ env.locals h nx → Q .next { s with heap := h, toks := tk }) :
    wpAny (model prog w) A (pyIter (.ref l)) (fun it s₂ => TurnsAt prog w A h₀ env target body Q E it s₂) E s :=
  loop_listT2 (Str.ofString "kind") (Str.ofString "name") (LawS w cs els d t rest0) (LawB w cs els d t rest0) hh hl F N hj turn done
end
/-- the loop's end, either way -/
theorem law_end {w : World} {cs : List Nat} {els : List (Kd × List Nat)} {d t : Nat} {rest0 nx : Led} (h : LawS w cs els d t rest0 els.length nx ∨ LawB w cs els d t rest0 nx) : LawB w cs els d t rest0 nx := by
  rcases h with ⟨R, D, ex1, A, e, hs, P, _, _, _, _, _, _, _, hl⟩ | h
  · rw [List.drop_length] at hl
    have hl' : A = lawA cs els A0 := hl
    exact ⟨R, D, ex1, e, hs, hl' ▸ P⟩
  · exact h
/-- the next turn, or the break -/
theorem law_turn {cs : List Nat} {els : List (Kd × List Nat)} {i : Nat} {e : Kd × List Nat} {A : Abs} (he : els[i]? = some e) (h : lawA cs (els.drop i) A = lawA cs els A0) :
    if (fin cs (startA A e)).done = true then fin cs (startA A e) = lawA cs els A0 else lawA cs (els.drop (i + 1)) (fin cs (startA A e)) = lawA cs els A0 := by
  have hl := (List.getElem?_eq_some_iff.mp he).1
  have hd : els.drop i = e :: els.drop (i + 1) := by
    rw [List.drop_eq_getElem_cons hl]
    rw [List.getElem?_eq_getElem hl] at he
    rw [Option.some.inj he]
  rw [hd] at h
  have h' : (if (fin cs (startA A e)).done then fin cs (startA A e) else lawA cs (els.drop (i + 1)) (fin cs (startA A e))) = lawA cs els A0 := h
  cases hd : (fin cs (startA A e)).done with
  | true => rw [hd, if_pos rfl] at h'; rw [if_pos rfl]; exact h'
  | false => rw [hd, if_neg (by decide)] at h'; rw [if_neg (by decide)]; exact h'
end
section
open PySem PySem.W PyProof.Rows PyProof.V PySem.Spec PySem.Calls
theorem len_tx {prog : Program} {w : World} {A : Around} {E : Value → Shared → Prop} {s : Shared} {l : List Nat} {t : Tok} {Q : Value → Shared → Prop} (hl : l.length ≤ 1000) (h : Q (.int l.length (s.toks + 1)) { s with toks := s.toks + 1 + 1 }) : wpAny (model prog w) A (call (.builtin "len") [.str (tx l) t]) Q E s :=
  PyProof.Rows.len_str (x := tx l) (by show ¬ ((l.toArray.size : Nat) : Int) ≥ 2 ^ 63; rw [List.size_toArray]; omega) (by show Q (.int ((l.toArray.size : Nat) : Int) _) _; rw [List.size_toArray]; exact h)
theorem item_tx {l : List Nat} {k : Int} {c : Nat} (h0 : 0 ≤ k) (h1 : k < l.length) (hx : l[k.toNat]? = some c) : PySem.Txt.item (tx l) k = sg c := by
  have hs : (tx l).length = l.length := by show l.toArray.size = _; exact List.size_toArray
  have e : PySem.Txt.charAt (tx l) k = some c := by
    unfold PySem.Txt.charAt seqIndex?
    rw [hs]
    have hk : ¬ k < 0 := by omega
    simp only [hk, if_false]
    rw [if_pos (by simp; omega)]
    simpa using hx
  unfold PySem.Txt.item
  rw [e]
  rfl
theorem sub_tx {prog : Program} {w : World} {A : Around} {E : Value → Shared → Prop} {s : Shared} {value slice : PySem.Expr} {l : List Nat} {t u : Tok} {k : Int} {c : Nat} {Q : Value → Shared → Prop} (h0 : 0 ≤ k) (h1 : k < l.length) (hl : l.length ≤ 1000) (hx : l[k.toNat]? = some c)
    (hs : subscripted slice false (.str (tx l) t) (.int k u) = operate [.str (tx l) t, .int k u] (getItem (.str (tx l) t) (.int k u))) (ht : ∀ r, letTemporaryGo value (.str (tx l) t) r = pure ())
    (h : ∀ t' tk, Q (.str (sg c) t') { s with toks := tk }) : wpAny (model prog w) A (subscriptTail value slice (.str (tx l) t) (.int k u)) Q E s := by
  have hsz : (tx l).length = l.length := by show l.toArray.size = _; exact List.size_toArray
  refine item_str (by unfold fitsSsize; simp; omega) (by rw [hsz]; omega) (by rw [hsz]; exact h1) (fun _ => ?_) hs ht
  rw [item_tx h0 h1 hx]
  exact h _ _
end
local macro_rules | `(tactic| walk_at "subtx") => `(tactic| (k_here; (with_reducible show wpAny _ _ (subscriptTail _ _ (Value.str (tx _) _) (Value.int _ _)) _ _ _); k_dflt (refine' sub_tx ?a ?b ?c ?d ?e ?f ?_; (case a => with_reducible assumption); (case b => with_reducible assumption); (case c => omega); (case d => with_reducible assumption); (case e => with_unfolding_all rfl); (case f => (intro _; with_unfolding_all rfl))); intro st8 sk8))
set_option hygiene false
local macro_rules | `(tactic| walk_at "subscriptTail Name Name str int") => `(tactic| walk_at "subtx")
local macro_rules | `(tactic| walk_at "subscriptTail Name BinOp str int") => `(tactic| walk_at "subtx")
local macro_rules | `(tactic| walk_at "call builtin:len") => `(tactic| (k_here; (with_reducible show wpAny _ _ (call (Value.builtin "len") [Value.str (tx _) _]) _ _ _); refine len_tx (by omega) ?_))
set_option hygiene true
example : True := by w_top off; trivial
section
open PyProof.V PySem.Spec PySem.Calls
set_option hygiene false
local macro_rules | `(tactic| walk_at "eval ListComp") => `(tactic| refine hold_out ?_)
set_option hygiene true
noncomputable def LowAre (cs : List Nat) (i : Nat) (ys : List Value) : Prop := ys.length = i ∧ ∀ j c, j < i → cs[j]? = some c → ∃ t, ys[j]? = some (Value.str (sg (lowA c)) t)
theorem low_flat {c : Nat} {v : Value} {a b d e : Tok} (h : Flat v ((PySem.Spec.lookup (PyData.str ⟨#[c]⟩) (strData [(Value.str (Str.ofString "T") a, Value.str (Str.ofString "t") b), (Value.str (Str.ofString "A") d, Value.str (Str.ofString "a") e)])).getD (PyData.str ⟨#[c]⟩))) : ∃ t, v = Value.str (sg (lowA c)) t := by
  have eT : Str.ofString "T" = sg 84 := by decide +kernel
  have eA : Str.ofString "A" = sg 65 := by decide +kernel
  have et : Str.ofString "t" = sg 116 := by decide +kernel
  have ea : Str.ofString "a" = sg 97 := by decide +kernel
  have q : (PySem.Spec.lookup (PyData.str (sg c)) [(PyData.str (sg 84), PyData.str (sg 116)), (PyData.str (sg 65), PyData.str (sg 97))]).getD (PyData.str (sg c)) = PyData.str (sg (lowA c)) := by
    show (if PySem.Spec.same (PyData.str (sg 84)) (PyData.str (sg c)) = true then some _ else if PySem.Spec.same (PyData.str (sg 65)) (PyData.str (sg c)) = true then some _ else none).getD _ = _
    rw [PyProof.V.same_str, PyProof.V.same_str]
    unfold lowA
    by_cases h1 : c = 84
    · subst h1; simp
    · have : sg 84 ≠ sg c := by simp [sg]; omega
      by_cases h2 : c = 65
      · subst h2; simp
      · have h3 : sg 65 ≠ sg c := by simp [sg]; omega
        simp [this, h3, h1, h2]
  have h' : Flat v ((PySem.Spec.lookup (PyData.str (sg c)) [(PyData.str (Str.ofString "T"), PyData.str (Str.ofString "t")), (PyData.str (Str.ofString "A"), PyData.str (Str.ofString "a"))]).getD (PyData.str (sg c))) := h
  rw [eT, eA, et, ea, q] at h'
  exact PyProof.V.Flat.str_inv h'
theorem low_strs {cs : List Nat} {ys : List Value} (h : LowAre cs cs.length ys) : StrsAre ys (PyProof.Rows.signs (tx (cs.map lowA))) := by
  obtain ⟨h1, h2⟩ := h
  have key : ∀ (cs : List Nat) (ys : List Value), ys.length = cs.length → (∀ (j c : Nat), cs[j]? = some c → ∃ t, ys[j]? = some (Value.str (sg (lowA c)) t)) → StrsAre ys ((cs.map lowA).map fun c => sg c) := by
    intro cs
    induction cs with
    | nil => intro ys h _; rw [List.length_eq_zero_iff.mp h]; exact .nil
    | cons c cs ih =>
      intro ys h hg
      cases ys with
      | nil => cases h
      | cons y ys =>
        obtain ⟨t, e⟩ := hg 0 c rfl
        cases e
        exact .cons _ _ (ih ys (by simpa using h) fun j d hd => hg (j + 1) d hd)
  exact key cs ys h1 fun j c hc => h2 j c (List.getElem?_eq_some_iff.mp hc).1 hc
theorem join_tx (l : List Nat) : PySem.Txt.join (Str.ofString "") (PyProof.Rows.signs (tx l)) = tx l := by
  have e : Str.ofString "" = ⟨#[]⟩ := by decide +kernel
  have h := join_closes (sep := Str.ofString "") (sep' := ⟨#[]⟩) (ys := PyProof.Rows.signs (tx l)) e
  rw [eq_of_beq h, join_nil_signs]
theorem low_snoc {cs : List Nat} {i c : Nat} {ys : List Value} {y : Value} (h : LowAre cs i ys) (hc : cs[i]? = some c) (hy : ∃ t, y = Value.str (sg (lowA c)) t) : LowAre cs (i + 1) (ys ++ [y]) := by
  obtain ⟨h1, h2⟩ := h
  refine ⟨by simp [h1], fun j d hj hd => ?_⟩
  rcases Nat.lt_succ_iff_lt_or_eq.mp hj with h | h
  · obtain ⟨t, e⟩ := h2 j d h hd
    exact ⟨t, by rw [List.getElem?_append_left (by omega)]; exact e⟩
  · subst h
    rw [hc] at hd
    cases hd
    obtain ⟨t, rfl⟩ := hy
    exact ⟨t, by rw [List.getElem?_append_right (by omega), h1]; simp⟩
theorem sum_signs (l : List Nat) : ((PyProof.Rows.signs (tx l)).map (·.length)).sum = l.length := by
  have key : ∀ l : List Nat, ((l.map fun c => sg c).map (·.length)).sum = l.length := by
    intro l
    induction l with
    | nil => rfl
    | cons c l ih =>
      rw [List.map_cons, List.map_cons, List.sum_cons, ih, List.length_cons]
      show 1 + _ = _
      omega
  exact key l
theorem join_low {prog : Program} {w : World} {A : Around} {E : Value → Shared → Prop} {s : Shared} {D : Addr} {t : Tok} {ys : List Value} {cs : List Nat} {Q : Value → Shared → Prop} (hl : s.heap.IsList D ys.toArray) (h : LowAre cs cs.length ys) (hc : cs.length ≤ 40)
    (q : ∀ t' k, Q (.str (tx (cs.map lowA)) t') { s with toks := k }) : wpAny (model prog w) A (call (.builtin "str.join") [.str (Str.ofString "") t, .ref D]) Q E s := by
  refine join_listC hl (low_strs h) (by decide +kernel) ?_ (fun t' k => by rw [join_tx]; exact q t' k)
  rw [sum_signs]
  have : (PyProof.Rows.signs (tx (cs.map lowA))).length = cs.length := by
    show ((cs.map lowA).map fun c => sg c).length = _
    simp
  rw [this, List.length_map]
  omega
theorem no_hit_stop {cs name : List Nat} {p c : Nat} (h : cs[p + (name.length + 2)]? = some c) (hs : isStop c = false) : hitL name (cs.drop p) = false := by
  cases hh : hitL name (cs.drop p) with
  | false => rfl
  | true =>
    obtain ⟨_, d, hd, hd2⟩ := (hit_low name _).mp hh
    rw [List.getElem?_drop, h] at hd
    cases hd
    rw [hs] at hd2
    cases hd2
theorem slice_low {l : List Nat} {a i n : Nat} (h : a + i + (n + 2) ≤ l.length) : PySem.Txt.slice (tx l) (some ((a : Int) + ((n : Int) + 2) + (i : Int) - ((n : Int) + 2))) (some ((a : Int) + ((n : Int) + 2) + (i : Int))) = tx ((l.drop (a + i)).take (n + 2)) := by
  have e1 : ((a : Int) + ((n : Int) + 2) + (i : Int) - ((n : Int) + 2)) = ((a + i : Nat) : Int) := by omega
  have e2 : ((a : Int) + ((n : Int) + 2) + (i : Int)) = ((a + i + (n + 2) : Nat) : Int) := by omega
  rw [e1, e2]
  have hs : (tx l).length = l.length := by show l.toArray.size = _; exact List.size_toArray
  have q := StrLaws.sliceText_nat (tx l) (a := a + i) (b := a + i + (n + 2)) (by omega) (by rw [hs]; exact h)
  refine (show PySem.Txt.slice (tx l) _ _ = _ from q).trans ?_
  rw [Nat.add_sub_cancel_left]
theorem hit_slice {cs name : List Nat} {a i c : Nat} (hc : cs[a + i + (name.length + 2)]? = some c) (hs : isStop c = true) :
    (PySem.Txt.slice (tx (cs.map lowA)) (some ((a : Int) + ((name.length : Int) + 2) + (i : Int) - ((name.length : Int) + 2))) (some ((a : Int) + ((name.length : Int) + 2) + (i : Int))) == Str.ofString "</" ++ tx name) = hitL name (cs.drop (a + i)) := by
  have hl := (List.getElem?_eq_some_iff.mp hc).1
  rw [slice_low (by rw [List.length_map]; omega)]
  have e : Str.ofString "</" = tx [60, 47] := by decide +kernel
  rw [e, tx_app, Bool.eq_iff_iff, hit_low, beq_iff_eq, List.map_drop]
  constructor
  · intro h
    have h2 : ((cs.map lowA).drop (a + i)).take (name.length + 2) = [60, 47] ++ name := by
      have := congrArg (fun x => x.cps.toList) h
      simpa using this
    exact ⟨h2, c, by rw [List.getElem?_drop]; exact hc, hs⟩
  · rintro ⟨h, _⟩
    rw [h]; rfl
theorem stop_any (c : Nat) : ([Str.ofString " ", Str.ofString "\n", Str.ofString "\t", Str.ofString "\x0c", Str.ofString "/", Str.ofString ">"].any fun x => x == sg c) = isStop c := by
  have e1 : Str.ofString " " = sg 32 := by decide +kernel
  have e2 : Str.ofString "\n" = sg 10 := by decide +kernel
  have e3 : Str.ofString "\t" = sg 9 := by decide +kernel
  have e4 : Str.ofString "\x0c" = sg 12 := by decide +kernel
  have e5 : Str.ofString "/" = sg 47 := by decide +kernel
  have e6 : Str.ofString ">" = sg 62 := by decide +kernel
  rw [e1, e2, e3, e4, e5, e6]
  have e (m : Nat) : (sg m == sg c) = (c == m) := by
    rw [Bool.eq_iff_iff]
    simp [sg]
    exact eq_comm
  unfold isStop
  simp only [List.any_cons, List.any_nil, e, Bool.or_false, Bool.or_assoc]
set_option hygiene false
local macro_rules | `(tactic| walk_at "subscriptTail Name Slice str ref") => `(tactic| ((with_reducible show wpAny _ _ (subscriptTail _ (Expr.Slice (some _) (some _) none _) _ _) _ _ _); refine hold_out ?_))
local macro_rules | `(tactic| walk_at "call builtin:str.join") => `(tactic| refine hold_out ?_)
set_option hygiene true
section
variable (w : World) (rest : Led)
theorem end_spec (cs name : List Nat) (ct nt : Tok) (a : Nat) (at_ : Tok) (hc : cs.length ≤ 40) (ha : a ≤ cs.length) (hn : name.length ≤ 5) :
    Spec w 522 [.str (tx cs) ct, .int a at_, .str (tx name) nt] 30 60 rest (fun v nx => (∃ tk, v = .int (a + endL name (cs.drop a) : Nat) tk) ∧ nx = rest) := by
  (k_dflt (refine' spec_def ?ho ?hcd ?hb ?hs ?_; (case ho => k_is); (case hcd => k_is); (case hb => exact fun _ => BindsTo.of_eq rfl); (case hs => exact rfl); k_whole); intro meanZ9 mgZ9 mbZ9 AZ9 A₀Z9 outerZ9 baseZ9 gZ9 LZ9 sZ9 qZ9 F'Z9 N'Z9 B'Z9 X'Z9 T'Z9 hhZ9 hAZ9 hdZ9 huZ9 hretZ9; (try dsimp only); (try simp only [List.cons_append, List.nil_append, List.append_assoc] at N'Z9))
  (k_steps; repeat' ((refine hold_in ?_); (first | ((with_reducible show wpAny _ _ (subscriptTail _ _ _ _) _ _ _); (((with_reducible rename Fr _ _ _ _ => Fx7); (with_reducible rename News _ _ _ _ => Nx7); (refine slice_strN_ss (hsz := by with_reducible assumption) (s := ⟨_, _, _, _, _⟩) Fx7 Nx7 ?_); intro _ _ _ _ _))) | ((with_reducible show wpAny _ _ (call (Value.builtin _) _) _ _ _); ((k_dflt (refine' join_low (by exact News.isList (by k_asm) (by k_dflt k_mem)) (by assumption) (by assumption) ?_); intro _ _)))); k_steps))
  refine hold_in ?_
  (with_reducible rename Fr _ _ _ _ => F9)
  (with_reducible rename News _ _ _ _ => N9)
  k_dflt (refine lc_text (xt := tx cs) (tx := ct) (news := rest) F9 (by with_unfolding_all rfl) (by decide) (by first | rfl | assumption) (by decide) (by first | rfl | assumption) (by first | assumption | with_unfolding_all rfl) (by rw [sizeLine_eq]; show cs.toArray.size ≤ _; rw [List.size_toArray]; omega) ?_)
  (k_steps; repeat' ((refine hold_in ?_); (first | ((with_reducible show wpAny _ _ (subscriptTail _ _ _ _) _ _ _); (((with_reducible rename Fr _ _ _ _ => Fx7); (with_reducible rename News _ _ _ _ => Nx7); (refine slice_strN_ss (hsz := by with_reducible assumption) (s := ⟨_, _, _, _, _⟩) Fx7 Nx7 ?_); intro _ _ _ _ _))) | ((with_reducible show wpAny _ _ (call (Value.builtin _) _) _ _ _); ((k_dflt (refine' join_low (by exact News.isList (by k_asm) (by k_dflt k_mem)) (by assumption) (by assumption) ?_); intro _ _)))); k_steps))
  · exact F9
  · exact N9
  · (with_reducible rename (∃ _, (_ : Shared) = _) => hs2)
    obtain ⟨g2, rfl⟩ := hs2
    refine comp_rest (fun i ys news => news = rest ∧ LowAre cs i ys) (tx cs).cps.size ?_ ?_ _ 0 [] rest (Nat.zero_add _) ⟨rfl, rfl, fun _ _ h => absurd h (Nat.not_lt_zero _)⟩
    · rintro i ys news v I oI C oC D m₂ h tk E' hi ⟨rfl, hlw⟩ ⟨c, u, hcu, rfl⟩ hN hx F8 N8 hO hne
      (k_steps; repeat' ((refine hold_in ?_); (first | ((with_reducible show wpAny _ _ (subscriptTail _ _ _ _) _ _ _); (((with_reducible rename Fr _ _ _ _ => Fx7); (with_reducible rename News _ _ _ _ => Nx7); (refine slice_strN_ss (hsz := by with_reducible assumption) (s := ⟨_, _, _, _, _⟩) Fx7 Nx7 ?_); intro _ _ _ _ _))) | ((with_reducible show wpAny _ _ (call (Value.builtin _) _) _ _ _); ((k_dflt (refine' join_low (by exact News.isList (by k_asm) (by k_dflt k_mem)) (by assumption) (by assumption) ?_); intro _ _)))); k_steps))
      (with_reducible rename Fr _ _ _ _ => F7)
      (with_reducible rename News _ _ _ _ => N7)
      refine LCg.CompEnd.intro F7 N7 _ (fun p hp => .tail _ hp) hO trivial ⟨rfl, low_snoc hlw (by simpa using hcu) ?_⟩
      exact low_flat (by assumption)
    · rintro ys news ⟨rfl, hlw⟩
      have hlw2 : LowAre cs cs.length ys := by simpa using hlw
      have hlow := low_strs hlw2
      (k_steps; repeat' ((refine hold_in ?_); (first | ((with_reducible show wpAny _ _ (subscriptTail _ _ _ _) _ _ _); (((with_reducible rename Fr _ _ _ _ => Fx7); (with_reducible rename News _ _ _ _ => Nx7); (refine slice_strN_ss (hsz := by with_reducible assumption) (s := ⟨_, _, _, _, _⟩) Fx7 Nx7 ?_); intro _ _ _ _ _))) | ((with_reducible show wpAny _ _ (call (Value.builtin _) _) _ _ _); ((k_dflt (refine' join_low (by exact News.isList (by k_asm) (by k_dflt k_mem)) (by assumption) (by assumption) ?_); intro _ _)))); k_steps))
      refine hold_in ?_
      (with_reducible rename Fr _ _ _ _ => F7)
      (with_reducible rename News _ _ _ _ => N7)
      (with_reducible rename IsRange _ _ _ _ _ _ _ _ => R7)
      replace N7 := news_tail N7
      refine loop_range1 (n := ((cs.length : Int) - ((a : Int) + ((name.length : Int) + 2))).toNat) (fun i nx => nx = news ∧ ∀ j, j < i → hitL name (cs.drop (a + j)) = false) (by assumption) R7 (small_one (by omega) (by omega) (by omega) (by omega)) (rangeSize_nat _ _) F7 N7 ⟨rfl, fun _ h => absurd h (Nat.not_lt_zero _)⟩ ?_ ?_
      · rintro i ti nx h tk own hi hoff ⟨rfl, hno⟩ F8 N8
        clear F7 N7 R7
        have hlt : a + i + (name.length + 2) < cs.length := by omega
        obtain ⟨c, hc1⟩ : ∃ c, cs[a + i + (name.length + 2)]? = some c := ⟨_, List.getElem?_eq_getElem hlt⟩
        have hx : cs[((a : Int) + ((name.length : Int) + 2) + (i : Int)).toNat]? = some c := by rw [← hc1]; congr 1; omega
        have hi0 : (0 : Int) ≤ (a : Int) + ((name.length : Int) + 2) + (i : Int) := by omega
        have hi1 : (a : Int) + ((name.length : Int) + 2) + (i : Int) < cs.length := by omega
        have hst := stop_any c
        cases hs : isStop c with
        | false =>
          rw [hs] at hst
          (k_steps; repeat' ((refine hold_in ?_); (first | ((with_reducible show wpAny _ _ (subscriptTail _ _ _ _) _ _ _); (((with_reducible rename Fr _ _ _ _ => Fx7); (with_reducible rename News _ _ _ _ => Nx7); (refine slice_strN_ss (hsz := by with_reducible assumption) (s := ⟨_, _, _, _, _⟩) Fx7 Nx7 ?_); intro _ _ _ _ _))) | ((with_reducible show wpAny _ _ (call (Value.builtin _) _) _ _ _); ((k_dflt (refine' join_low (by exact News.isList (by k_asm) (by k_dflt k_mem)) (by assumption) (by assumption) ?_); intro _ _)))); k_steps))
          (with_reducible rename Fr _ _ _ _ => F7)
          (with_reducible rename News _ _ _ _ => N7)
          refine inv_end F7 (news_tail N7) ⟨fun z hz => if_neg hz, rfl, ?_⟩ hoff
          intro j hj
          rcases Nat.lt_succ_iff_lt_or_eq.mp hj with h | rfl
          · exact hno j h
          · exact no_hit_stop hc1 hs
        | true =>
          rw [hs] at hst
          have hsz8 : (tx (cs.map lowA)).length ≤ sizeLine := by rw [sizeLine_eq]; show (cs.map lowA).toArray.size ≤ _; rw [List.size_toArray, List.length_map]; omega
          have hnl8 : (tx name).length ≤ 1000 := by show name.toArray.size ≤ _; rw [List.size_toArray]; omega
          (k_steps; repeat' ((refine hold_in ?_); (first | ((with_reducible show wpAny _ _ (subscriptTail _ _ _ _) _ _ _); (((with_reducible rename Fr _ _ _ _ => Fx7); (with_reducible rename News _ _ _ _ => Nx7); (refine slice_strN_ss (hsz := by with_reducible assumption) (s := ⟨_, _, _, _, _⟩) Fx7 Nx7 ?_); intro _ _ _ _ _))) | ((with_reducible show wpAny _ _ (call (Value.builtin _) _) _ _ _); ((k_dflt (refine' join_low (by exact News.isList (by k_asm) (by k_dflt k_mem)) (by assumption) (by assumption) ?_); intro _ _)))); k_steps))
          · (with_reducible rename Fr _ _ _ _ => F7)
            (with_reducible rename News _ _ _ _ => N7)
            (with_reducible rename RetE _ _ _ _ => hret)
            (with_reducible rename (_ == _) = true => hb)
            have hh : hitL name (cs.drop (a + i)) = true := by rw [← hit_slice hc1 hs]; exact hb
            have e : ((a : Int) + ((name.length : Int) + 2) + (i : Int) - ((name.length : Int) + 2)) = ((a + endL name (cs.drop a) : Nat) : Int) := by rw [end_found hno hh]; omega
            first | refine fin_ret hret F7 (cb_drop N7 (fun p hp => .tail _ (List.mem_append.mpr (.inl hp)))) rfl ?r | refine fin_next hret F7 (cb_drop N7 (fun p hp => .tail _ (List.mem_append.mpr (.inl hp)))) rfl ?r
            exact ⟨⟨_, by rw [e]⟩, rfl⟩
          · (with_reducible rename Fr _ _ _ _ => F7)
            (with_reducible rename News _ _ _ _ => N7)
            refine inv_end F7 (news_tail N7) ⟨fun z hz => if_neg hz, rfl, ?_⟩ hoff
            intro j hj
            rcases Nat.lt_succ_iff_lt_or_eq.mp hj with h | rfl
            · exact hno j h
            · cases hh : hitL name (cs.drop (a + j)) with
              | false => rfl
              | true =>
                have hb := hit_slice (a := a) (i := j) hc1 hs
                rw [hh] at hb
                first | exact absurd hb (by assumption) | exact absurd hb (by simp_all)
      · rintro u nx h tk ⟨rfl, hno⟩ F8 N8
        clear F7 N7 R7
        (k_steps; repeat' ((refine hold_in ?_); (first | ((with_reducible show wpAny _ _ (subscriptTail _ _ _ _) _ _ _); (((with_reducible rename Fr _ _ _ _ => Fx7); (with_reducible rename News _ _ _ _ => Nx7); (refine slice_strN_ss (hsz := by with_reducible assumption) (s := ⟨_, _, _, _, _⟩) Fx7 Nx7 ?_); intro _ _ _ _ _))) | ((with_reducible show wpAny _ _ (call (Value.builtin _) _) _ _ _); ((k_dflt (refine' join_low (by exact News.isList (by k_asm) (by k_dflt k_mem)) (by assumption) (by assumption) ?_); intro _ _)))); k_steps))
        ((with_reducible rename RetE _ _ _ _ => hret9); (first | refine fin_ret hret9 (by assumption) (by assumption) rfl ?_ | refine fin_next hret9 (by assumption) (by assumption) rfl ?_))
        exact ⟨⟨_, by rw [end_none ha (fun j hj => hno j (by omega))]⟩, rfl⟩
end
end
example : True := by w_top off; trivial
section
open PyProof.V PySem.Spec PySem.Calls
section
variable {prog : Program} {w : World} {A : Around} {E : Value → Shared → Prop} {s : Shared} {env : PySem.Env} {h₀ : Heap} {test : PySem.Expr} {body orelse : List Stmt} {Q : Flow → Shared → Prop}
noncomputable def WhlV (h₀ : Heap) (L : Addr) (x : PySem.Str) (m₀ : PySem.Str → Option Value) (J : Nat → Value → Led → Prop) (n : Nat) (Q : Flow → Shared → Prop) (s : Shared) (f : Flow) (s₃ : Shared) : Prop := match f with
  | .ret v => Q (.ret v) s₃
  | .brk => Q .next s₃
  | _ => ∃ n' v' nx h tk m', n' < n ∧ J n' v' nx ∧ Fr h₀ L h m' ∧ (∀ y, m' y = if y = x then some v' else m₀ y) ∧ News h₀ L h nx ∧ s₃ = { s with heap := h, toks := tk }
/-- a while loop that stores one name -/
theorem loop_whileV {m : PySem.Str → Option Value} {news : Led} (x : PySem.Str) (v₀ : Value) (J : Nat → Value → Led → Prop) (hE : PassesOwn (model prog w) A env E) (n : Nat)
    (F : Fr h₀ env.locals s.heap m) (hm : m x = some v₀) (N : News h₀ env.locals s.heap news) (hj : J n v₀ news)
    (turn : ∀ n v nx h tk, J n v nx → Fr h₀ env.locals h (fun y => if y = x then some v else m y) → News h₀ env.locals h nx →
      wpAny (model prog w) A (isTrue test env (eval test env)) (fun b s₂ => WhlIf b (wpAny (model prog w) A (execs body env) (WhlV h₀ env.locals x m J n Q s) E s₂) (wpAny (model prog w) A (execs orelse env) Q E s₂)) E { s with heap := h, toks := tk }) :
    WhlRest prog w A E env test body orelse Q 0 s := by
  have H : ∀ n v nx h tk, J n v nx → Fr h₀ env.locals h (fun y => if y = x then some v else m y) → News h₀ env.locals h nx → WhlRest prog w A E env test body orelse Q 0 { s with heap := h, toks := tk } := by
    intro n
    induction n using Nat.strongRecOn with
    | ind n ih =>
      intro v nx h tk hJ hF hN
      refine whl_turn (k := 0) hE (wpAny_mono (turn n v nx h tk hJ hF hN) (fun b s₂ hb => ?_) fun _ _ h => h)
      cases b with
      | false => exact hb
      | true =>
        refine WhlIf.yes rfl (wpAny_mono (show wpAny _ _ _ _ _ _ from hb) (fun f s₃ hf => ?_) fun _ _ h => h)
        cases f with
        | ret v => exact hf
        | brk => exact hf
        | next =>
          obtain ⟨n', v', nx', h', tk', m', hlt, hJ', hF', hm', hN', rfl⟩ := hf
          exact ih n' hlt v' nx' h' tk' hJ' (fr_map hF' hm') hN'
        | cont =>
          obtain ⟨n', v', nx', h', tk', m', hlt, hJ', hF', hm', hN', rfl⟩ := hf
          exact ih n' hlt v' nx' h' tk' hJ' (fr_map hF' hm') hN'
  exact H n v₀ news s.heap s.toks hj (fr_map F fun y => by by_cases q : y = x <;> simp [q, hm]) N
end
/-- the names gathered, as texts of one sign -/
noncomputable def NamesAre (vs : List Value) (names : List Nat) : Prop := StrsAre vs (names.map fun c => sg c)
noncomputable def TagJ (cs : List Nat) (a : Nat) (rest : Led) (nl el : Nat) (n : Nat) (v : Value) (nx : Led) : Prop :=
  ∃ (names : List Nat) (es : List Dat) (p : Nat) (nvs evs : List Value) (n1 n2 : Nat) (ex : Led) (tk : Tok),
    n = cs.length - p ∧ p ≤ cs.length ∧ a ≤ p ∧ v = .int p tk ∧ names.length ≤ p ∧ (∀ x ∈ names, x < 1114112) ∧ NamesAre nvs names ∧ DatAll ex evs es ∧ evs.length ≤ p ∧ (∀ x ∈ ex, @LT.lt Nat _ el x.1) ∧
    tagL [] a (cs.drop a) = ((tagL names p (cs.drop p)).1, es ++ (tagL names p (cs.drop p)).2.1, (tagL names p (cs.drop p)).2.2) ∧
    nx = (el, listOf evs.toArray n2) :: (nl, listOf nvs.toArray n1) :: (ex ++ rest)
theorem blank5_any (c : Nat) : ([Str.ofString " ", Str.ofString "\n", Str.ofString "\t", Str.ofString "\x0c", Str.ofString "/"].any fun x => x == sg c) = (isBlank c || c == 47) := by
  have e1 : Str.ofString " " = sg 32 := by decide +kernel
  have e2 : Str.ofString "\n" = sg 10 := by decide +kernel
  have e3 : Str.ofString "\t" = sg 9 := by decide +kernel
  have e4 : Str.ofString "\x0c" = sg 12 := by decide +kernel
  have e5 : Str.ofString "/" = sg 47 := by decide +kernel
  rw [e1, e2, e3, e4, e5]
  have e (m : Nat) : (sg m == sg c) = (c == m) := by
    rw [Bool.eq_iff_iff]
    simp [sg]
    exact eq_comm
  unfold isBlank
  simp only [List.any_cons, List.any_nil, e, Bool.or_false]
  cases (c == 32) <;> cases (c == 10) <;> cases (c == 9) <;> cases (c == 12) <;> rfl
theorem any_sg (c : Nat) (names : List Nat) : ((names.map fun c => sg c).any fun x => x == sg c) = names.contains c := by
  have e (m : Nat) : (sg m == sg c) = (c == m) := by
    rw [Bool.eq_iff_iff]
    simp [sg]
    exact eq_comm
  induction names with
  | nil => rfl
  | cons x r ih => rw [List.map_cons, List.any_cons, ih, List.contains_cons, e]
theorem tagJ0 (cs : List Nat) (a : Nat) (rest : Led) (nl el : Nat) (tk : Tok) (ha : a ≤ cs.length) : TagJ cs a rest nl el (cs.length - a) (.int a tk) ((el, listOf #[] 0) :: (nl, listOf #[] 0) :: rest) :=
  ⟨[], [], a, [], [], 0, 0, [], tk, rfl, ha, Nat.le_refl _, rfl, Nat.zero_le _, (fun _ h => nomatch h), .nil, .nil, Nat.zero_le _, (fun _ h => nomatch h), rfl, rfl⟩
theorem strs_dat {news : Led} : ∀ {vs : List Value} {ys : List PySem.Str}, StrsAre vs ys → DatAll news vs (ys.map Dat.str)
  | _, _, .nil => .nil
  | _, _, .cons y t h => .cons (.str y t) (strs_dat h)
theorem strs_snoc {y : PySem.Str} {t : Tok} : ∀ {vs : List Value} {ys : List PySem.Str}, StrsAre vs ys → StrsAre (vs ++ [.str y t]) (ys ++ [y])
  | _, _, .nil => .cons y t .nil
  | _, _, .cons z u h => .cons z u (strs_snoc h)
theorem ne_nil {prog : Program} {w : World} {A : Around} {E : Value → Shared → Prop} {s : Shared} {h₀ : Heap} {L nl bl : Addr} {news : Led} {nvs : List Value} {n1 n2 : Nat} {names : List Nat} {Q : Value → Shared → Prop}
    (N : News h₀ L s.heap news) (ma : (nl, listOf nvs.toArray n1) ∈ news) (mb : (bl, listOf #[] n2) ∈ news) (hS : StrsAre nvs (names.map fun c => sg c)) (hb : ∀ x ∈ names, x < 1114112) (hu : A.units + 64 < cLine) (h : Q (.bool (!decide (names = []))) s) :
    wpAny (model prog w) A (compareOp .NotEq (.ref nl) (.ref bl)) Q E s := by
  refine kqd_ne (n₁ := []) (n₂ := []) (ds := (names.map fun c => sg c).map Dat.str) (es := []) N ma rfl rfl (strs_dat hS) (fun _ h => nomatch h) (ys := []) mb rfl rfl .nil (fun _ h => nomatch h) ?_ (fun _ h => nomatch h) hu ?_
  · intro d hd
    obtain ⟨x, hx, rfl⟩ := List.mem_map.mp hd
    obtain ⟨c, hc, rfl⟩ := List.mem_map.mp hx
    show PyData.strOk (sg c) = true
    simp [PyData.strOk, hb c hc]
  · have e : decide ((names.map fun c => sg c).map Dat.str = []) = decide (names = []) := by
      cases names <;> simp
    rw [e]; exact h
set_option hygiene false
local macro_rules | `(tactic| walk_at "exec While") => `(tactic| refine hold_out ?_)
local macro_rules | `(tactic| walk_at "exec While BoolOp") => `(tactic| refine hold_out ?_)
local macro_rules | `(tactic| walk_at "compareOp In str ref") => `(tactic| refine hold_out ?_)
local macro_rules | `(tactic| walk_at "compareOp NotEq ref ref") => `(tactic| refine hold_out ?_)
set_option hygiene true
theorem at_map {α : Type} {x : PySem.Str} (m : PySem.Str → α) (v v' : α) : ∀ y, (if y = x then v' else if y = x then v else m y) = if y = x then v' else m y := fun y => by by_cases q : y = x <;> simp [q]
theorem news_tg {h₀ h : Heap} {L : Addr} {x a1 a2 : Addr × Obj} {ex rest : Led} (N : News h₀ L h (x :: a1 :: a2 :: (ex ++ rest))) : News h₀ L h (a1 :: a2 :: ((x :: ex) ++ rest)) := by
  intro p hp
  apply N
  simp only [List.mem_cons, List.mem_append, List.cons_append] at hp ⊢
  rcases hp with h | h | h | h | h <;> simp [h]
theorem tagL_step {cs : List Nat} {p c : Nat} (h : cs[p]? = some c) (names : List Nat) : tagL names p (cs.drop p) = if c = 62 then (names, [], p) else if names.contains c then ((tagL names (p + 1) (cs.drop (p + 1))).1, erD dupE p :: (tagL names (p + 1) (cs.drop (p + 1))).2.1, (tagL names (p + 1) (cs.drop (p + 1))).2.2)
    else if isBlank c || c == 47 then tagL names (p + 1) (cs.drop (p + 1)) else tagL (names ++ [c]) (p + 1) (cs.drop (p + 1)) := by
  have hl := (List.getElem?_eq_some_iff.mp h).1
  have e : cs.drop p = c :: cs.drop (p + 1) := by
    rw [List.drop_eq_getElem_cons hl]
    rw [List.getElem?_eq_getElem hl] at h
    rw [Option.some.inj h]
  rw [e]
  rfl
/-- what _law_tag leaves -/
noncomputable def TagRes (cs : List Nat) (a : Nat) (rest : Led) (v : Value) (nx : Led) : Prop :=
  ∃ (p nl el n1 n2 : Nat) (nvs evs : List Value) (ex : Led) (tk : Tok), v = .ref p ∧ NamesAre nvs (lawTag cs a).1 ∧ (∀ x ∈ (lawTag cs a).1, x < 1114112) ∧ DatAll ex evs (lawTag cs a).2.1 ∧
    (∀ y ∈ rest, @LT.lt Nat _ y.1 p ∧ @LT.lt Nat _ y.1 el ∧ @LT.lt Nat _ y.1 nl) ∧ (∀ x ∈ ex, ∀ y ∈ rest, @LT.lt Nat _ y.1 x.1) ∧
    nx = (p, tup [.ref nl, .ref el, .int ((lawTag cs a).2.2 : Nat) tk]) :: (el, listOf evs.toArray n2) :: (nl, listOf nvs.toArray n1) :: (ex ++ rest)
theorem tag_fin {h₀ h : Heap} {L : Addr} {nx0 ex rest : Led} {a b c : Addr × Obj} (N : News h₀ L h nx0) (ha : a ∈ nx0) (hb : b ∈ nx0) (hc : c ∈ nx0) (hx : ∀ x ∈ ex, x ∈ nx0) (hr : ∀ x ∈ rest, x ∈ nx0) : News h₀ L h (a :: b :: c :: (ex ++ rest)) := by
  intro p hp
  apply N
  simp only [List.mem_cons, List.mem_append] at hp
  rcases hp with rfl | rfl | rfl | h | h
  · exact ha
  · exact hb
  · exact hc
  · exact hx p h
  · exact hr p h
theorem tail_of {a : Nat} {cs names : List Nat} {es : List Dat} {p : Nat} (htag : tagL [] a (cs.drop a) = ((tagL names p (cs.drop p)).1, es ++ (tagL names p (cs.drop p)).2.1, (tagL names p (cs.drop p)).2.2)) (h : tagL names p (cs.drop p) = (names, [], p)) : tagL [] a (cs.drop a) = (names, es, p) := by
  rw [htag, h, List.append_nil]
theorem slash_sg {cs : List Nat} {p c : Nat} (h : cs[p - 1]? = some c) : slash cs p = (sg c == Str.ofString "/") := by
  have e : Str.ofString "/" = sg 47 := by decide +kernel
  unfold slash
  rw [h, e, Bool.eq_iff_iff]
  simp [sg]
theorem add_lists9 {prog : Program} {w : World} {A : Around} {E : Value → Shared → Prop} {s : Shared} {h₀ : Heap} {L l b : Addr} {m : PySem.Str → Option Value} {news : Led} {vs ws : List Value} {n1 n2 : Nat} {Q : Value → Shared → Prop} (F : Fr h₀ L s.heap m) (N : News h₀ L s.heap news)
    (hl : (l, listOf vs.toArray n1) ∈ news) (hb : (b, listOf ws.toArray n2) ∈ news) (hsz : vs.length + ws.length ≤ 10000)
    (h : ∀ D h', Fr h₀ L h' m → News h₀ L h' ((D, listOf (vs ++ ws).toArray 0) :: news) → (∀ p ∈ news, p.1 < D) → Q (.ref D) { s with heap := h' }) : wpAny (model prog w) A (binaryOp .Add (.ref l) (.ref b)) Q E s := by
  exact add_lists (hsz := by rw [sizeLine_eq]; omega) F N (News.isList N hl) (News.isList N hb) fun h' F' N' => h _ h' F' N' fun p hp => Heap.lt_size (N p hp).1
set_option hygiene false
local macro_rules | `(tactic| walk_at "binaryOp Add ref ref") => `(tactic| refine hold_out ?_)
set_option hygiene true
set_option maxHeartbeats 2000000
section
variable (w : World) (rest : Led)
theorem tag_spec (cs : List Nat) (ct : Tok) (a : Nat) (at_ : Tok) (hc : cs.length ≤ 40) (hcb : ∀ c ∈ cs, c < 1114112) (ha : a ≤ cs.length) (h1 : 1 ≤ a) :
    Spec w 529 [.str (tx cs) ct, .int a at_] 30 100 rest (TagRes cs a rest) := by
  have C : True := trivial
  (k_dflt (refine' spec_def ?ho ?hcd ?hb ?hs ?_; (case ho => k_is); (case hcd => k_is); (case hb => exact fun _ => BindsTo.of_eq rfl); (case hs => exact rfl); k_whole); intro meanZ9 mgZ9 mbZ9 AZ9 A₀Z9 outerZ9 baseZ9 gZ9 LZ9 sZ9 qZ9 F'Z9 N'Z9 B'Z9 X'Z9 T'Z9 hhZ9 hAZ9 hdZ9 huZ9 hretZ9; (try dsimp only); (try simp only [List.cons_append, List.nil_append, List.append_assoc] at N'Z9))
  (k_steps; repeat' ((refine hold_in ?_); (first | ((with_reducible show wpAny _ _ (compareOp _ _ _) _ _ _); ((k_dflt (refine' in_list_strs (by exact News.isList (by k_asm) (by k_dflt k_mem)) (by (with_reducible rename StrsAre _ _ => hSA); exact hSA) ?_)))) | ((with_reducible show wpAny _ _ (compareOp _ _ _) _ _ _); ((k_dflt (refine' ne_nil (by k_asm) (by k_mem) (by k_mem) (by (with_reducible rename StrsAre _ _ => hSA); exact hSA) (by assumption) (by ktr_units) ?_)))) | ((with_reducible show wpAny _ _ (binaryOp _ _ _) _ _ _); ((k_dflt (refine' add_lists9 (by k_asm) (by k_asm) (by k_mem) (by k_mem) (by simp only [List.length_cons, List.length_nil]; omega) ?_); intro _ _ _ _ lx7; (try k_lt lx7); (try k_sweep))))); k_steps))
  refine hold_in ?_
  (with_reducible rename Fr _ _ _ _ => F9)
  (with_reducible rename News _ _ _ _ => N9)
  refine whl_start 0 ?_
  refine loop_whileV (Str.ofString "at") (.int a at_) (TagJ cs a rest _ _) ?hE (cs.length - a) F9 ?hm N9 (tagJ0 cs a rest _ _ at_ ha) ?_
  case hE => first | passes_own | with_unfolding_all passes_own
  case hm => rfl
  rintro n v nx h tk ⟨names, es, p, nvs, evs, n1, n2, ex, ptk, rfl, hp, hap, rfl, hnp, hnb, hnv, hev, hel, hex, htag, rfl⟩ F8 N8
  clear F9 N9
  (with_reducible rename (∀ (p : Addr × Obj), p ∈ rest → p.fst < _) => lr)
  (with_reducible rename (_ ∧ AllLt _ _) => l1)
  have q1 : ∀ x ∈ ex, x.1 ≠ _ := fun x hx => Nat.ne_of_gt (hex x hx)
  have q2 : ∀ x ∈ rest, x.1 ≠ _ := fun x hx => Nat.ne_of_lt (lr x hx)
  have q3 : ∀ x ∈ rest, x.1 ≠ _ := allLt_off l1.2
  have q4 : ∀ x ∈ ex, x.1 ≠ _ := fun x hx => Nat.ne_of_gt (Nat.lt_trans l1.1 (hex x hx))
  have q5 : nvs.length ≤ 1000 := by have := (strs_dat (news := []) hnv).length; simp at this; omega
  have q6 : evs.length ≤ 1000 := by omega
  have hSA : StrsAre nvs (names.map fun c => sg c) := hnv
  rcases hcp : cs[p]? with _ | c
  · have hpe : p = cs.length := by have := List.getElem?_eq_none_iff.mp hcp; omega
    subst hpe
    have htl : tagL names cs.length (cs.drop cs.length) = (names, [], cs.length) := by rw [List.drop_length]; rfl
    have hz := tail_of htag htl
    have hlt : lawTag cs a = (names, es ++ [erD eofE cs.length], cs.length) := by unfold lawTag; rw [hz]; simp
    (k_steps; repeat' ((refine hold_in ?_); (first | ((with_reducible show wpAny _ _ (compareOp _ _ _) _ _ _); ((k_dflt (refine' in_list_strs (by exact News.isList (by k_asm) (by k_dflt k_mem)) (by (with_reducible rename StrsAre _ _ => hSA); exact hSA) ?_)))) | ((with_reducible show wpAny _ _ (compareOp _ _ _) _ _ _); ((k_dflt (refine' ne_nil (by k_asm) (by k_mem) (by k_mem) (by (with_reducible rename StrsAre _ _ => hSA); exact hSA) (by assumption) (by ktr_units) ?_)))) | ((with_reducible show wpAny _ _ (binaryOp _ _ _) _ _ _); ((k_dflt (refine' add_lists9 (by k_asm) (by k_asm) (by k_mem) (by k_mem) (by simp only [List.length_cons, List.length_nil]; omega) ?_); intro _ _ _ _ lx7; (try k_lt lx7); (try k_sweep))))); k_steps))
    all_goals first | exact absurd rfl (by assumption) | skip
    (with_reducible rename Fr _ _ _ _ => F7)
    (with_reducible rename News _ _ _ _ => N7)
    (with_reducible rename RetE _ _ _ _ => hret)
    first | refine fin_ret hret F7 (by rw [hlt]; exact tag_fin N7 (.head _) (.tail _ (.head _)) (by k_mem) (List.forall_mem_cons.mpr ⟨by k_mem, fun x hx => by (repeat (first | exact List.mem_append.mpr (.inl (by assumption)) | exact List.mem_append.mpr (.inr (by assumption)) | apply List.Mem.tail))⟩) (fun x hx => by (repeat (first | exact List.mem_append.mpr (.inl (by assumption)) | exact List.mem_append.mpr (.inr (by assumption)) | apply List.Mem.tail)))) rfl ⟨_, _, _, n1, _, nvs, evs ++ [Value.ref _], (_, tup [Value.str eofE _, Value.int (cs.length : Int) _]) :: ex, _, rfl, by rw [hlt]; exact hnv, by rw [hlt]; exact hnb, ?dat, ?f1, ?f2, rfl⟩ | refine fin_next hret F7 (by rw [hlt]; exact tag_fin N7 (.head _) (.tail _ (.head _)) (by k_mem) (List.forall_mem_cons.mpr ⟨by k_mem, fun x hx => by (repeat (first | exact List.mem_append.mpr (.inl (by assumption)) | exact List.mem_append.mpr (.inr (by assumption)) | apply List.Mem.tail))⟩) (fun x hx => by (repeat (first | exact List.mem_append.mpr (.inl (by assumption)) | exact List.mem_append.mpr (.inr (by assumption)) | apply List.Mem.tail)))) rfl ⟨_, _, _, n1, _, nvs, evs ++ [Value.ref _], (_, tup [Value.str eofE _, Value.int (cs.length : Int) _]) :: ex, _, rfl, by rw [hlt]; exact hnv, by rw [hlt]; exact hnb, ?dat, ?f1, ?f2, rfl⟩
    case dat => (rw [hlt]; exact (hev.mono fun _ hp => .tail _ hp).append (.one (.tuple (n := 0) (.head _) (.cons (.str _ _) (.cons (.int _ _) .nil)))))
    case f1 => (intro y hy; (with_reducible rename (∀ (p : Addr × Obj), p ∈ _ → p.fst < _) => lr9); (have hy9 := ltN (lr9 y hy)); refine ⟨?_, ?_, ?_⟩ <;> omega)
    case f2 => exact List.forall_mem_cons.mpr ⟨fun y hy => by ((with_reducible rename (∀ (p : Addr × Obj), p ∈ _ → p.fst < _) => lr9); (have hy9 := ltN (lr9 _ (by assumption))); dsimp only; omega), fun x hx y hy => by ((with_reducible rename (∀ (p : Addr × Obj), p ∈ _ → p.fst < _) => lr9); (with_reducible rename (∀ x ∈ _, @LT.lt Nat _ _ _) => hx9); (have hy9 := ltN (lr9 _ (by assumption))); (have hz9 := hx9 _ (by assumption)); omega)⟩
  · have hlt := (List.getElem?_eq_some_iff.mp hcp).1
    have hcm : c ∈ cs := List.mem_of_getElem? hcp
    have hx : cs[((p : Nat) : Int).toNat]? = some c := by rw [Int.toNat_natCast]; exact hcp
    have hp0 : (0 : Int) ≤ (p : Int) := by omega
    have hp1 : (p : Int) < (cs.length : Int) := by omega
    have hst := blank5_any c
    have hts := tagL_step hcp names
    by_cases c62 : c = 62
    · subst c62
      have b4n : (sg 62 != Str.ofString ">") = false := by decide +kernel
      have hpne : ¬ ((p : Int) = (cs.length : Int)) := by omega
      obtain ⟨c2, hc2⟩ : ∃ c2, cs[p - 1]? = some c2 := ⟨_, List.getElem?_eq_getElem (by omega)⟩
      have hx2 : cs[((p : Nat) : Int).toNat - 1]? = some c2 := by rw [Int.toNat_natCast]; exact hc2
      have hx3 : cs[((p : Int) - 1).toNat]? = some c2 := by rw [← hc2]; congr 1; omega
      have hp2 : (0 : Int) ≤ (p : Int) - 1 := by omega
      have hp3 : (p : Int) - 1 < (cs.length : Int) := by omega
      have hsl := slash_sg hc2
      have htl : tagL names p (cs.drop p) = (names, [], p) := by rw [hts, if_pos rfl]
      have hz := tail_of htag htl
      have hpne2 : p ≠ cs.length := by omega
      have hlt2 : lawTag cs a = (names, es ++ (if names = [] then [] else [erD attrE p]) ++ (if slash cs p then [erD solE p] else []), p) := by unfold lawTag; rw [hz]; exact if_neg hpne2
      (k_steps; repeat' ((refine hold_in ?_); (first | ((with_reducible show wpAny _ _ (compareOp _ _ _) _ _ _); ((k_dflt (refine' in_list_strs (by exact News.isList (by k_asm) (by k_dflt k_mem)) (by (with_reducible rename StrsAre _ _ => hSA); exact hSA) ?_)))) | ((with_reducible show wpAny _ _ (compareOp _ _ _) _ _ _); ((k_dflt (refine' ne_nil (by k_asm) (by k_mem) (by k_mem) (by (with_reducible rename StrsAre _ _ => hSA); exact hSA) (by assumption) (by ktr_units) ?_)))) | ((with_reducible show wpAny _ _ (binaryOp _ _ _) _ _ _); ((k_dflt (refine' add_lists9 (by k_asm) (by k_asm) (by k_mem) (by k_mem) (by simp only [List.length_cons, List.length_nil]; omega) ?_); intro _ _ _ _ lx7; (try k_lt lx7); (try k_sweep))))); k_steps))
      all_goals first | exact absurd (by assumption) hpne | skip
      all_goals
        (with_reducible rename Fr _ _ _ _ => F7)
        (with_reducible rename News _ _ _ _ => N7)
        (with_reducible rename RetE _ _ _ _ => hret)
        (with_reducible rename (_ == Str.ofString "/") = _ => hsc)
        rw [hsl, hsc] at hlt2
      · rw [if_pos (by assumption), if_pos rfl, List.append_nil] at hlt2
        first | refine fin_ret hret F7 (by rw [hlt2]; exact tag_fin N7 (.head _) (by k_mem) (by k_mem) (List.forall_mem_cons.mpr ⟨by k_mem, fun x hx => by (repeat (first | exact List.mem_append.mpr (.inl (by assumption)) | exact List.mem_append.mpr (.inr (by assumption)) | apply List.Mem.tail))⟩) (fun x hx => by (repeat (first | exact List.mem_append.mpr (.inl (by assumption)) | exact List.mem_append.mpr (.inr (by assumption)) | apply List.Mem.tail)))) rfl ⟨_, _, _, n1, _, nvs, evs ++ [Value.ref _], (_, tup [Value.str solE _, Value.int (p : Int) _]) :: ex, _, rfl, by rw [hlt2]; exact hnv, by rw [hlt2]; exact hnb, ?dat, ?f1, ?f2, rfl⟩ | refine fin_next hret F7 (by rw [hlt2]; exact tag_fin N7 (.head _) (by k_mem) (by k_mem) (List.forall_mem_cons.mpr ⟨by k_mem, fun x hx => by (repeat (first | exact List.mem_append.mpr (.inl (by assumption)) | exact List.mem_append.mpr (.inr (by assumption)) | apply List.Mem.tail))⟩) (fun x hx => by (repeat (first | exact List.mem_append.mpr (.inl (by assumption)) | exact List.mem_append.mpr (.inr (by assumption)) | apply List.Mem.tail)))) rfl ⟨_, _, _, n1, _, nvs, evs ++ [Value.ref _], (_, tup [Value.str solE _, Value.int (p : Int) _]) :: ex, _, rfl, by rw [hlt2]; exact hnv, by rw [hlt2]; exact hnb, ?dat, ?f1, ?f2, rfl⟩
        case dat => (rw [hlt2]; exact (hev.mono fun _ hp => .tail _ hp).append (.one (.tuple (n := 0) (.head _) (.cons (.str _ _) (.cons (.int _ _) .nil)))))
        case f1 => (intro y hy; (with_reducible rename (∀ (p : Addr × Obj), p ∈ _ → p.fst < _) => lr9); (have hy9 := ltN (lr9 y hy)); refine ⟨?_, ?_, ?_⟩ <;> omega)
        case f2 => exact List.forall_mem_cons.mpr ⟨fun y hy => by ((with_reducible rename (∀ (p : Addr × Obj), p ∈ _ → p.fst < _) => lr9); (have hy9 := ltN (lr9 _ (by assumption))); dsimp only; omega), fun x hx y hy => by ((with_reducible rename (∀ (p : Addr × Obj), p ∈ _ → p.fst < _) => lr9); (with_reducible rename (∀ x ∈ _, @LT.lt Nat _ _ _) => hx9); (have hy9 := ltN (lr9 _ (by assumption))); (have hz9 := hx9 _ (by assumption)); omega)⟩
      · rw [if_pos (by assumption), if_neg (by decide), List.append_nil, List.append_nil] at hlt2
        first | refine fin_ret hret F7 (by rw [hlt2]; exact tag_fin N7 (.head _) (by k_mem) (by k_mem) (fun x hx => by (repeat (first | exact List.mem_append.mpr (.inl (by assumption)) | exact List.mem_append.mpr (.inr (by assumption)) | apply List.Mem.tail))) (fun x hx => by (repeat (first | exact List.mem_append.mpr (.inl (by assumption)) | exact List.mem_append.mpr (.inr (by assumption)) | apply List.Mem.tail)))) rfl ⟨_, _, _, n1, n2, nvs, evs, ex, _, rfl, by rw [hlt2]; exact hnv, by rw [hlt2]; exact hnb, ?dat, ?f1, ?f2, rfl⟩ | refine fin_next hret F7 (by rw [hlt2]; exact tag_fin N7 (.head _) (by k_mem) (by k_mem) (fun x hx => by (repeat (first | exact List.mem_append.mpr (.inl (by assumption)) | exact List.mem_append.mpr (.inr (by assumption)) | apply List.Mem.tail))) (fun x hx => by (repeat (first | exact List.mem_append.mpr (.inl (by assumption)) | exact List.mem_append.mpr (.inr (by assumption)) | apply List.Mem.tail)))) rfl ⟨_, _, _, n1, n2, nvs, evs, ex, _, rfl, by rw [hlt2]; exact hnv, by rw [hlt2]; exact hnb, ?dat, ?f1, ?f2, rfl⟩
        case dat => (rw [hlt2]; exact hev)
        case f1 => (intro y hy; (with_reducible rename (∀ (p : Addr × Obj), p ∈ _ → p.fst < _) => lr9); (have hy9 := ltN (lr9 y hy)); refine ⟨?_, ?_, ?_⟩ <;> omega)
        case f2 => exact fun x hx y hy => by ((with_reducible rename (∀ (p : Addr × Obj), p ∈ _ → p.fst < _) => lr9); (with_reducible rename (∀ x ∈ _, @LT.lt Nat _ _ _) => hx9); (have hy9 := ltN (lr9 _ (by assumption))); (have hz9 := hx9 _ (by assumption)); omega)
      · rw [if_neg (by assumption), if_pos rfl] at hlt2
        first | refine fin_ret hret F7 (by rw [hlt2]; exact tag_fin N7 (.head _) (by k_mem) (by k_mem) (List.forall_mem_cons.mpr ⟨by k_mem, List.forall_mem_cons.mpr ⟨by k_mem, fun x hx => by (repeat (first | exact List.mem_append.mpr (.inl (by assumption)) | exact List.mem_append.mpr (.inr (by assumption)) | apply List.Mem.tail))⟩⟩) (fun x hx => by (repeat (first | exact List.mem_append.mpr (.inl (by assumption)) | exact List.mem_append.mpr (.inr (by assumption)) | apply List.Mem.tail)))) rfl ⟨_, _, _, n1, _, nvs, evs ++ [Value.ref _] ++ [Value.ref _], (_, tup [Value.str solE _, Value.int (p : Int) _]) :: (_, tup [Value.str attrE _, Value.int (p : Int) _]) :: ex, _, rfl, by rw [hlt2]; exact hnv, by rw [hlt2]; exact hnb, ?dat, ?f1, ?f2, rfl⟩ | refine fin_next hret F7 (by rw [hlt2]; exact tag_fin N7 (.head _) (by k_mem) (by k_mem) (List.forall_mem_cons.mpr ⟨by k_mem, List.forall_mem_cons.mpr ⟨by k_mem, fun x hx => by (repeat (first | exact List.mem_append.mpr (.inl (by assumption)) | exact List.mem_append.mpr (.inr (by assumption)) | apply List.Mem.tail))⟩⟩) (fun x hx => by (repeat (first | exact List.mem_append.mpr (.inl (by assumption)) | exact List.mem_append.mpr (.inr (by assumption)) | apply List.Mem.tail)))) rfl ⟨_, _, _, n1, _, nvs, evs ++ [Value.ref _] ++ [Value.ref _], (_, tup [Value.str solE _, Value.int (p : Int) _]) :: (_, tup [Value.str attrE _, Value.int (p : Int) _]) :: ex, _, rfl, by rw [hlt2]; exact hnv, by rw [hlt2]; exact hnb, ?dat, ?f1, ?f2, rfl⟩
        case dat => (rw [hlt2]; exact ((hev.mono fun _ hp => .tail _ (.tail _ hp)).append (.one (.tuple (n := 0) (.tail _ (.head _)) (.cons (.str _ _) (.cons (.int _ _) .nil))))).append (.one (.tuple (n := 0) (.head _) (.cons (.str _ _) (.cons (.int _ _) .nil)))))
        case f1 => (intro y hy; (with_reducible rename (∀ (p : Addr × Obj), p ∈ _ → p.fst < _) => lr9); (have hy9 := ltN (lr9 y hy)); refine ⟨?_, ?_, ?_⟩ <;> omega)
        case f2 => exact List.forall_mem_cons.mpr ⟨fun y hy => by ((with_reducible rename (∀ (p : Addr × Obj), p ∈ _ → p.fst < _) => lr9); (have hy9 := ltN (lr9 _ (by assumption))); dsimp only; omega), List.forall_mem_cons.mpr ⟨fun y hy => by ((with_reducible rename (∀ (p : Addr × Obj), p ∈ _ → p.fst < _) => lr9); (have hy9 := ltN (lr9 _ (by assumption))); dsimp only; omega), fun x hx y hy => by ((with_reducible rename (∀ (p : Addr × Obj), p ∈ _ → p.fst < _) => lr9); (with_reducible rename (∀ x ∈ _, @LT.lt Nat _ _ _) => hx9); (have hy9 := ltN (lr9 _ (by assumption))); (have hz9 := hx9 _ (by assumption)); omega)⟩⟩
      · rw [if_neg (by assumption), if_neg (by decide), List.append_nil] at hlt2
        first | refine fin_ret hret F7 (by rw [hlt2]; exact tag_fin N7 (.head _) (by k_mem) (by k_mem) (List.forall_mem_cons.mpr ⟨by k_mem, fun x hx => by (repeat (first | exact List.mem_append.mpr (.inl (by assumption)) | exact List.mem_append.mpr (.inr (by assumption)) | apply List.Mem.tail))⟩) (fun x hx => by (repeat (first | exact List.mem_append.mpr (.inl (by assumption)) | exact List.mem_append.mpr (.inr (by assumption)) | apply List.Mem.tail)))) rfl ⟨_, _, _, n1, _, nvs, evs ++ [Value.ref _], (_, tup [Value.str attrE _, Value.int (p : Int) _]) :: ex, _, rfl, by rw [hlt2]; exact hnv, by rw [hlt2]; exact hnb, ?dat, ?f1, ?f2, rfl⟩ | refine fin_next hret F7 (by rw [hlt2]; exact tag_fin N7 (.head _) (by k_mem) (by k_mem) (List.forall_mem_cons.mpr ⟨by k_mem, fun x hx => by (repeat (first | exact List.mem_append.mpr (.inl (by assumption)) | exact List.mem_append.mpr (.inr (by assumption)) | apply List.Mem.tail))⟩) (fun x hx => by (repeat (first | exact List.mem_append.mpr (.inl (by assumption)) | exact List.mem_append.mpr (.inr (by assumption)) | apply List.Mem.tail)))) rfl ⟨_, _, _, n1, _, nvs, evs ++ [Value.ref _], (_, tup [Value.str attrE _, Value.int (p : Int) _]) :: ex, _, rfl, by rw [hlt2]; exact hnv, by rw [hlt2]; exact hnb, ?dat, ?f1, ?f2, rfl⟩
        case dat => (rw [hlt2]; exact (hev.mono fun _ hp => .tail _ hp).append (.one (.tuple (n := 0) (.head _) (.cons (.str _ _) (.cons (.int _ _) .nil)))))
        case f1 => (intro y hy; (with_reducible rename (∀ (p : Addr × Obj), p ∈ _ → p.fst < _) => lr9); (have hy9 := ltN (lr9 y hy)); refine ⟨?_, ?_, ?_⟩ <;> omega)
        case f2 => exact List.forall_mem_cons.mpr ⟨fun y hy => by ((with_reducible rename (∀ (p : Addr × Obj), p ∈ _ → p.fst < _) => lr9); (have hy9 := ltN (lr9 _ (by assumption))); dsimp only; omega), fun x hx y hy => by ((with_reducible rename (∀ (p : Addr × Obj), p ∈ _ → p.fst < _) => lr9); (with_reducible rename (∀ x ∈ _, @LT.lt Nat _ _ _) => hx9); (have hy9 := ltN (lr9 _ (by assumption))); (have hz9 := hx9 _ (by assumption)); omega)⟩
    · have b4 : (sg c == Str.ofString ">") = false := sgne 62 (by decide +kernel) c62
      have b4n : (sg c != Str.ofString ">") = true := by simp only [bne, b4, Bool.not_false]
      rw [if_neg c62] at hts
      have hany : ((names.map fun c => sg c).any fun x => x == sg c) = names.contains c := any_sg c names
      cases hcn : names.contains c with
      | true =>
        rw [hcn] at hany
        rw [hcn, if_pos rfl] at hts
        rw [hts] at htag
        (k_steps; repeat' ((refine hold_in ?_); (first | ((with_reducible show wpAny _ _ (compareOp _ _ _) _ _ _); ((k_dflt (refine' in_list_strs (by exact News.isList (by k_asm) (by k_dflt k_mem)) (by (with_reducible rename StrsAre _ _ => hSA); exact hSA) ?_)))) | ((with_reducible show wpAny _ _ (compareOp _ _ _) _ _ _); ((k_dflt (refine' ne_nil (by k_asm) (by k_mem) (by k_mem) (by (with_reducible rename StrsAre _ _ => hSA); exact hSA) (by assumption) (by ktr_units) ?_)))) | ((with_reducible show wpAny _ _ (binaryOp _ _ _) _ _ _); ((k_dflt (refine' add_lists9 (by k_asm) (by k_asm) (by k_mem) (by k_mem) (by simp only [List.length_cons, List.length_nil]; omega) ?_); intro _ _ _ _ lx7; (try k_lt lx7); (try k_sweep))))); k_steps))
        (with_reducible rename Fr _ _ _ _ => F7)
        (with_reducible rename News _ _ _ _ => N7)
        (with_reducible rename (_ ∧ _ ∧ AllLt _ _) => l3)
        exact ⟨cs.length - (p + 1), .int ((p + 1 : Nat) : Int) _, _, _, _, _, by omega, ⟨names, es ++ [erD dupE p], p + 1, nvs, evs ++ [Value.ref _], n1, n2 + 1, (_, tup [Value.str dupE _, Value.int (p : Int) _]) :: ex, _, rfl, by omega, by omega, rfl, by omega, hnb, hnv,
          (hev.mono fun _ hp => .tail _ hp).append (.one (.tuple (n := 0) (.head _) (.cons (.str _ _) (.cons (.int _ _) .nil)))), by simp; omega, List.forall_mem_cons.mpr ⟨l3.1, hex⟩, by rw [htag, List.append_assoc]; rfl, rfl⟩, F7, at_map _ _ _, news_tg N7, rfl⟩
      | false =>
        rw [hcn] at hany
        rw [hcn, if_neg (by decide)] at hts
        cases hB : (isBlank c || c == 47) with
        | true =>
          rw [hB] at hst
          rw [hB, if_pos rfl] at hts
          rw [hts] at htag
          (k_steps; repeat' ((refine hold_in ?_); (first | ((with_reducible show wpAny _ _ (compareOp _ _ _) _ _ _); ((k_dflt (refine' in_list_strs (by exact News.isList (by k_asm) (by k_dflt k_mem)) (by (with_reducible rename StrsAre _ _ => hSA); exact hSA) ?_)))) | ((with_reducible show wpAny _ _ (compareOp _ _ _) _ _ _); ((k_dflt (refine' ne_nil (by k_asm) (by k_mem) (by k_mem) (by (with_reducible rename StrsAre _ _ => hSA); exact hSA) (by assumption) (by ktr_units) ?_)))) | ((with_reducible show wpAny _ _ (binaryOp _ _ _) _ _ _); ((k_dflt (refine' add_lists9 (by k_asm) (by k_asm) (by k_mem) (by k_mem) (by simp only [List.length_cons, List.length_nil]; omega) ?_); intro _ _ _ _ lx7; (try k_lt lx7); (try k_sweep))))); k_steps))
          (with_reducible rename Fr _ _ _ _ => F7)
          (with_reducible rename News _ _ _ _ => N7)
          exact ⟨cs.length - (p + 1), .int ((p + 1 : Nat) : Int) _, _, _, _, _, by omega, ⟨names, es, p + 1, nvs, evs, n1, n2, ex, _, rfl, by omega, by omega, rfl, by omega, hnb, hnv, hev, by omega, hex, htag, rfl⟩, F7, at_map _ _ _, news_tail N7, rfl⟩
        | false =>
          rw [hB] at hst
          rw [hB, if_neg (by decide)] at hts
          rw [hts] at htag
          (k_steps; repeat' ((refine hold_in ?_); (first | ((with_reducible show wpAny _ _ (compareOp _ _ _) _ _ _); ((k_dflt (refine' in_list_strs (by exact News.isList (by k_asm) (by k_dflt k_mem)) (by (with_reducible rename StrsAre _ _ => hSA); exact hSA) ?_)))) | ((with_reducible show wpAny _ _ (compareOp _ _ _) _ _ _); ((k_dflt (refine' ne_nil (by k_asm) (by k_mem) (by k_mem) (by (with_reducible rename StrsAre _ _ => hSA); exact hSA) (by assumption) (by ktr_units) ?_)))) | ((with_reducible show wpAny _ _ (binaryOp _ _ _) _ _ _); ((k_dflt (refine' add_lists9 (by k_asm) (by k_asm) (by k_mem) (by k_mem) (by simp only [List.length_cons, List.length_nil]; omega) ?_); intro _ _ _ _ lx7; (try k_lt lx7); (try k_sweep))))); k_steps))
          (with_reducible rename Fr _ _ _ _ => F7)
          (with_reducible rename News _ _ _ _ => N7)
          exact ⟨cs.length - (p + 1), .int ((p + 1 : Nat) : Int) _, _, _, _, _, by omega, ⟨names ++ [c], es, p + 1, nvs ++ [Value.str (sg c) _], evs, n1 + 1, n2, ex, _, rfl, by omega, by omega, rfl, by simp; omega, (fun x hx => by rcases List.mem_append.mp hx with hx | hx; exact hnb x hx; rw [List.mem_singleton.mp hx]; exact hcb c hcm),
            (by unfold NamesAre; rw [List.map_append]; exact strs_snoc hnv), hev, by omega, hex, htag, rfl⟩, F7, at_map _ _ _, news_tail N7, rfl⟩
end
end
section
open PySem PySem.W PyProof.Rows PyProof.V PySem.Spec PySem.Calls
theorem fr_ite {h₀ h : Heap} {L : Addr} {m m' : PySem.Str → Option Value} (F : Fr h₀ L h m) (e : ∀ y, m y = m' y) : Fr h₀ L h m' := fr_map F e
/-- all names but those that the reading's loop stores -/
noncomputable def RdKeep (m₀ m : PySem.Str → Option Value) : Prop :=
  ∀ z, z ≠ Str.ofString "errors" → z ≠ Str.ofString "at" → z ≠ Str.ofString "last" → z ≠ Str.ofString "kind" → z ≠ Str.ofString "name" → z ≠ Str.ofString "end" → z ≠ Str.ofString "place" → z ≠ Str.ofString "names" → z ≠ Str.ofString "more" → m z = m₀ z
theorem rd_fr {h₀ h : Heap} {L : Addr} {m₀ m : PySem.Str → Option Value} {ve va vl : Value} (F : Fr h₀ L h m) (k : RdKeep m₀ m) (he : m (Str.ofString "errors") = some ve) (ha : m (Str.ofString "at") = some va) (hl : m (Str.ofString "last") = some vl) :
    Fr h₀ L h (fun y => if y = Str.ofString "errors" then some ve else if y = Str.ofString "at" then some va else if y = Str.ofString "last" then some vl else if y = Str.ofString "kind" then m y else if y = Str.ofString "name" then m y else if y = Str.ofString "end" then m y else if y = Str.ofString "place" then m y else if y = Str.ofString "names" then m y else if y = Str.ofString "more" then m y else m₀ y) := by
  refine fr_map F fun y => ?_
  by_cases q1 : y = Str.ofString "errors"
  · rw [if_pos q1, q1, he]
  rw [if_neg q1]
  by_cases q2 : y = Str.ofString "at"
  · rw [if_pos q2, q2, ha]
  rw [if_neg q2]
  by_cases q3 : y = Str.ofString "last"
  · rw [if_pos q3, q3, hl]
  rw [if_neg q3]
  by_cases q4 : y = Str.ofString "kind"
  · rw [if_pos q4]
  rw [if_neg q4]
  by_cases q5 : y = Str.ofString "name"
  · rw [if_pos q5]
  rw [if_neg q5]
  by_cases q6 : y = Str.ofString "end"
  · rw [if_pos q6]
  rw [if_neg q6]
  by_cases q7 : y = Str.ofString "place"
  · rw [if_pos q7]
  rw [if_neg q7]
  by_cases q8 : y = Str.ofString "names"
  · rw [if_pos q8]
  rw [if_neg q8]
  by_cases q9 : y = Str.ofString "more"
  · rw [if_pos q9]
  rw [if_neg q9]
  exact k y q1 q2 q3 q4 q5 q6 q7 q8 q9
theorem tailHit_len : ∀ (name r : List Nat), tailHit name r = true → name.length < r.length
  | [], [], h => by cases h
  | [], _ :: _, _ => Nat.succ_pos _
  | _ :: _, [], h => by cases h
  | _ :: ns, _ :: r, h => by
    unfold tailHit at h
    rw [Bool.and_eq_true] at h
    exact Nat.succ_lt_succ (tailHit_len ns r h.2)
theorem end_room {cs name : List Nat} {p : Nat} (hp : p ≤ cs.length) (h : p + endL name (cs.drop p) ≠ cs.length) : p + endL name (cs.drop p) + 2 + name.length < cs.length := by
  have h1 := endL_le name (cs.drop p)
  rw [List.length_drop] at h1
  have h2 := endL_hit name (cs.drop p) (by rw [List.length_drop]; omega)
  rw [List.drop_drop] at h2
  obtain ⟨r, hr, ht⟩ := hit_split h2
  have h3 := tailHit_len name r ht
  have h4 := congrArg List.length hr
  rw [List.length_drop, List.length_cons, List.length_cons] at h4
  omega
theorem end_le {cs name : List Nat} {p : Nat} (hp : p ≤ cs.length) : p + endL name (cs.drop p) ≤ cs.length := by
  have h1 := endL_le name (cs.drop p)
  rw [List.length_drop] at h1
  omega
theorem tagL_le (l names : List Nat) (p : Nat) : (tagL names p l).2.2 ≤ p + l.length := by
  rcases tagL_pos l names p with h | ⟨i, h1, h2, h3⟩ <;> omega
theorem tagL_ge (l names : List Nat) (p : Nat) : p ≤ (tagL names p l).2.2 := by
  rcases tagL_pos l names p with h | ⟨i, h1, h2, h3⟩ <;> omega
theorem tagL_lens : ∀ (l names : List Nat) (p : Nat), (tagL names p l).2.1.length ≤ l.length ∧ (tagL names p l).1.length ≤ names.length + l.length
  | [], _, _ => ⟨Nat.le_refl _, Nat.le_refl _⟩
  | c :: r, names, p => by
    unfold tagL
    have i1 := tagL_lens r names (p + 1)
    have i2 := tagL_lens r (names ++ [c]) (p + 1)
    rw [List.length_append, List.length_singleton] at i2
    split
    · exact ⟨Nat.zero_le _, Nat.le_add_right _ _⟩
    · split
      · simp only [List.length_cons]; omega
      · split
        · simp only [List.length_cons]; omega
        · simp only [List.length_cons]; omega
theorem lawTag_le {cs : List Nat} {a : Nat} (ha : a ≤ cs.length) : (lawTag cs a).2.2 ≤ cs.length ∧ a ≤ (lawTag cs a).2.2 ∧ (lawTag cs a).2.1.length ≤ cs.length + 3 ∧ (lawTag cs a).1.length ≤ cs.length := by
  obtain ⟨u1, u2⟩ := lawTag_names (cs := cs) a
  have h1 := tagL_le (cs.drop a) [] a
  have h2 := tagL_ge (cs.drop a) [] a
  have h3 := tagL_lens (cs.drop a) [] a
  rw [List.length_drop] at h1 h3
  refine ⟨by rw [u2]; omega, by rw [u2]; exact h2, ?_, by rw [u1]; have := h3.2; simp only [List.length_nil] at this; omega⟩
  unfold lawTag
  split
  · simp only [List.length_append, List.length_cons, List.length_nil]; omega
  · simp only [List.length_append]
    have e1 : (if (tagL [] a (cs.drop a)).1 = [] then ([] : List Dat) else [erD attrE (tagL [] a (cs.drop a)).2.2]).length ≤ 1 := by split <;> simp
    have e2 : (if slash cs (tagL [] a (cs.drop a)).2.2 = true then [erD solE (tagL [] a (cs.drop a)).2.2] else ([] : List Dat)).length ≤ 1 := by split <;> simp
    omega
theorem item_txlast {l : List Nat} {c : Nat} (hx : l[l.length - 1]? = some c) : PySem.Txt.item (tx l) (-1) = sg c := by
  have hl : 0 < l.length := by
    cases l with
    | nil => simp at hx
    | cons _ _ => exact Nat.succ_pos _
  have hs : (tx l).length = l.length := by show l.toArray.size = _; exact List.size_toArray
  have e : PySem.Txt.charAt (tx l) (-1) = some c := by
    unfold PySem.Txt.charAt seqIndex?
    rw [hs]
    have hk : (-1 : Int) < 0 := by decide
    simp only [hk, if_true]
    rw [if_pos (by simp; omega)]
    have e2 : ((-1 : Int) + (l.length : Int)).toNat = l.length - 1 := by omega
    simpa [e2] using hx
  unfold PySem.Txt.item
  rw [e]
  rfl
theorem sub_last {prog : Program} {w : World} {A : Around} {E : Value → Shared → Prop} {s : Shared} {value slice : PySem.Expr} {l : List Nat} {t u : Tok} {c : Nat} {Q : Value → Shared → Prop} (hl : l.length ≤ 1000) (hx : l[l.length - 1]? = some c)
    (hs : subscripted slice false (.str (tx l) t) (.int (-1) u) = operate [.str (tx l) t, .int (-1) u] (getItem (.str (tx l) t) (.int (-1) u))) (ht : ∀ r, letTemporaryGo value (.str (tx l) t) r = pure ())
    (h : ∀ t' tk, Q (.str (sg c) t') { s with toks := tk }) : wpAny (model prog w) A (subscriptTail value slice (.str (tx l) t) (.int (-1) u)) Q E s := by
  have hsz : (tx l).length = l.length := by show l.toArray.size = _; exact List.size_toArray
  have hl0 : 0 < l.length := by
    cases l with
    | nil => simp at hx
    | cons _ _ => exact Nat.succ_pos _
  refine item_str (by unfold fitsSsize; simp) (by rw [hsz]; omega) (by rw [hsz]; omega) (fun _ => ?_) hs ht
  rw [item_txlast hx]
  exact h _ _
/-- the reading, so far -/
noncomputable def RdJ (cs : List Nat) (els : List (Kd × List Nat)) (rest : Led) (ol : Nat) (m₀ : PySem.Str → Option Value) (i : Nat) (m : PySem.Str → Option Value) (nx : Led) : Prop :=
  ∃ (el on en : Nat) (outs ers : List Value) (ex : Led) (p : Nat) (last : List Nat) (oD eD : List Dat) (ptk ltk : Tok),
    RdKeep m₀ m ∧ m (Str.ofString "errors") = some (.ref el) ∧ m (Str.ofString "at") = some (.int (p : Nat) ptk) ∧ m (Str.ofString "last") = some (.str (tx last) ltk) ∧
    p ≤ cs.length ∧ outs.length ≤ 200 * i ∧ ers.length ≤ 200 * i ∧ DatAll ex outs oD ∧ DatAll ex ers eD ∧ (∀ x ∈ ex, @LT.lt Nat _ ol x.1 ∧ @Ne Nat x.1 el) ∧ @LT.lt Nat _ ol el ∧
    readL cs (els.drop i) oD eD p last = readL cs els [] [] 0 [] ∧ nx = (el, listOf ers.toArray en) :: (ol, listOf outs.toArray on) :: (ex ++ rest)
/-- the content of an element, so far -/
noncomputable def RdC (cs : List Nat) (rest own : Led) (ol el p a b : Nat) (oD eD : List Dat) (i : Nat) (nx : Led) : Prop :=
  ∃ (on en : Nat) (outs ers : List Value) (ex : Led), outs.length ≤ a + i ∧ ers.length ≤ b + i ∧ DatAll ex outs (oD ++ ((cs.drop p).take i).map chN) ∧ DatAll ex ers (eD ++ nulls p ((cs.drop p).take i)) ∧
    (∀ x ∈ ex, @LT.lt Nat _ ol x.1 ∧ @Ne Nat x.1 el) ∧ (∀ x ∈ ex, ∀ y ∈ own, @Ne Nat y.1 x.1) ∧ nx = (el, listOf ers.toArray en) :: (ol, listOf outs.toArray on) :: (ex ++ (rest ++ own))
theorem take_chN {cs : List Nat} {p i c : Nat} (h : cs[p + i]? = some c) : ((cs.drop p).take (i + 1)).map chN = ((cs.drop p).take i).map chN ++ [chN c] := by
  have e : (cs.drop p)[i]? = some c := by rw [List.getElem?_drop]; exact h
  rw [List.take_add_one, e]
  simp
theorem take_nulls {cs : List Nat} {p i c : Nat} (h : cs[p + i]? = some c) : nulls p ((cs.drop p).take (i + 1)) = nulls p ((cs.drop p).take i) ++ (if c = 0 then [erD nullE (p + i)] else []) := by
  have e : (cs.drop p)[i]? = some c := by rw [List.getElem?_drop]; exact h
  have hi : i < (cs.drop p).length := (List.getElem?_eq_some_iff.mp e).1
  rw [List.take_add_one, e, nulls_app, List.length_take, Nat.min_eq_left (Nat.le_of_lt hi)]
  simp [nulls]
end
section
open PySem PySem.W PyProof.Rows PyProof.V PySem.Spec PySem.Calls
theorem rdJ0 {cs : List Nat} {els : List (Kd × List Nat)} {rest : Led} {ol el : Nat} {m₀ : PySem.Str → Option Value} (he : m₀ (Str.ofString "errors") = some (.ref el)) (ha : ∃ ptk, m₀ (Str.ofString "at") = some (.int 0 ptk)) (hl : ∃ ltk, m₀ (Str.ofString "last") = some (.str (Str.ofString "") ltk)) (hlt : @LT.lt Nat _ ol el) :
    RdJ cs els rest ol m₀ 0 m₀ ((el, listOf #[] 0) :: (ol, listOf #[] 0) :: rest) :=
  have ⟨ptk, ha⟩ := ha
  have ⟨ltk, hl⟩ := hl
  ⟨el, 0, 0, [], [], [], 0, [], [], [], ptk, ltk, fun _ _ _ _ _ _ _ _ _ _ => rfl, he, ha, hl.trans (by rw [show Str.ofString "" = tx [] by decide +kernel]), Nat.zero_le _, Nat.le_refl _, Nat.le_refl _, .nil, .nil, (fun _ h => nomatch h), hlt, rfl, rfl⟩
theorem news_rd0 {h₀ h : Heap} {L : Addr} {d1 d2 q e o : Addr × Obj} {ex r : Led} (N : News h₀ L h (d1 :: d2 :: q :: e :: o :: (ex ++ r))) : News h₀ L h (e :: o :: ((d1 :: d2 :: ex) ++ r)) := by
  intro p hp
  apply N
  simp only [List.mem_cons, List.mem_append, List.cons_append] at hp ⊢
  rcases hp with h | h | h | h | h | h <;> simp [h]
theorem rdC0 {cs nm : List Nat} {rest own ex : Led} {ol el p on en d1 d2 ba bb : Nat} {oD eD : List Dat} {outs ers : List Value} {k1 k2 : Tok} (hod : DatAll ex outs oD) (hed : DatAll ex ers eD) (h1 : outs.length + 1 ≤ ba) (h2 : ers.length ≤ bb)
    (o1 : @LT.lt Nat _ ol d1) (o2 : @Ne Nat d1 el) (o3 : @LT.lt Nat _ ol d2) (o4 : @Ne Nat d2 el) (hex : ∀ x ∈ ex, @LT.lt Nat _ ol x.1 ∧ @Ne Nat x.1 el) (w1 : ∀ y ∈ own, @Ne Nat y.1 d1) (w2 : ∀ y ∈ own, @Ne Nat y.1 d2) (w3 : ∀ x ∈ ex, ∀ y ∈ own, @Ne Nat y.1 x.1) :
    RdC cs rest own ol el p ba bb (oD ++ [startD nm]) eD 0 ((el, listOf ers.toArray en) :: (ol, listOf (outs ++ [Value.ref d1]).toArray (on + 1)) :: (((d1, tup [Value.str (Str.ofString "start") k1, Value.str (tx nm) k2, Value.ref d2, Value.bool false]) :: (d2, tup []) :: ex) ++ (rest ++ own))) := by
  refine ⟨on + 1, en, outs ++ [Value.ref d1], ers, (d1, tup [Value.str (Str.ofString "start") k1, Value.str (tx nm) k2, Value.ref d2, Value.bool false]) :: (d2, tup []) :: ex, by simp; omega, by omega, ?_, ?_, ?_, ?_, rfl⟩
  · rw [List.take_zero, List.map_nil, List.append_nil]
    exact (hod.mono fun _ hp => .tail _ (.tail _ hp)).append (.one (.tuple (n := 0) (.head _) (.cons (.str _ _) (.cons (.str _ _) (.cons (.tuple (vs := []) (n := 0) (.tail _ (.head _)) .nil) (.cons (.bool _) .nil))))))
  · rw [List.take_zero]
    show DatAll _ ers (eD ++ [])
    rw [List.append_nil]
    exact hed.mono fun _ hp => .tail _ (.tail _ hp)
  · exact List.forall_mem_cons.mpr ⟨⟨o1, o2⟩, List.forall_mem_cons.mpr ⟨⟨o3, o4⟩, hex⟩⟩
  · exact List.forall_mem_cons.mpr ⟨w1, List.forall_mem_cons.mpr ⟨w2, w3⟩⟩
theorem sub_null {d1 d2 e o : Addr × Obj} {ex rest own own2 : Led} : ∀ q ∈ (e :: o :: ((d1 :: d2 :: ex) ++ (rest ++ own))) ++ own2, q ∈ d1 :: d2 :: e :: o :: (ex ++ (rest ++ (own ++ own2))) := by
  intro q hq
  simp only [List.mem_cons, List.mem_append, List.cons_append, or_assoc] at hq ⊢
  rcases hq with h | h | h | h | h | h | h | h <;> simp [h]
theorem sub_char {d1 e o : Addr × Obj} {ex rest own own2 : Led} : ∀ q ∈ (e :: o :: ((d1 :: ex) ++ (rest ++ own))) ++ own2, q ∈ d1 :: e :: o :: (ex ++ (rest ++ (own ++ own2))) := by
  intro q hq
  simp only [List.mem_cons, List.mem_append, List.cons_append, or_assoc] at hq ⊢
  rcases hq with h | h | h | h | h | h | h <;> simp [h]
theorem stS_held (k : Kd) : stS (.held k) = kindS k := by cases k <;> rfl
section
variable {cs name : List Nat} {k : Kd} {r : List (Kd × List Nat)} {out errs : List Dat} {p e1 : Nat} {last : List Nat}
theorem readL_end (he : e1 = p + endL name (cs.drop p)) (h : e1 = cs.length) : readL cs ((k, name) :: r) out errs p last = ⟨out ++ [startD name] ++ ((cs.drop p).take (endL name (cs.drop p))).map chN ++ [eofD], errs ++ nulls p ((cs.drop p).take (endL name (cs.drop p))), e1 + 1, .held k, true, name⟩ := by
  subst he
  unfold readL
  dsimp only
  rw [if_pos h]
theorem readL_eof (he : e1 = p + endL name (cs.drop p)) (h : e1 ≠ cs.length) (h2 : (lawTag cs (e1 + 2 + name.length)).2.2 = cs.length) :
    readL cs ((k, name) :: r) out errs p last = ⟨out ++ [startD name] ++ ((cs.drop p).take (endL name (cs.drop p))).map chN ++ [eofD], errs ++ nulls p ((cs.drop p).take (endL name (cs.drop p))) ++ (lawTag cs (e1 + 2 + name.length)).2.1, (lawTag cs (e1 + 2 + name.length)).2.2 + 1, if slash cs cs.length then .sol else .ba, true, name⟩ := by
  subst he
  conv => lhs; unfold readL
  dsimp only
  rw [if_neg h, if_pos h2]
theorem readL_next (he : e1 = p + endL name (cs.drop p)) (h : e1 ≠ cs.length) (h2 : (lawTag cs (e1 + 2 + name.length)).2.2 ≠ cs.length) :
    readL cs ((k, name) :: r) out errs p last = readL cs r (out ++ [startD name] ++ ((cs.drop p).take (endL name (cs.drop p))).map chN ++ [endD name (lawTag cs (e1 + 2 + name.length)).1 (slash cs (lawTag cs (e1 + 2 + name.length)).2.2)]) (errs ++ nulls p ((cs.drop p).take (endL name (cs.drop p))) ++ (lawTag cs (e1 + 2 + name.length)).2.1) ((lawTag cs (e1 + 2 + name.length)).2.2 + 1) name := by
  subst he
  conv => lhs; unfold readL
  dsimp only
  rw [if_neg h, if_neg h2]
end
theorem els_drop {els : List (Kd × List Nat)} {i : Nat} {x : Kd × List Nat} (h : els[i]? = some x) : els.drop i = x :: els.drop (i + 1) := by
  have hl := (List.getElem?_eq_some_iff.mp h).1
  rw [List.drop_eq_getElem_cons hl]
  rw [List.getElem?_eq_getElem hl] at h
  rw [Option.some.inj h]
/-- the call of the tag's reader, at any int -/
theorem tag_specI (w : World) (rest : Led) (cs : List Nat) (ct : Tok) (a : Nat) (ai : Int) (at_ : Tok) (hai : ai = a) (hc : cs.length ≤ 40) (hcb : ∀ c ∈ cs, c < 1114112) (ha : a ≤ cs.length) (h1 : 1 ≤ a) :
    Spec w 529 [.str (tx cs) ct, .int ai at_] 30 100 rest (TagRes cs a rest) := by
  subst hai
  exact tag_spec w rest cs ct a at_ hc hcb ha h1
theorem rd_end {h₀ h : Heap} {L : Addr} {a b c d : Addr × Obj} {ex rest own : Led} (N : News h₀ L h (a :: b :: c :: d :: (ex ++ (rest ++ own)))) : News h₀ L h ((a :: b :: c :: d :: ex) ++ rest) := by
  intro q hq
  apply N
  simp only [List.mem_cons, List.mem_append, List.cons_append] at hq ⊢
  rcases hq with h | h | h | h | h | h <;> simp [h]
theorem rd_datE {d1 d2 el ol en on P : Nat} {Pi : Int} {k1 k2 k3 k4 : Tok} {s : PySem.Str} {st : St} {b : Bool} {nm : List Nat} {outs ers : List Value} {oD eD : List Dat} {ex : Led} (hod : DatAll ex outs oD) (hed : DatAll ex ers eD) (hP : Pi = (P : Nat)) (hs : s = stS st) :
    DatIn ((d1, tup [.ref ol, .ref el, .int Pi k1, .str s k2, .bool b, .str (tx nm) k3]) :: (d2, tup [.str (Str.ofString "eof") k4]) :: (el, listOf ers.toArray en) :: (ol, listOf (outs ++ [Value.ref d2]).toArray on) :: ex) (.ref d1) (resD ⟨oD ++ [eofD], eD, P, st, b, nm⟩) := by
  subst hP
  subst hs
  exact .tuple (n := 0) (.head _) (.cons (.list (.tail _ (.tail _ (.tail _ (.head _)))) ((hod.mono fun _ hp => .tail _ (.tail _ (.tail _ (.tail _ hp)))).append (.one (.tuple (n := 0) (.tail _ (.head _)) (.cons (.str _ _) .nil)))))
    (.cons (.list (.tail _ (.tail _ (.head _))) (hed.mono fun _ hp => .tail _ (.tail _ (.tail _ (.tail _ hp))))) (.cons (.int _ _) (.cons (.str _ _) (.cons (.bool _) (.cons (.str _ _) .nil))))))
theorem news_tag {h₀ h : Heap} {L : Addr} {a b c d e : Addr × Obj} {x r : Led} (N : News h₀ L h (a :: b :: c :: (x ++ d :: e :: r))) : News h₀ L h (a :: b :: c :: d :: e :: (x ++ r)) := by
  intro q hq
  apply N
  simp only [List.mem_cons, List.mem_append] at hq ⊢
  rcases hq with h | h | h | h | h | h | h <;> simp [h]
theorem names_len {vs : List Value} {ns : List Nat} (h : NamesAre vs ns) : vs.length = ns.length := by
  have := (strs_dat (news := []) h).length
  simpa using this
theorem rd_end2 {h₀ h : Heap} {L : Addr} {a b c p t n e o : Addr × Obj} {x ex rest own : Led} (N : News h₀ L h (a :: b :: c :: p :: t :: n :: e :: o :: (x ++ (ex ++ (rest ++ own))))) : News h₀ L h ((a :: b :: c :: o :: (x ++ ex)) ++ rest) := by
  intro q hq
  apply N
  simp only [List.mem_cons, List.mem_append, List.cons_append] at hq ⊢
  rcases hq with h | h | h | h | (h | h) | h <;> simp [h]
theorem off1_mem {D : Addr} : ∀ {l : Led}, LCg.Off1 D l → ∀ p ∈ l, @Ne Nat p.1 D
  | [], _, _, h => nomatch h
  | _ :: _, x, p, h => by
    rcases List.mem_cons.mp h with rfl | h
    · exact x.1
    · exact off1_mem x.2 p h
/-- the names' pairs, so far -/
noncomputable def KJ (tns : List Nat) (N0 : Led) (i : Nat) (ys : List Value) (news : Led) : Prop :=
  ∃ kx, DatAll kx ys ((tns.take i).map atD) ∧ news = kx ++ N0 ∧ ∀ x ∈ kx, ∀ y ∈ N0, @LT.lt Nat _ y.1 x.1
theorem names_at {vs : List Value} {ns : List Nat} (h : NamesAre vs ns) {i : Nat} {v : Value} (hv : vs[i]? = some v) : ∃ c t, ns[i]? = some c ∧ v = .str (sg c) t := by
  have hl := names_len h
  have hi : i < ns.length := by rw [← hl]; exact (List.getElem?_eq_some_iff.mp hv).1
  have hd := strs_dat (news := []) h
  obtain ⟨v', e, hd'⟩ := hd.get (k := i) (by simpa using hi)
  rw [hv] at e
  cases e
  simp only [List.getElem_map] at hd'
  have hd2 : DatIn [] v (.str (sg ns[i])) := hd'
  cases hd2 with
  | str x t => exact ⟨ns[i], t, List.getElem?_eq_getElem hi, rfl⟩
theorem kj_step {tns : List Nat} {N0 news : Led} {i : Nat} {ys : List Value} {c d : Nat} {k1 k2 : Tok} (J : KJ tns N0 i ys news) (hc : tns[i]? = some c) (hd : ∀ y ∈ N0, @LT.lt Nat _ y.1 d) :
    KJ tns N0 (i + 1) (ys ++ [Value.ref d]) ((d, tup [.str (sg c) k1, .str (Str.ofString "") k2]) :: news) := by
  obtain ⟨kx, h1, rfl, h2⟩ := J
  refine ⟨(d, tup [.str (sg c) k1, .str (Str.ofString "") k2]) :: kx, ?_, rfl, List.forall_mem_cons.mpr ⟨hd, h2⟩⟩
  rw [List.take_add_one, hc]
  simp only [Option.toList_some, List.map_append, List.map_cons, List.map_nil]
  exact (h1.mono fun _ hp => .tail _ hp).append (.one (.tuple (n := 0) (.head _) (.cons (.str _ _) (.cons (.str _ _) .nil))))
theorem sub4 {a b c d : Addr × Obj} {r : Led} : ∀ p ∈ b :: c :: d :: a :: r, p ∈ a :: b :: c :: d :: r := by
  intro q hq
  simp only [List.mem_cons] at hq ⊢
  rcases hq with h | h | h | h | h <;> simp [h]
theorem news_kx {h₀ h : Heap} {L : Addr} {z a b c d e f : Addr × Obj} {kx r : Led} (N : News h₀ L h (z :: (kx ++ a :: b :: c :: d :: e :: f :: r))) : News h₀ L h (z :: a :: b :: c :: d :: e :: f :: (kx ++ r)) := by
  intro q hq
  apply N
  simp only [List.mem_cons, List.mem_append] at hq ⊢
  rcases hq with h | h | h | h | h | h | h | h | h <;> simp [h]
theorem rd_end0 {h₀ h : Heap} {L : Addr} {a b c : Addr × Obj} {ex rest : Led} (N : News h₀ L h (a :: b :: c :: (ex ++ rest))) : News h₀ L h ((a :: b :: c :: ex) ++ rest) := N
theorem rd_dat0 {d1 el ol en on P : Nat} {Pi : Int} {k1 k2 k3 : Tok} {s : PySem.Str} {st : St} {b : Bool} {nm : List Nat} {outs ers : List Value} {oD eD : List Dat} {ex : Led} (hod : DatAll ex outs oD) (hed : DatAll ex ers eD) (hP : Pi = (P : Nat)) (hs : s = stS st) :
    DatIn ((d1, tup [.ref ol, .ref el, .int Pi k1, .str s k2, .bool b, .str (tx nm) k3]) :: (el, listOf ers.toArray en) :: (ol, listOf outs.toArray on) :: ex) (.ref d1) (resD ⟨oD, eD, P, st, b, nm⟩) := by
  subst hP
  subst hs
  exact .tuple (n := 0) (.head _) (.cons (.list (.tail _ (.tail _ (.head _))) (hod.mono fun _ hp => .tail _ (.tail _ (.tail _ hp))))
    (.cons (.list (.tail _ (.head _)) (hed.mono fun _ hp => .tail _ (.tail _ (.tail _ hp)))) (.cons (.int _ _) (.cons (.str _ _) (.cons (.bool _) (.cons (.str _ _) .nil))))))
theorem rd_fr2 {h₀ h : Heap} {L : Addr} {m₀ m : PySem.Str → Option Value} {ve va vl vo vt : Value} (F : Fr h₀ L h m) (k : RdKeep m₀ m) (he : m (Str.ofString "errors") = some ve) (ha : m (Str.ofString "at") = some va) (hl : m (Str.ofString "last") = some vl) (ho : m₀ (Str.ofString "out") = some vo) (ht : m₀ (Str.ofString "text") = some vt) :
    Fr h₀ L h (fun y => if y = Str.ofString "errors" then some ve else if y = Str.ofString "at" then some va else if y = Str.ofString "last" then some vl else if y = Str.ofString "out" then some vo else if y = Str.ofString "text" then some vt else m y) := by
  refine fr_map F fun y => ?_
  by_cases q1 : y = Str.ofString "errors"
  · rw [if_pos q1, q1, he]
  rw [if_neg q1]
  by_cases q2 : y = Str.ofString "at"
  · rw [if_pos q2, q2, ha]
  rw [if_neg q2]
  by_cases q3 : y = Str.ofString "last"
  · rw [if_pos q3, q3, hl]
  rw [if_neg q3]
  by_cases q4 : y = Str.ofString "out"
  · rw [if_pos q4, q4, ← ho]
    exact k _ (by decide +kernel) (by decide +kernel) (by decide +kernel) (by decide +kernel) (by decide +kernel) (by decide +kernel) (by decide +kernel) (by decide +kernel) (by decide +kernel)
  rw [if_neg q4]
  by_cases q5 : y = Str.ofString "text"
  · rw [if_pos q5, q5, ← ht]
    exact k _ (by decide +kernel) (by decide +kernel) (by decide +kernel) (by decide +kernel) (by decide +kernel) (by decide +kernel) (by decide +kernel) (by decide +kernel) (by decide +kernel)
  rw [if_neg q5]
/-- the reading so far, taken apart away from the walk -/
theorem rd_open {G : Prop} {cs : List Nat} {els : List (Kd × List Nat)} {rest : Led} {ol : Nat} {m₀ m : PySem.Str → Option Value} {i : Nat} {nx : Led} (h : RdJ cs els rest ol m₀ i m nx)
    (k : ∀ (el on en : Nat) (outs ers : List Value) (ex : Led) (p : Nat) (last : List Nat) (oD eD : List Dat) (ptk ltk : Tok),
      RdKeep m₀ m → m (Str.ofString "errors") = some (.ref el) → m (Str.ofString "at") = some (.int (p : Nat) ptk) → m (Str.ofString "last") = some (.str (tx last) ltk) →
      p ≤ cs.length → outs.length ≤ 200 * i → ers.length ≤ 200 * i → DatAll ex outs oD → DatAll ex ers eD → (∀ x ∈ ex, @LT.lt Nat _ ol x.1 ∧ @Ne Nat x.1 el) → @LT.lt Nat _ ol el →
      readL cs (els.drop i) oD eD p last = readL cs els [] [] 0 [] → nx = (el, listOf ers.toArray en) :: (ol, listOf outs.toArray on) :: (ex ++ rest) → G) : G := by
  obtain ⟨el, on, en, outs, ers, ex, p, last, oD, eD, ptk, ltk, h1, h2, h3, h4, h5, h6, h7, h8, h9, h10, h11, h12, h13⟩ := h
  exact k el on en outs ers ex p last oD eD ptk ltk h1 h2 h3 h4 h5 h6 h7 h8 h9 h10 h11 h12 h13
theorem rdC_open {G : Prop} {cs : List Nat} {rest own : Led} {ol el p a b : Nat} {oD eD : List Dat} {i : Nat} {nx : Led} (h : RdC cs rest own ol el p a b oD eD i nx)
    (k : ∀ (on en : Nat) (outs ers : List Value) (ex : Led), outs.length ≤ a + i → ers.length ≤ b + i → DatAll ex outs (oD ++ ((cs.drop p).take i).map chN) → DatAll ex ers (eD ++ nulls p ((cs.drop p).take i)) →
      (∀ x ∈ ex, @LT.lt Nat _ ol x.1 ∧ @Ne Nat x.1 el) → (∀ x ∈ ex, ∀ y ∈ own, @Ne Nat y.1 x.1) → nx = (el, listOf ers.toArray en) :: (ol, listOf outs.toArray on) :: (ex ++ (rest ++ own)) → G) : G := by
  obtain ⟨on, en, outs, ers, ex, h1, h2, h3, h4, h5, h6, h7⟩ := h
  exact k on en outs ers ex h1 h2 h3 h4 h5 h6 h7
theorem dat_open {G : Prop} {ex : Led} {evs : List Value} {els : List (Kd × List Nat)} {i : Nat} {v : Value} (h : DatAll ex evs (els.map elD)) (hv : evs[i]? = some v)
    (k : ∀ kd nm p n t1 t2, els[i]? = some (kd, nm) → v = .ref p → (p, ({ cls := .type "tuple", data := .seq #[.str (kindS kd) t1, .str (tx nm) t2] n } : Obj)) ∈ ex → G) : G := by
  obtain ⟨kd, nm, p, n, t1, t2, h1, h2, h3⟩ := dat_el h hv
  exact k kd nm p n t1 t2 h1 h2 h3
theorem fffd_str : Str.ofString "�" = sg 65533 := by decide +kernel
section
variable {cs : List Nat} {rest own own2 ex2 : Led} {ol el p i on2 en2 d1 d2 ba bb : Nat} {oD eD : List Dat} {outs2 ers2 : List Value} {k1 k2 k3 k4 : Tok} {h₀ h' : Heap} {L : Addr} {m₀ m' : PySem.Str → Option Value} {s₁ : Shared} {tk : Nat}
theorem rdC_null (hc : cs[p + i]? = some 0)
    (hob : outs2.length ≤ ba + i) (heb : ers2.length ≤ bb + i) (hod : DatAll ex2 outs2 (oD ++ ((cs.drop p).take i).map chN)) (hed : DatAll ex2 ers2 (eD ++ nulls p ((cs.drop p).take i))) (hex : ∀ x ∈ ex2, @LT.lt Nat _ ol x.1 ∧ @Ne Nat x.1 el) (hexo : ∀ x ∈ ex2, ∀ y ∈ own, @Ne Nat y.1 x.1)
    (hoff : OwnOff own2 (((el, listOf ers2.toArray en2) :: (ol, listOf outs2.toArray on2) :: (ex2 ++ (rest ++ own))).map (·.1)))
    (l1 : el < d2 ∧ ol < d2 ∧ AllLt d2 (ex2 ++ (rest ++ (own ++ own2)))) (l2 : d2 < d1 ∧ el < d1 ∧ ol < d1 ∧ AllLt d1 (ex2 ++ (rest ++ (own ++ own2))))
    (F : Fr h₀ L h' m') (N : News h₀ L h' ((d1, tup [.str (Str.ofString "char") k1, .str (Str.ofString "�") k2]) :: (d2, tup [.str nullE k3, .int ((p : Int) + (i : Int)) k4]) :: (el, listOf (ers2 ++ [Value.ref d2]).toArray (en2 + 1)) :: (ol, listOf (outs2 ++ [Value.ref d1]).toArray (on2 + 1)) :: (ex2 ++ (rest ++ (own ++ own2)))))
    (hm : ∀ z, z ≠ Str.ofString "place" → m' z = m₀ z) :
    InvEndG h₀ L (One (Str.ofString "place") m₀ (RdC cs rest own ol el p ba bb oD eD (i + 1))) own2 s₁ { s₁ with heap := h', toks := tk } := by
  have e : ((p : Int) + (i : Int)) = ((p + i : Nat) : Int) := by omega
  rw [e, fffd_str] at N
  have a1 := (List.forall_mem_append.mp (List.forall_mem_append.mp (List.forall_mem_append.mp (allLt_lt l1.2.2)).2).2)
  have a2 := (List.forall_mem_append.mp (List.forall_mem_append.mp (List.forall_mem_append.mp (allLt_lt l2.2.2.2)).2).2)
  refine inv_end (nx := (el, listOf (ers2 ++ [Value.ref d2]).toArray (en2 + 1)) :: (ol, listOf (outs2 ++ [Value.ref d1]).toArray (on2 + 1)) :: (((d1, tup [.str (Str.ofString "char") k1, .str (sg 65533) k2]) :: (d2, tup [.str nullE k3, .int ((p + i : Nat) : Int) k4]) :: ex2) ++ (rest ++ own))) F ?n
    ⟨hm, on2 + 1, en2 + 1, outs2 ++ [Value.ref d1], ers2 ++ [Value.ref d2], _, by simp; omega, by simp; omega, ?a, ?b, ?c, ?d, rfl⟩
    (off_new (A := [_, _]) (off_new (A := [_, _]) hoff fun y hy => Nat.ne_of_lt (a1.2 y hy)) fun y hy => Nat.ne_of_lt (a2.2 y hy))
  case n => exact cb_drop N sub_null
  case a =>
    rw [take_chN hc, ← List.append_assoc]
    exact (hod.mono fun _ hp => .tail _ (.tail _ hp)).append (.one (.tuple (n := 0) (.head _) (.cons (.str _ _) (.cons (.str _ _) .nil))))
  case b =>
    rw [take_nulls hc, if_pos rfl, ← List.append_assoc]
    exact (hed.mono fun _ hp => .tail _ (.tail _ hp)).append (.one (.tuple (n := 0) (.tail _ (.head _)) (.cons (.str _ _) (.cons (.int _ _) .nil))))
  case c => exact List.forall_mem_cons.mpr ⟨⟨l2.2.2.1, Nat.ne_of_gt l2.2.1⟩, List.forall_mem_cons.mpr ⟨⟨l1.2.1, Nat.ne_of_gt l1.1⟩, hex⟩⟩
  case d => exact List.forall_mem_cons.mpr ⟨fun y hy => Nat.ne_of_lt (a2.1 y hy), List.forall_mem_cons.mpr ⟨fun y hy => Nat.ne_of_lt (a1.1 y hy), hexo⟩⟩
theorem rdC_char {c : Nat} (hc : cs[p + i]? = some c) (c0 : c ≠ 0)
    (hob : outs2.length ≤ ba + i) (heb : ers2.length ≤ bb + i) (hod : DatAll ex2 outs2 (oD ++ ((cs.drop p).take i).map chN)) (hed : DatAll ex2 ers2 (eD ++ nulls p ((cs.drop p).take i))) (hex : ∀ x ∈ ex2, @LT.lt Nat _ ol x.1 ∧ @Ne Nat x.1 el) (hexo : ∀ x ∈ ex2, ∀ y ∈ own, @Ne Nat y.1 x.1)
    (hoff : OwnOff own2 (((el, listOf ers2.toArray en2) :: (ol, listOf outs2.toArray on2) :: (ex2 ++ (rest ++ own))).map (·.1)))
    (l2 : el < d1 ∧ ol < d1 ∧ AllLt d1 (ex2 ++ (rest ++ (own ++ own2))))
    (F : Fr h₀ L h' m') (N : News h₀ L h' ((d1, tup [.str (Str.ofString "char") k1, .str (sg c) k2]) :: (el, listOf ers2.toArray en2) :: (ol, listOf (outs2 ++ [Value.ref d1]).toArray (on2 + 1)) :: (ex2 ++ (rest ++ (own ++ own2)))))
    (hm : ∀ z, z ≠ Str.ofString "place" → m' z = m₀ z) :
    InvEndG h₀ L (One (Str.ofString "place") m₀ (RdC cs rest own ol el p ba bb oD eD (i + 1))) own2 s₁ { s₁ with heap := h', toks := tk } := by
  have a2 := (List.forall_mem_append.mp (List.forall_mem_append.mp (List.forall_mem_append.mp (allLt_lt l2.2.2)).2).2)
  refine inv_end (nx := (el, listOf ers2.toArray en2) :: (ol, listOf (outs2 ++ [Value.ref d1]).toArray (on2 + 1)) :: (((d1, tup [.str (Str.ofString "char") k1, .str (sg c) k2]) :: ex2) ++ (rest ++ own))) F ?n
    ⟨hm, on2 + 1, en2, outs2 ++ [Value.ref d1], ers2, _, by simp; omega, by omega, ?a, ?b, ?c, ?d, rfl⟩
    (off_new (A := [_, _]) hoff fun y hy => Nat.ne_of_lt (a2.2 y hy))
  case n => exact cb_drop N sub_char
  case a =>
    rw [take_chN hc, ← List.append_assoc, show chN c = chD c by unfold chN; rw [if_neg c0]]
    exact (hod.mono fun _ hp => .tail _ hp).append (.one (.tuple (n := 0) (.head _) (.cons (.str _ _) (.cons (.str _ _) .nil))))
  case b =>
    rw [take_nulls hc, if_neg c0, List.append_nil]
    exact hed.mono fun _ hp => .tail _ hp
  case c => exact List.forall_mem_cons.mpr ⟨⟨l2.2.1, Nat.ne_of_gt l2.1⟩, hex⟩
  case d => exact List.forall_mem_cons.mpr ⟨fun y hy => Nat.ne_of_lt (a2.1 y hy), hexo⟩
end
theorem news_turn {h₀ h : Heap} {L : Addr} {a b c d p t n e o : Addr × Obj} {kx x ex rest own : Led} (N : News h₀ L h (a :: b :: c :: d :: p :: t :: n :: e :: o :: (kx ++ (x ++ (ex ++ (rest ++ own)))))) : News h₀ L h ((d :: o :: ((a :: b :: (kx ++ (x ++ ex))) ++ rest)) ++ own) := by
  intro q hq
  apply N
  simp only [List.mem_cons, List.mem_append, List.cons_append, or_assoc] at hq ⊢
  rcases hq with h | h | h | h | h | h | h | h | h <;> simp [h]
section
variable {cs nm : List Nat} {els : List (Kd × List Nat)} {rest own ex2 tex kx : Led} {ol el P P0 i on2 en2 d1 d2 d3 d4 pt tl nl tn1 tn2 e n : Nat} {oD eD tes : List Dat} {tns : List Nat} {outs2 ers2 tevs nvs ys evs : List Value} {k1 k2 ptk2 : Tok} {h₀ h' : Heap} {L : Addr} {m₀ m' : PySem.Str → Option Value} {s₁ : Shared} {tk : Nat} {b : Bool} {oc : Obj}
theorem rd_turn (he : (e, listOf evs.toArray n) ∈ rest) (hob : outs2.length + 1 ≤ 200 * (i + 1)) (heb : ers2.length + tevs.length ≤ 200 * (i + 1)) (hod : DatAll ex2 outs2 oD) (hed : DatAll ex2 ers2 eD) (hte : DatAll tex tevs tes) (hky : DatAll kx ys (tns.map atD))
    (hex : ∀ x ∈ ex2, @LT.lt Nat _ ol x.1 ∧ @Ne Nat x.1 el) (hexo : ∀ x ∈ ex2, ∀ y ∈ own, @Ne Nat y.1 x.1) (hoff : ∀ y ∈ own, @Ne Nat y.1 ol ∧ ∀ x ∈ rest, @Ne Nat y.1 x.1)
    (htx : ∀ x ∈ tex, ∀ y ∈ (el, listOf ers2.toArray en2) :: (ol, listOf outs2.toArray on2) :: (ex2 ++ (rest ++ own)), @LT.lt Nat _ y.1 x.1)
    (l4 : pt < d4 ∧ tl < d4 ∧ nl < d4 ∧ el < d4 ∧ ol < d4 ∧ AllLt d4 (tex ++ (ex2 ++ (rest ++ own))))
    (hkf : ∀ x ∈ kx, ∀ y ∈ (d4, listOf (ers2 ++ tevs).toArray 0) :: (pt, tup [.ref nl, .ref tl, .int (P0 : Nat) ptk2]) :: (tl, listOf tevs.toArray tn2) :: (nl, listOf nvs.toArray tn1) :: (el, listOf ers2.toArray en2) :: (ol, listOf outs2.toArray on2) :: (tex ++ (ex2 ++ (rest ++ own))), @LT.lt Nat _ y.1 x.1)
    (l2 : d3 < d2 ∧ d4 < d2 ∧ pt < d2 ∧ tl < d2 ∧ nl < d2 ∧ el < d2 ∧ ol < d2 ∧ AllLt d2 (kx ++ (tex ++ (ex2 ++ (rest ++ own)))))
    (l1 : d2 < d1 ∧ d3 < d1 ∧ d4 < d1 ∧ pt < d1 ∧ tl < d1 ∧ nl < d1 ∧ el < d1 ∧ ol < d1 ∧ AllLt d1 (kx ++ (tex ++ (ex2 ++ (rest ++ own)))))
    (hP : P + 1 ≤ cs.length) (hr : readL cs els [] [] 0 [] = readL cs (els.drop (i + 1)) (oD ++ [endD nm tns b]) (eD ++ tes) (P + 1) nm)
    (F : Fr h₀ L h' m') (N : News h₀ L h' ((d1, tup [.str (Str.ofString "end") k1, .str (tx nm) k2, .ref d2, .bool b]) :: (d2, tup ys) :: (d3, oc) :: (d4, listOf (ers2 ++ tevs).toArray 0) :: (pt, tup [.ref nl, .ref tl, .int (P0 : Nat) ptk2]) :: (tl, listOf tevs.toArray tn2) :: (nl, listOf nvs.toArray tn1) :: (el, listOf ers2.toArray en2) :: (ol, listOf (outs2 ++ [Value.ref d1]).toArray (on2 + 1)) :: (kx ++ (tex ++ (ex2 ++ (rest ++ own))))))
    (hk : RdKeep m₀ m') (m1 : m' (Str.ofString "errors") = some (.ref d4)) (m2 : ∃ k, m' (Str.ofString "at") = some (.int ((P : Int) + 1) k)) (m3 : ∃ k, m' (Str.ofString "last") = some (.str (tx nm) k)) :
    InvEndG h₀ L (fun m' nx => (e, listOf evs.toArray n) ∈ nx ∧ RdJ cs els rest ol m₀ (i + 1) m' nx) own s₁ { s₁ with heap := h', toks := tk } := by
  obtain ⟨k3, m2⟩ := m2
  obtain ⟨k4, m3⟩ := m3
  have m2 : m' (Str.ofString "at") = some (.int ((P + 1 : Nat) : Int) k3) := m2
  have a4 := List.forall_mem_append.mp (allLt_lt l4.2.2.2.2.2)
  have a4b := List.forall_mem_append.mp a4.2
  have a4c := (List.forall_mem_append.mp a4b.2).2
  have a2 := (List.forall_mem_append.mp (List.forall_mem_append.mp (List.forall_mem_append.mp (List.forall_mem_append.mp (allLt_lt l2.2.2.2.2.2.2.2)).2).2).2).2
  have a1 := (List.forall_mem_append.mp (List.forall_mem_append.mp (List.forall_mem_append.mp (List.forall_mem_append.mp (allLt_lt l1.2.2.2.2.2.2.2.2)).2).2).2).2
  have mown : ∀ y ∈ own, y ∈ (d4, listOf (ers2 ++ tevs).toArray 0) :: (pt, tup [.ref nl, .ref tl, .int (P0 : Nat) ptk2]) :: (tl, listOf tevs.toArray tn2) :: (nl, listOf nvs.toArray tn1) :: (el, listOf ers2.toArray en2) :: (ol, listOf outs2.toArray on2) :: (tex ++ (ex2 ++ (rest ++ own))) := fun y hy => by simp [hy]
  refine inv_end F (news_turn N) ⟨.tail _ (.tail _ (List.mem_append.mpr (.inr he))), d4, on2 + 1, 0, outs2 ++ [Value.ref d1], ers2 ++ tevs, _, P + 1, nm, oD ++ [endD nm tns b], eD ++ tes, k3, k4, hk, m1, m2, m3, hP, by simp; omega, by simp; omega, ?a, ?b, ?c, l4.2.2.2.2.1, hr.symm, rfl⟩ ?d
  case a =>
    refine (hod.mono fun _ hp => ?_).append (.one (.tuple (n := 0) (.head _) (.cons (.str _ _) (.cons (.str _ _) (.cons (.tuple (vs := ys) (n := 0) (.tail _ (.head _)) (hky.mono fun _ hp => ?_)) (.cons (.bool _) .nil))))))
    · exact .tail _ (.tail _ (List.mem_append.mpr (.inr (List.mem_append.mpr (.inr hp)))))
    · exact .tail _ (.tail _ (List.mem_append.mpr (.inl hp)))
  case b =>
    refine (hed.mono fun _ hp => ?_).append (hte.mono fun _ hp => ?_)
    · exact .tail _ (.tail _ (List.mem_append.mpr (.inr (List.mem_append.mpr (.inr hp)))))
    · exact .tail _ (.tail _ (List.mem_append.mpr (.inr (List.mem_append.mpr (.inl hp)))))
  case c =>
    refine List.forall_mem_cons.mpr ⟨⟨l1.2.2.2.2.2.2.2.1, Nat.ne_of_gt l1.2.2.1⟩, List.forall_mem_cons.mpr ⟨⟨l2.2.2.2.2.2.2.1, Nat.ne_of_gt l2.2.1⟩, List.forall_mem_append.mpr ⟨fun x hx => ⟨?_, ?_⟩, List.forall_mem_append.mpr ⟨fun x hx => ⟨?_, ?_⟩, fun x hx => ⟨(hex x hx).1, Nat.ne_of_lt (a4b.1 x hx)⟩⟩⟩⟩⟩
    · exact hkf x hx _ (.tail _ (.tail _ (.tail _ (.tail _ (.tail _ (.head _))))))
    · exact Nat.ne_of_gt (hkf x hx _ (.head _))
    · exact htx x hx _ (.tail _ (.head _))
    · exact Nat.ne_of_lt (a4.1 x hx)
  case d =>
    intro y hy z hz
    obtain ⟨q, hq, rfl⟩ := List.mem_map.mp hz
    rcases List.mem_cons.mp hq with rfl | hq
    · exact Nat.ne_of_lt (a4c y hy)
    rcases List.mem_cons.mp hq with rfl | hq
    · exact (hoff y hy).1
    rcases List.mem_append.mp hq with hq | hq
    · rcases List.mem_cons.mp hq with rfl | hq
      · exact Nat.ne_of_lt (a1 y hy)
      rcases List.mem_cons.mp hq with rfl | hq
      · exact Nat.ne_of_lt (a2 y hy)
      rcases List.mem_append.mp hq with hq | hq
      · exact Nat.ne_of_lt (hkf q hq y (mown y hy))
      rcases List.mem_append.mp hq with hq | hq
      · exact Nat.ne_of_lt (htx q hq y (by simp [hy]))
      · exact hexo q hq y hy
    · exact (hoff y hy).2 q hq
end
end
example : True := by w_top off; trivial
section
open PyProof.V PySem.Spec PySem.Calls
set_option hygiene false
local macro_rules | `(tactic| walk_at "call type:tuple") => `(tactic| refine hold_out ?_)
local macro_rules | `(tactic| walk_at "assign Tuple") => `(tactic| refine hold_out ?_)
local macro_rules | `(tactic| walk_at "exec For Tuple Name cons nil") => `(tactic| (k_here; (with_reducible rename Fr _ _ _ _ => lF'); (with_unfolding_all refine' For_turns lF' ?_; k_whole)))
local macro_rules | `(tactic| walk_at "eval ListComp") => `(tactic| refine hold_out ?_)
local macro_rules | `(tactic| walk_at "CompSrc") => `(tactic| refine hold_out ?_)
local macro_rules | `(tactic| walk_at "FinE") => `(tactic| refine hold_out ?_)
local macro_rules | `(tactic| walk_at "subscriptTail Name UnaryOp str int") => `(tactic| refine hold_out ?_)
local macro_rules | `(tactic| walk_at "binaryOp Add ref ref") => `(tactic| refine hold_out ?_)
set_option hygiene true
set_option maxHeartbeats 2000000
section
variable (w : World) (rest : Led)
theorem read_spec (cs : List Nat) (ct : Tok) (e n : Nat) (evs : List Value) (els : List (Kd × List Nat)) (hc : cs.length ≤ 40) (hcb : ∀ c ∈ cs, c < 1114112) (he : (e, listOf evs.toArray n) ∈ rest) (hdat : DatAll rest evs (els.map elD)) (hel : els.length = 4) (hok : ∀ x ∈ els, ElOk x) :
    Spec w 534 [.str (tx cs) ct, .ref e] 60 200 rest (fun v nx => ∃ ex, DatIn ex v (resD (readL cs els [] [] 0 [])) ∧ nx = ex ++ rest) := by
  have C : True := trivial
  (k_dflt (refine' spec_def ?ho ?hcd ?hb ?hs ?_; (case ho => k_is); (case hcd => k_is); (case hb => exact fun _ => BindsTo.of_eq rfl); (case hs => exact rfl); k_whole); intro meanZ9 mgZ9 mbZ9 AZ9 A₀Z9 outerZ9 baseZ9 gZ9 LZ9 sZ9 qZ9 F'Z9 N'Z9 B'Z9 X'Z9 T'Z9 hhZ9 hAZ9 hdZ9 huZ9 hretZ9; (try dsimp only); (try simp only [List.cons_append, List.nil_append, List.append_assoc] at N'Z9))
  (k_steps; repeat' ((refine hold_in ?_); (first | ((with_reducible show wpAny _ _ (call (Value.type _) _) _ _ _); ((k_dflt (refine' kde_tupleOf (by k_asm) (by k_asm) (by exact News.isList (by k_asm) (by k_mem)) (by simp only [List.size_toArray]; omega) (by exact rfl) ?_; k_whole); intro _ _ _ _ lx7; (try k_lt lx7); (try k_sweep)))) | ((with_reducible show wpAny _ _ (subscriptTail _ (Expr.UnaryOp _ _ _) _ _) _ _ _); ((k_dflt (refine' sub_last (by omega) (by with_reducible assumption) (by with_unfolding_all rfl) (by intro _; with_unfolding_all rfl) ?_); intro _ _))) | ((with_reducible show wpAny _ _ (binaryOp _ _ _) _ _ _); ((k_dflt (refine' add_lists9 (by k_asm) (by k_asm) (by k_mem) (by k_mem) (by omega) ?_); intro _ _ _ _ lx7; (try k_lt lx7); (try k_sweep)))) | ((with_reducible show wpAny _ _ (assign _ _ _) _ _ _); k_dflt (refine' unpackN_ (by k_asm) (by k_asm) (by exact News.isTup (by k_asm) (by k_mem)) (by assumption) (by exact rfl) (by exact rfl) ?_); intro _ _ _; (try k_sweep))); k_steps))
  refine hold_in ?_
  (with_reducible rename Fr _ _ _ _ => F9)
  (with_reducible rename News _ _ _ _ => N9)
  (with_reducible rename (∀ (p : Addr × Obj), p ∈ rest → p.fst < _) => lr)
  (with_reducible rename (_ ∧ AllLt _ _) => l1)
  refine loop_listT (l := e) (vs := evs) (nn := n) (RdJ cs els rest _ _) (by assumption) ?hl F9 N9 (rdJ0 ?e1 ?e2 ?e3 l1.1) ?turn ?done
  case hl => exact .tail _ (.tail _ he)
  case e1 => with_unfolding_all rfl
  case e2 => exact ⟨_, by with_unfolding_all rfl⟩
  case e3 => exact ⟨_, by with_unfolding_all rfl⟩
  case done =>
    rintro m₁ nx h tk ⟨el, on, en, outs, ers, ex, p, last, oD, eD, ptk, ltk, hkeep, hm1, hm2, hm3, hp, hob, heb, hod, hed, hex, hole, hread, rfl⟩ F8 N8
    have hF := rd_fr2 F8 hkeep hm1 hm2 hm3 (by with_unfolding_all rfl) (by with_unfolding_all rfl)
    clear F8 F9 N9
    have hvl : evs.length = els.length := by have := hdat.length; rw [List.length_map] at this; exact this
    rw [hvl, List.drop_length] at hread
    have hr : readL cs els [] [] 0 [] = ⟨oD, eD, p, .data, false, last⟩ := hread.symm
    (k_steps; repeat' ((refine hold_in ?_); (first | ((with_reducible show wpAny _ _ (call (Value.type _) _) _ _ _); ((k_dflt (refine' kde_tupleOf (by k_asm) (by k_asm) (by exact News.isList (by k_asm) (by k_mem)) (by simp only [List.size_toArray]; omega) (by exact rfl) ?_; k_whole); intro _ _ _ _ lx7; (try k_lt lx7); (try k_sweep)))) | ((with_reducible show wpAny _ _ (subscriptTail _ (Expr.UnaryOp _ _ _) _ _) _ _ _); ((k_dflt (refine' sub_last (by omega) (by with_reducible assumption) (by with_unfolding_all rfl) (by intro _; with_unfolding_all rfl) ?_); intro _ _))) | ((with_reducible show wpAny _ _ (binaryOp _ _ _) _ _ _); ((k_dflt (refine' add_lists9 (by k_asm) (by k_asm) (by k_mem) (by k_mem) (by omega) ?_); intro _ _ _ _ lx7; (try k_lt lx7); (try k_sweep)))) | ((with_reducible show wpAny _ _ (assign _ _ _) _ _ _); k_dflt (refine' unpackN_ (by k_asm) (by k_asm) (by exact News.isTup (by k_asm) (by k_mem)) (by assumption) (by exact rfl) (by exact rfl) ?_); intro _ _ _; (try k_sweep))); k_steps))
    (with_reducible rename Fr _ _ _ _ => F7)
    (with_reducible rename News _ _ _ _ => N7)
    (with_reducible rename RetE _ _ _ _ => hret)
    first | refine fin_ret hret F7 (rd_end0 N7) rfl ⟨_, ?dd0, rfl⟩ | refine fin_next hret F7 (rd_end0 N7) rfl ⟨_, ?dd0, rfl⟩
    rw [hr]
    exact rd_dat0 hod hed rfl rfl
  case turn =>
    clear F9 N9
    intro i v m₁ nx h tk own hv hown hoff hmem hJ F8 N8
    refine rd_open hJ ?_
    intro el on en outs ers ex p last oD eD ptk ltk hkeep hm1 hm2 hm3 hp hob heb hod hed hex hole hread enx
    refine dat_open hdat hv ?_
    intro k nm q n0 t1 t2 hei ev hq
    subst enx
    subst ev
    clear hJ
    have hF := rd_fr2 F8 hkeep hm1 hm2 hm3 (by with_unfolding_all rfl) (by with_unfolding_all rfl)
    clear F8
    have hlt4 := (List.getElem?_eq_some_iff.mp hei).1
    have N8' := news_dup N8 (List.mem_append.mpr (.inl (.tail _ (.tail _ (List.mem_append.mpr (.inr hq))))))
    clear N8
    simp only [List.cons_append, List.append_assoc] at N8'
    have hqo := ltN (lr _ hq)
    have qe1 : ∀ x ∈ ex, x.1 ≠ _ := fun x hx => Nat.ne_of_gt (hex x hx).1
    have qe2 : ∀ x ∈ ex, x.1 ≠ el := fun x hx => (hex x hx).2
    have qr1 : ∀ x ∈ rest, x.1 ≠ _ := fun x hx => Nat.ne_of_lt (lr x hx)
    have qr2 : ∀ x ∈ rest, x.1 ≠ el := fun x hx => Nat.ne_of_lt (Nat.lt_trans (ltN (lr x hx)) hole)
    have qo1 : ∀ x ∈ own, x.1 ≠ _ := hoff.ne (.tail _ (.head _))
    have qo2 : ∀ x ∈ own, x.1 ≠ el := hoff.ne (.head _)
    have hnm : nm.length ≤ 5 := by
      have := hok _ (List.mem_of_getElem? hei)
      unfold ElOk at this
      simp only [List.mem_cons, List.not_mem_nil, or_false] at this
      rcases this with h | h | h | h <;> (rw [h]; decide)
    have hobs : outs.length ≤ 1000 := by omega
    (k_steps; repeat' ((refine hold_in ?_); (first | ((with_reducible show wpAny _ _ (call (Value.type _) _) _ _ _); ((k_dflt (refine' kde_tupleOf (by k_asm) (by k_asm) (by exact News.isList (by k_asm) (by k_mem)) (by simp only [List.size_toArray]; omega) (by exact rfl) ?_; k_whole); intro _ _ _ _ lx7; (try k_lt lx7); (try k_sweep)))) | ((with_reducible show wpAny _ _ (subscriptTail _ (Expr.UnaryOp _ _ _) _ _) _ _ _); ((k_dflt (refine' sub_last (by omega) (by with_reducible assumption) (by with_unfolding_all rfl) (by intro _; with_unfolding_all rfl) ?_); intro _ _))) | ((with_reducible show wpAny _ _ (binaryOp _ _ _) _ _ _); ((k_dflt (refine' add_lists9 (by k_asm) (by k_asm) (by k_mem) (by k_mem) (by omega) ?_); intro _ _ _ _ lx7; (try k_lt lx7); (try k_sweep)))) | ((with_reducible show wpAny _ _ (assign _ _ _) _ _ _); k_dflt (refine' unpackN_ (by k_asm) (by k_asm) (by exact News.isTup (by k_asm) (by k_mem)) (by assumption) (by exact rfl) (by exact rfl) ?_); intro _ _ _; (try k_sweep))); k_steps))
    refine hold_in ?_
    refine' spec_use (end_spec w _ cs nm _ _ p _ hc hp hnm) ?B ?F ?X ?N ?T ?hh ?hA ?hf ?hk ?hd ?hu ?_
    walk_at "sides"
    rintro v9 n9 h9 tk9 ⟨⟨etk, rfl⟩, rfl⟩ F9 N9
    k_sweep
    have hle := end_le (name := nm) hp
    obtain ⟨nE, hnE⟩ : ∃ nE, nE = endL nm (cs.drop p) := ⟨_, rfl⟩
    obtain ⟨e1, he1⟩ : ∃ e1, e1 = p + endL nm (cs.drop p) := ⟨_, rfl⟩
    rw [← he1]
    rw [← hnE] at hle
    have he2 : e1 = p + nE := by rw [he1, hnE]
    (k_steps; repeat' ((refine hold_in ?_); (first | ((with_reducible show wpAny _ _ (call (Value.type _) _) _ _ _); ((k_dflt (refine' kde_tupleOf (by k_asm) (by k_asm) (by exact News.isList (by k_asm) (by k_mem)) (by simp only [List.size_toArray]; omega) (by exact rfl) ?_; k_whole); intro _ _ _ _ lx7; (try k_lt lx7); (try k_sweep)))) | ((with_reducible show wpAny _ _ (subscriptTail _ (Expr.UnaryOp _ _ _) _ _) _ _ _); ((k_dflt (refine' sub_last (by omega) (by with_reducible assumption) (by with_unfolding_all rfl) (by intro _; with_unfolding_all rfl) ?_); intro _ _))) | ((with_reducible show wpAny _ _ (binaryOp _ _ _) _ _ _); ((k_dflt (refine' add_lists9 (by k_asm) (by k_asm) (by k_mem) (by k_mem) (by omega) ?_); intro _ _ _ _ lx7; (try k_lt lx7); (try k_sweep)))) | ((with_reducible show wpAny _ _ (assign _ _ _) _ _ _); k_dflt (refine' unpackN_ (by k_asm) (by k_asm) (by exact News.isTup (by k_asm) (by k_mem)) (by assumption) (by exact rfl) (by exact rfl) ?_); intro _ _ _; (try k_sweep))); k_steps))
    refine hold_in ?_
    (with_reducible rename Fr _ _ _ _ => F7)
    (with_reducible rename News _ _ _ _ => N7)
    (with_reducible rename IsRange _ _ _ _ _ _ _ _ => R7)
    (with_reducible rename (_ ∧ _ ∧ _ ∧ _ ∧ AllLt _ _) => l4)
    (with_reducible rename (_ ∧ _ ∧ _ ∧ AllLt _ _) => l3)
    have a3 := List.forall_mem_append.mp (allLt_lt l3.2.2.2)
    have a4 := List.forall_mem_append.mp (allLt_lt l4.2.2.2.2)
    have b3 := (List.forall_mem_append.mp a3.2).2
    have b4 := (List.forall_mem_append.mp a4.2).2
    refine loop_range1 (n := nE) (RdC cs rest own _ el p (200 * i + 1) (200 * i) (oD ++ [startD nm]) eD) (by assumption) R7 (small_one (by omega) (by omega) (by omega) (by omega)) ((rangeSize_nat _ _).trans (by omega)) F7 (news_rd0 N7)
      (rdC0 hod hed (by omega) (by omega) l4.2.2.2.1 (Nat.ne_of_gt l4.2.2.1) l3.2.2.1 (Nat.ne_of_gt l3.2.1) hex (fun y hy => Nat.ne_of_lt (b4 y hy)) (fun y hy => Nat.ne_of_lt (b3 y hy)) (fun x hx y hy => hoff y hy x.1 (.tail _ (.tail _ (List.mem_map.mpr ⟨x, List.mem_append.mpr (.inl hx), rfl⟩))))) ?turn2 ?done2
    case turn2 =>
      clear R7 F7 N7
      intro i2 ti nx2 h2 tk2 own2 hi2 hoff2 hJ F8 N8
      refine rdC_open hJ ?_
      intro on2 en2 outs2 ers2 ex2 hob2 heb2 hod2 hed2 hex2 hexo enx
      subst enx
      clear hJ
      simp only [List.cons_append, List.append_assoc] at N8
      have hlt2 : p + i2 < cs.length := by omega
      obtain ⟨c, hc1⟩ : ∃ c, cs[p + i2]? = some c := ⟨_, List.getElem?_eq_getElem hlt2⟩
      have hx : cs[((p : Int) + (i2 : Int)).toNat]? = some c := by rw [← hc1]; congr 1
      have hi0 : (0 : Int) ≤ (p : Int) + (i2 : Int) := by omega
      have hi1 : (p : Int) + (i2 : Int) < (cs.length : Int) := by omega
      have z1 : ∀ x ∈ ex2, x.1 ≠ _ := fun x hx => Nat.ne_of_gt (hex2 x hx).1
      have z2 : ∀ x ∈ ex2, x.1 ≠ el := fun x hx => (hex2 x hx).2
      have z3 : ∀ x ∈ own2, x.1 ≠ el := hoff2.ne (.head _)
      have z4 : ∀ x ∈ own2, x.1 ≠ _ := hoff2.ne (.tail _ (.head _))
      have hb3 : outs2.length ≤ 5000 := by omega
      have hb4 : ers2.length ≤ 5000 := by omega
      by_cases c0 : c = 0
      · subst c0
        have b0 : (sg 0 == Str.ofString "\x00") = true := by decide +kernel
        (k_steps; repeat' ((refine hold_in ?_); (first | ((with_reducible show wpAny _ _ (call (Value.type _) _) _ _ _); ((k_dflt (refine' kde_tupleOf (by k_asm) (by k_asm) (by exact News.isList (by k_asm) (by k_mem)) (by simp only [List.size_toArray]; omega) (by exact rfl) ?_; k_whole); intro _ _ _ _ lx7; (try k_lt lx7); (try k_sweep)))) | ((with_reducible show wpAny _ _ (subscriptTail _ (Expr.UnaryOp _ _ _) _ _) _ _ _); ((k_dflt (refine' sub_last (by omega) (by with_reducible assumption) (by with_unfolding_all rfl) (by intro _; with_unfolding_all rfl) ?_); intro _ _))) | ((with_reducible show wpAny _ _ (binaryOp _ _ _) _ _ _); ((k_dflt (refine' add_lists9 (by k_asm) (by k_asm) (by k_mem) (by k_mem) (by omega) ?_); intro _ _ _ _ lx7; (try k_lt lx7); (try k_sweep)))) | ((with_reducible show wpAny _ _ (assign _ _ _) _ _ _); k_dflt (refine' unpackN_ (by k_asm) (by k_asm) (by exact News.isTup (by k_asm) (by k_mem)) (by assumption) (by exact rfl) (by exact rfl) ?_); intro _ _ _; (try k_sweep))); k_steps))
        (with_reducible rename Fr _ _ _ _ => F7)
        (with_reducible rename News _ _ _ _ => N7)
        (with_reducible rename (_ ∧ _ ∧ _ ∧ AllLt _ _) => l6)
        (with_reducible rename (_ ∧ _ ∧ AllLt _ _) => l5)
        exact rdC_null hc1 hob2 heb2 hod2 hed2 hex2 hexo hoff2 l5 l6 F7 N7 fun z hz => if_neg hz
      · have b0 : (sg c == Str.ofString "\x00") = false := sgne 0 (by decide +kernel) c0
        (k_steps; repeat' ((refine hold_in ?_); (first | ((with_reducible show wpAny _ _ (call (Value.type _) _) _ _ _); ((k_dflt (refine' kde_tupleOf (by k_asm) (by k_asm) (by exact News.isList (by k_asm) (by k_mem)) (by simp only [List.size_toArray]; omega) (by exact rfl) ?_; k_whole); intro _ _ _ _ lx7; (try k_lt lx7); (try k_sweep)))) | ((with_reducible show wpAny _ _ (subscriptTail _ (Expr.UnaryOp _ _ _) _ _) _ _ _); ((k_dflt (refine' sub_last (by omega) (by with_reducible assumption) (by with_unfolding_all rfl) (by intro _; with_unfolding_all rfl) ?_); intro _ _))) | ((with_reducible show wpAny _ _ (binaryOp _ _ _) _ _ _); ((k_dflt (refine' add_lists9 (by k_asm) (by k_asm) (by k_mem) (by k_mem) (by omega) ?_); intro _ _ _ _ lx7; (try k_lt lx7); (try k_sweep)))) | ((with_reducible show wpAny _ _ (assign _ _ _) _ _ _); k_dflt (refine' unpackN_ (by k_asm) (by k_asm) (by exact News.isTup (by k_asm) (by k_mem)) (by assumption) (by exact rfl) (by exact rfl) ?_); intro _ _ _; (try k_sweep))); k_steps))
        (with_reducible rename Fr _ _ _ _ => F7)
        (with_reducible rename News _ _ _ _ => N7)
        (with_reducible rename (_ ∧ _ ∧ AllLt _ _) => l5)
        exact rdC_char hc1 c0 hob2 heb2 hod2 hed2 hex2 hexo hoff2 l5 F7 N7 fun z hz => if_neg hz
    case done2 =>
      clear R7 F7 N7
      intro u2 nx2 h2 tk2 hJ F8 N8
      refine rdC_open hJ ?_
      intro on2 en2 outs2 ers2 ex2 hob2 heb2 hod2 hed2 hex2 hexo enx
      subst enx
      clear hJ
      have z1 : ∀ x ∈ ex2, x.1 ≠ _ := fun x hx => Nat.ne_of_gt (hex2 x hx).1
      have z2 : ∀ x ∈ ex2, x.1 ≠ el := fun x hx => (hex2 x hx).2
      have hb3 : outs2.length ≤ 5000 := by omega
      have hb4 : ers2.length ≤ 5000 := by omega
      by_cases h1 : e1 = cs.length
      · have hr := hread.symm.trans ((congrArg (fun z => readL cs z oD eD p last) (els_drop hei)).trans (readL_end he1 h1))
        rw [h1] at hr
        subst h1
        (k_steps; repeat' ((refine hold_in ?_); (first | ((with_reducible show wpAny _ _ (call (Value.type _) _) _ _ _); ((k_dflt (refine' kde_tupleOf (by k_asm) (by k_asm) (by exact News.isList (by k_asm) (by k_mem)) (by simp only [List.size_toArray]; omega) (by exact rfl) ?_; k_whole); intro _ _ _ _ lx7; (try k_lt lx7); (try k_sweep)))) | ((with_reducible show wpAny _ _ (subscriptTail _ (Expr.UnaryOp _ _ _) _ _) _ _ _); ((k_dflt (refine' sub_last (by omega) (by with_reducible assumption) (by with_unfolding_all rfl) (by intro _; with_unfolding_all rfl) ?_); intro _ _))) | ((with_reducible show wpAny _ _ (binaryOp _ _ _) _ _ _); ((k_dflt (refine' add_lists9 (by k_asm) (by k_asm) (by k_mem) (by k_mem) (by omega) ?_); intro _ _ _ _ lx7; (try k_lt lx7); (try k_sweep)))) | ((with_reducible show wpAny _ _ (assign _ _ _) _ _ _); k_dflt (refine' unpackN_ (by k_asm) (by k_asm) (by exact News.isTup (by k_asm) (by k_mem)) (by assumption) (by exact rfl) (by exact rfl) ?_); intro _ _ _; (try k_sweep))); k_steps))
        all_goals first | exact absurd rfl (by assumption) | skip
        (with_reducible rename Fr _ _ _ _ => F7)
        (with_reducible rename News _ _ _ _ => N7)
        (with_reducible rename RetE _ _ _ _ => hret)
        first | refine fin_ret hret F7 (rd_end N7) rfl ⟨_, ?dd1, rfl⟩ | refine fin_next hret F7 (rd_end N7) rfl ⟨_, ?dd1, rfl⟩
        rw [hr, ← hnE]
        exact rd_datE hod2 hed2 rfl (stS_held k).symm
      · have hne : ¬ ((e1 : Nat) : Int) = (cs.length : Int) := by omega
        have hroom := end_room hp (name := nm) (by rw [← he1]; exact h1)
        rw [← he1] at hroom
        (k_steps; repeat' ((refine hold_in ?_); (first | ((with_reducible show wpAny _ _ (call (Value.type _) _) _ _ _); ((k_dflt (refine' kde_tupleOf (by k_asm) (by k_asm) (by exact News.isList (by k_asm) (by k_mem)) (by simp only [List.size_toArray]; omega) (by exact rfl) ?_; k_whole); intro _ _ _ _ lx7; (try k_lt lx7); (try k_sweep)))) | ((with_reducible show wpAny _ _ (subscriptTail _ (Expr.UnaryOp _ _ _) _ _) _ _ _); ((k_dflt (refine' sub_last (by omega) (by with_reducible assumption) (by with_unfolding_all rfl) (by intro _; with_unfolding_all rfl) ?_); intro _ _))) | ((with_reducible show wpAny _ _ (binaryOp _ _ _) _ _ _); ((k_dflt (refine' add_lists9 (by k_asm) (by k_asm) (by k_mem) (by k_mem) (by omega) ?_); intro _ _ _ _ lx7; (try k_lt lx7); (try k_sweep)))) | ((with_reducible show wpAny _ _ (assign _ _ _) _ _ _); k_dflt (refine' unpackN_ (by k_asm) (by k_asm) (by exact News.isTup (by k_asm) (by k_mem)) (by assumption) (by exact rfl) (by exact rfl) ?_); intro _ _ _; (try k_sweep))); k_steps))
        all_goals first | exact absurd (by assumption) hne | skip
        refine hold_in ?_
        refine' spec_use (tag_specI w _ cs _ (e1 + 2 + nm.length) _ _ ?hai hc hcb (by omega) (by omega)) ?B ?F ?X ?N ?T ?hh ?hA ?hf ?hk ?hd ?hu ?_
        case hai => push_cast; rfl
        walk_at "sides"
        rintro v9 n9 h9 tk9 ⟨pt, nl, tl, tn1, tn2, nvs, tevs, tex, ptk2, rfl, hnv, hnb, hte, hlt, htx, rfl⟩ F9 N9
        replace N9 := news_tag N9
        obtain ⟨t1P, t2P, t3P, t4P⟩ := lawTag_le (cs := cs) (a := e1 + 2 + nm.length) (by omega)
        have hnl := names_len hnv
        have htl := hte.length
        obtain ⟨tg, hT⟩ : ∃ tg, tg = lawTag cs (e1 + 2 + nm.length) := ⟨_, rfl⟩
        obtain ⟨tns, tes, P⟩ := tg
        rw [← hT] at N9 hnv hnb hte t1P t2P t3P t4P hnl htl
        dsimp only at N9 hnv hnb hte t1P t2P t3P t4P hnl htl
        have hq1 : tevs.length ≤ 100 := by omega
        have hq2 : nvs.length ≤ 100 := by omega
        have w1 : ∀ x ∈ tex, x.1 ≠ _ := fun x hx => Nat.ne_of_gt (htx x hx _ (.tail _ (.head _)))
        have w2 : ∀ x ∈ tex, x.1 ≠ el := fun x hx => Nat.ne_of_gt (htx x hx _ (.head _))
        have v1 := hlt _ (.tail _ (.head _))
        k_sweep
        by_cases hP : P = cs.length
        · subst hP
          obtain ⟨c2, hc2⟩ : ∃ c2, cs[cs.length - 1]? = some c2 := ⟨_, List.getElem?_eq_getElem (by omega)⟩
          have hsl := slash_sg hc2
          have hr := hread.symm.trans ((congrArg (fun z => readL cs z oD eD p last) (els_drop hei)).trans (readL_eof he1 h1 (by rw [← hT])))
          rw [← hT, ← hnE, hsl] at hr
          cases hs : (sg c2 == Str.ofString "/") with
          | true =>
            rw [hs, if_pos rfl] at hr
            (k_steps; repeat' ((refine hold_in ?_); (first | ((with_reducible show wpAny _ _ (call (Value.type _) _) _ _ _); ((k_dflt (refine' kde_tupleOf (by k_asm) (by k_asm) (by exact News.isList (by k_asm) (by k_mem)) (by simp only [List.size_toArray]; omega) (by exact rfl) ?_; k_whole); intro _ _ _ _ lx7; (try k_lt lx7); (try k_sweep)))) | ((with_reducible show wpAny _ _ (subscriptTail _ (Expr.UnaryOp _ _ _) _ _) _ _ _); ((k_dflt (refine' sub_last (by omega) (by with_reducible assumption) (by with_unfolding_all rfl) (by intro _; with_unfolding_all rfl) ?_); intro _ _))) | ((with_reducible show wpAny _ _ (binaryOp _ _ _) _ _ _); ((k_dflt (refine' add_lists9 (by k_asm) (by k_asm) (by k_mem) (by k_mem) (by omega) ?_); intro _ _ _ _ lx7; (try k_lt lx7); (try k_sweep)))) | ((with_reducible show wpAny _ _ (assign _ _ _) _ _ _); k_dflt (refine' unpackN_ (by k_asm) (by k_asm) (by exact News.isTup (by k_asm) (by k_mem)) (by assumption) (by exact rfl) (by exact rfl) ?_); intro _ _ _; (try k_sweep))); k_steps))
            all_goals first | exact absurd rfl (by assumption) | skip
            (with_reducible rename Fr _ _ _ _ => F7)
            (with_reducible rename News _ _ _ _ => N7)
            (with_reducible rename RetE _ _ _ _ => hret)
            first | refine fin_ret hret F7 (rd_end2 N7) rfl ⟨_, ?dd2, rfl⟩ | refine fin_next hret F7 (rd_end2 N7) rfl ⟨_, ?dd2, rfl⟩
            rw [hr]
            exact rd_datE (hod2.mono fun _ hp => List.mem_append.mpr (.inr hp)) ((hed2.mono fun _ hp => List.mem_append.mpr (.inr hp)).append (hte.mono fun _ hp => List.mem_append.mpr (.inl hp))) rfl rfl
          | false =>
            rw [hs, if_neg (by decide)] at hr
            (k_steps; repeat' ((refine hold_in ?_); (first | ((with_reducible show wpAny _ _ (call (Value.type _) _) _ _ _); ((k_dflt (refine' kde_tupleOf (by k_asm) (by k_asm) (by exact News.isList (by k_asm) (by k_mem)) (by simp only [List.size_toArray]; omega) (by exact rfl) ?_; k_whole); intro _ _ _ _ lx7; (try k_lt lx7); (try k_sweep)))) | ((with_reducible show wpAny _ _ (subscriptTail _ (Expr.UnaryOp _ _ _) _ _) _ _ _); ((k_dflt (refine' sub_last (by omega) (by with_reducible assumption) (by with_unfolding_all rfl) (by intro _; with_unfolding_all rfl) ?_); intro _ _))) | ((with_reducible show wpAny _ _ (binaryOp _ _ _) _ _ _); ((k_dflt (refine' add_lists9 (by k_asm) (by k_asm) (by k_mem) (by k_mem) (by omega) ?_); intro _ _ _ _ lx7; (try k_lt lx7); (try k_sweep)))) | ((with_reducible show wpAny _ _ (assign _ _ _) _ _ _); k_dflt (refine' unpackN_ (by k_asm) (by k_asm) (by exact News.isTup (by k_asm) (by k_mem)) (by assumption) (by exact rfl) (by exact rfl) ?_); intro _ _ _; (try k_sweep))); k_steps))
            all_goals first | exact absurd rfl (by assumption) | skip
            (with_reducible rename Fr _ _ _ _ => F7)
            (with_reducible rename News _ _ _ _ => N7)
            (with_reducible rename RetE _ _ _ _ => hret)
            first | refine fin_ret hret F7 (rd_end2 N7) rfl ⟨_, ?dd3, rfl⟩ | refine fin_next hret F7 (rd_end2 N7) rfl ⟨_, ?dd3, rfl⟩
            rw [hr]
            exact rd_datE (hod2.mono fun _ hp => List.mem_append.mpr (.inr hp)) ((hed2.mono fun _ hp => List.mem_append.mpr (.inr hp)).append (hte.mono fun _ hp => List.mem_append.mpr (.inl hp))) rfl rfl
        · have hPne : ¬ ((P : Nat) : Int) = (cs.length : Int) := by omega
          obtain ⟨c2, hc2⟩ : ∃ c2, cs[P - 1]? = some c2 := ⟨_, List.getElem?_eq_getElem (by omega)⟩
          have hsl := slash_sg hc2
          have hr := hread.symm.trans ((congrArg (fun z => readL cs z oD eD p last) (els_drop hei)).trans (readL_next he1 h1 (by rw [← hT]; exact hP)))
          rw [← hT, ← hnE] at hr
          (k_steps; repeat' ((refine hold_in ?_); (first | ((with_reducible show wpAny _ _ (call (Value.type _) _) _ _ _); ((k_dflt (refine' kde_tupleOf (by k_asm) (by k_asm) (by exact News.isList (by k_asm) (by k_mem)) (by simp only [List.size_toArray]; omega) (by exact rfl) ?_; k_whole); intro _ _ _ _ lx7; (try k_lt lx7); (try k_sweep)))) | ((with_reducible show wpAny _ _ (subscriptTail _ (Expr.UnaryOp _ _ _) _ _) _ _ _); ((k_dflt (refine' sub_last (by omega) (by with_reducible assumption) (by with_unfolding_all rfl) (by intro _; with_unfolding_all rfl) ?_); intro _ _))) | ((with_reducible show wpAny _ _ (binaryOp _ _ _) _ _ _); ((k_dflt (refine' add_lists9 (by k_asm) (by k_asm) (by k_mem) (by k_mem) (by omega) ?_); intro _ _ _ _ lx7; (try k_lt lx7); (try k_sweep)))) | ((with_reducible show wpAny _ _ (assign _ _ _) _ _ _); k_dflt (refine' unpackN_ (by k_asm) (by k_asm) (by exact News.isTup (by k_asm) (by k_mem)) (by assumption) (by exact rfl) (by exact rfl) ?_); intro _ _ _; (try k_sweep))); k_steps))
          all_goals first | exact absurd (by assumption) hPne | skip
          refine hold_in ?_
          (with_reducible rename Fr _ _ _ _ => F7)
          k_dflt (refine LCg.ListComp_U (F₀ := F7) (by with_unfolding_all rfl) (by decide) (by rfl) (by decide) (by rfl) ?_)
          (k_steps; repeat' ((refine hold_in ?_); (first | ((with_reducible show wpAny _ _ (call (Value.type _) _) _ _ _); ((k_dflt (refine' kde_tupleOf (by k_asm) (by k_asm) (by exact News.isList (by k_asm) (by k_mem)) (by simp only [List.size_toArray]; omega) (by exact rfl) ?_; k_whole); intro _ _ _ _ lx7; (try k_lt lx7); (try k_sweep)))) | ((with_reducible show wpAny _ _ (subscriptTail _ (Expr.UnaryOp _ _ _) _ _) _ _ _); ((k_dflt (refine' sub_last (by omega) (by with_reducible assumption) (by with_unfolding_all rfl) (by intro _; with_unfolding_all rfl) ?_); intro _ _))) | ((with_reducible show wpAny _ _ (binaryOp _ _ _) _ _ _); ((k_dflt (refine' add_lists9 (by k_asm) (by k_asm) (by k_mem) (by k_mem) (by omega) ?_); intro _ _ _ _ lx7; (try k_lt lx7); (try k_sweep)))) | ((with_reducible show wpAny _ _ (assign _ _ _) _ _ _); k_dflt (refine' unpackN_ (by k_asm) (by k_asm) (by exact News.isTup (by k_asm) (by k_mem)) (by assumption) (by exact rfl) (by exact rfl) ?_); intro _ _ _; (try k_sweep))); k_steps))
          refine hold_in ?_
          (with_reducible rename Fr _ _ _ _ => F6)
          (with_reducible rename News _ _ _ _ => N6)
          (with_reducible rename (_ ∧ _ ∧ _ ∧ _ ∧ _ ∧ AllLt _ _) => l6)
          refine LCg.CompSrc.ledger (by assumption) F6 N6 (.tail _ (.tail _ (.tail _ (.head _)))) (by rw [sizeLine_eq, List.size_toArray]; omega) ?_
          intro g6
          refine comp_rest (KJ tns _) nvs.toArray.size ?step ?fin _ 0 [] _ (Nat.zero_add _) ⟨[], .nil, rfl, fun _ h => nomatch h⟩
          case step =>
            rintro i3 ys news3 v3 I oI C oC D m₂ h3 tk3 E' hi3 hJ3 hv3 hN3 hx3 F8 N8 hO hne3
            obtain ⟨c3, ct3, hc3, rfl⟩ := names_at hnv (by simpa using hv3)
            (k_steps; repeat' ((refine hold_in ?_); (first | ((with_reducible show wpAny _ _ (call (Value.type _) _) _ _ _); ((k_dflt (refine' kde_tupleOf (by k_asm) (by k_asm) (by exact News.isList (by k_asm) (by k_mem)) (by simp only [List.size_toArray]; omega) (by exact rfl) ?_; k_whole); intro _ _ _ _ lx7; (try k_lt lx7); (try k_sweep)))) | ((with_reducible show wpAny _ _ (subscriptTail _ (Expr.UnaryOp _ _ _) _ _) _ _ _); ((k_dflt (refine' sub_last (by omega) (by with_reducible assumption) (by with_unfolding_all rfl) (by intro _; with_unfolding_all rfl) ?_); intro _ _))) | ((with_reducible show wpAny _ _ (binaryOp _ _ _) _ _ _); ((k_dflt (refine' add_lists9 (by k_asm) (by k_asm) (by k_mem) (by k_mem) (by omega) ?_); intro _ _ _ _ lx7; (try k_lt lx7); (try k_sweep)))) | ((with_reducible show wpAny _ _ (assign _ _ _) _ _ _); k_dflt (refine' unpackN_ (by k_asm) (by k_asm) (by exact News.isTup (by k_asm) (by k_mem)) (by assumption) (by exact rfl) (by exact rfl) ?_); intro _ _ _; (try k_sweep))); k_steps))
            (with_reducible rename Fr _ _ _ _ => F7)
            (with_reducible rename News _ _ _ _ => N7)
            (with_reducible rename (_ ∧ _ ∧ _ ∧ AllLt _ _) => l7)
            have l8 := allLt_lt l7.2.2.2
            have hJ4 := hJ3
            obtain ⟨kx3, _, e3, _⟩ := hJ4
            exact LCg.CompEnd.intro F7 N7 ((_, tup [.str (sg c3) ct3, .str (Str.ofString "") _]) :: news3) sub4 ⟨⟨Nat.ne_of_gt l7.1, Nat.ne_of_gt l7.2.1, Nat.ne_of_gt l7.2.2.1⟩, hO⟩ (.inr ⟨_, by rw [e3]; exact .tail _ (List.mem_append.mpr (.inr (.tail _ (.tail _ (.tail _ (.head _)))))), rfl, _, rfl⟩)
              (kj_step hJ3 hc3 fun y hy => l8 y (by rw [e3]; exact List.mem_append.mpr (.inr hy)))
          case fin =>
            rintro ys news3 ⟨kx, hkd, rfl, hkf⟩
            unfold LCg.FinE
            intro D9 h9 tk9 F9 N9 o9
            have o9' := off1_mem o9
            have hky : DatAll kx ys (tns.map atD) := by rw [List.take_of_length_le (by rw [List.size_toArray]; omega)] at hkd; exact hkd
            have hyl : ys.length ≤ 100 := by have := hky.length; rw [List.length_map] at this; omega
            replace N9 := news_kx N9
            have y1 : ∀ x ∈ kx, x.1 ≠ _ := fun x hx => Nat.ne_of_gt (hkf x hx _ (.tail _ (.tail _ (.tail _ (.tail _ (.tail _ (.head _)))))))
            have y2 := o9' _ (List.mem_append.mpr (.inr (.tail _ (.tail _ (.tail _ (.tail _ (.tail _ (.head _))))))))
            have y3 := Ne.symm y2
            have hP0 : (0 : Int) ≤ (P : Int) - 1 := by omega
            have hP1 : (P : Int) - 1 < (cs.length : Int) := by omega
            have hxP : cs[((P : Int) - 1).toNat]? = some c2 := by rw [← hc2]; congr 1; omega
            clear F6 N6
            k_sweep
            (k_steps; repeat' ((refine hold_in ?_); (first | ((with_reducible show wpAny _ _ (call (Value.type _) _) _ _ _); ((k_dflt (refine' kde_tupleOf (by k_asm) (by k_asm) (by exact News.isList (by k_asm) (by k_mem)) (by simp only [List.size_toArray]; omega) (by exact rfl) ?_; k_whole); intro _ _ _ _ lx7; (try k_lt lx7); (try k_sweep)))) | ((with_reducible show wpAny _ _ (subscriptTail _ (Expr.UnaryOp _ _ _) _ _) _ _ _); ((k_dflt (refine' sub_last (by omega) (by with_reducible assumption) (by with_unfolding_all rfl) (by intro _; with_unfolding_all rfl) ?_); intro _ _))) | ((with_reducible show wpAny _ _ (binaryOp _ _ _) _ _ _); ((k_dflt (refine' add_lists9 (by k_asm) (by k_asm) (by k_mem) (by k_mem) (by omega) ?_); intro _ _ _ _ lx7; (try k_lt lx7); (try k_sweep)))) | ((with_reducible show wpAny _ _ (assign _ _ _) _ _ _); k_dflt (refine' unpackN_ (by k_asm) (by k_asm) (by exact News.isTup (by k_asm) (by k_mem)) (by assumption) (by exact rfl) (by exact rfl) ?_); intro _ _ _; (try k_sweep))); k_steps))
            (with_reducible rename Fr _ _ _ _ => F7)
            (with_reducible rename News _ _ _ _ => N7)
            (with_reducible rename (_ ∧ _ ∧ _ ∧ _ ∧ _ ∧ _ ∧ _ ∧ AllLt _ _) => l8)
            (with_reducible rename (_ ∧ _ ∧ _ ∧ _ ∧ _ ∧ _ ∧ _ ∧ _ ∧ AllLt _ _) => l9)
            rw [hsl] at hr
            refine rd_turn (P := P) (oD := oD ++ [startD nm] ++ ((cs.drop p).take nE).map chN) (eD := eD ++ nulls p ((cs.drop p).take nE)) he (by omega) (by omega) hod2 hed2 hte hky hex2 hexo (fun y hy => ⟨qo1 y hy, fun x hx => hoff y hy x.1 (.tail _ (.tail _ (List.mem_map.mpr ⟨x, List.mem_append.mpr (.inr hx), rfl⟩)))⟩) htx l6 hkf l8 l9 (by omega) hr F7 N7 ?keep ?m1 ?m2 ?m3
            case keep =>
              intro z h1 h2 h3 h4 h5 h6 h7 h8 h9
              by_cases q4 : z = Str.ofString "out"
              · subst q4; with_unfolding_all rfl
              by_cases q5 : z = Str.ofString "text"
              · subst q5; with_unfolding_all rfl
              refine Eq.trans (?_ : _ = m₁ z) (hkeep z h1 h2 h3 h4 h5 h6 h7 h8 h9)
              simp only [up, if_neg h1, if_neg h2, if_neg h3, if_neg h4, if_neg h5, if_neg h6, if_neg h7, if_neg h8, if_neg h9, if_neg q4, if_neg q5]
            case m1 => with_unfolding_all rfl
            case m2 => exact ⟨_, by with_unfolding_all rfl⟩
            case m3 => exact ⟨_, by with_unfolding_all rfl⟩
end
end
section
open PySem PySem.W PyProof.Rows PyProof.V PySem.Spec PySem.Calls
noncomputable abbrev isIt (o : Obj) : Prop := o.cls = .type "list_iterator"
theorem dat_pick {Y Z : Led} (hp : ∀ p ∈ Y, ¬ isIt p.2 → p ∈ Z) {v : Value} {dd : Dat} (h : DatIn Y v dd) : DatIn Z v dd := by
  refine DatIn.rec (motive_1 := fun v dd _ => DatIn Z v dd) (motive_2 := fun vs ds _ => DatAll Z vs ds) ?_ ?_ ?_ ?_ ?_ ?_ ?_ ?_ ?_ h
  · exact .none
  · exact .bool
  · exact .int
  · exact .str
  · exact .bytes
  · intro a vs n ds hm _ ih
    exact .tuple (hp _ hm (by show ¬ Value.type "tuple" = Value.type "list_iterator"; decide)) ih
  · intro a vs n ds hm _ ih
    exact .list (hp _ hm (by show ¬ Value.type "list" = Value.type "list_iterator"; decide)) ih
  · exact .nil
  · intro v vs d ds _ _ h1 h2
    exact .cons h1 h2
theorem datAll_pick {Y Z : Led} (hp : ∀ p ∈ Y, ¬ isIt p.2 → p ∈ Z) : ∀ {vs : List Value} {ds : List Dat}, DatAll Y vs ds → DatAll Z vs ds
  | _, _, .nil => .nil
  | _, _, .cons h r => .cons (dat_pick hp h) (datAll_pick hp r)
theorem Rep.pick {cs : List Nat} {t : Nat} {R : Raw} {D : Option DRaw} {Y Z : Led} {A : Abs} (P : Rep cs t R D Y A) (hp : ∀ p ∈ Y, ¬ isIt p.2 → p ∈ Z) (hs : ∀ p ∈ Z, p ∈ Y) : Rep cs t R D Z A where
  sgs := P.sgs
  pos := P.pos
  state := P.state
  back := P.back
  outs := datAll_pick hp P.outs
  errs := datAll_pick hp P.errs
  buffer := P.buffer
  last := P.last
  done := P.done
  waiting := P.waiting
  handed := P.handed
  dr := by
    have q := P.dr
    cases hd : A.dr with
    | none => rw [hd] at q; cases D with
      | none => trivial
      | some D => exact q
    | some d => rw [hd] at q; cases D with
      | none => exact q
      | some D =>
        obtain ⟨q1, q2, q3, q4, q5, q6⟩ := q
        exact ⟨q1, q2, q3, datAll_pick hp q4, q5, ⟨fun p hp => q6.f1 p (hs p hp), fun p hp => q6.f2 p (hs p hp)⟩⟩
  ord := P.ord
  off := ⟨fun p hp => P.off.f1 p (hs p hp), fun p hp => P.off.f2 p (hs p hp), fun p hp => P.off.f3 p (hs p hp)⟩
theorem Rep.noneAt {cs : List Nat} {t : Nat} {R : Raw} {Y Z : Led} {A : Abs} (P : Rep cs t R none Y A) (h : ∀ p ∈ Y, p ∈ Z) (ho : Off R Z) : Rep cs t R none Z A where
  sgs := P.sgs
  pos := P.pos
  state := P.state
  back := P.back
  outs := P.outs.mono h
  errs := P.errs.mono h
  buffer := P.buffer
  last := P.last
  done := P.done
  waiting := P.waiting
  handed := P.handed
  dr := by
    have q := P.dr
    cases hd : A.dr with
    | none => trivial
    | some d => rw [hd] at q; exact q
  ord := P.ord
  off := ho
section
variable (w : World) (cs : List Nat) (t : Nat) (R : Raw) (rest : Led) (A : Abs)
/-- a start token is emitted -/
theorem start_rep (P : Rep cs t R none rest A) (hb : A.out.length ≤ 1000) (p q : Nat) (k1 k2 : Tok) (nm : List Nat) (hp : R.T.errors < p) (hq : (q, tup []) ∈ rest) :
    Spec w 369 [.ref t, .ref p] 10 20 (ML w t R ++ ((p, tup [.str (Str.ofString "start") k1, .str (tx nm) k2, .ref q, .bool false]) :: rest))
      (fun v nx => v = .none ∧ ∃ R', R'.T.states = R.T.states ∧ nx = ML w t R' ++ (DLo w none ++ ((p, tup [.str (Str.ofString "start") k1, .str (tx nm) k2, .ref q, .bool false]) :: rest)) ∧
        Rep cs t R' none ((p, tup [.str (Str.ofString "start") k1, .str (tx nm) k2, .ref q, .bool false]) :: rest) { A with out := A.out ++ [startD nm], last := nm }) := by
  have O2 := Off.cons (q := (p, tup [.str (Str.ofString "start") k1, .str (tx nm) k2, .ref q, .bool false])) hp P.ord P.off
  refine (emit_start_spec w t R rest p q k1 k2 (tx nm) false P.ord P.off (by rw [P.outs.length]; exact hb) hp).mono ?_
  rintro v n ⟨hv, rfl⟩
  have P2 := P.noneAt (Z := (p, tup [.str (Str.ofString "start") k1, .str (tx nm) k2, .ref q, .bool false]) :: rest) (fun _ h => .tail _ h) O2
  refine ⟨_, fun _ h => h, hv, { R with T := { R.T with last := tx nm, lsT := k2 }, outs := R.outs ++ [.ref p], on := R.on + 1 }, rfl, rfl, ?_⟩
  exact ⟨P2.sgs, P2.pos, P2.state, P2.back, P2.outs.append (.one (.tuple (n := 0) (.head _) (.cons (.str _ _) (.cons (.str _ _) (.cons (.tuple (vs := []) (n := 0) (.tail _ hq) .nil) (.cons (.bool _) .nil)))))), P2.errs, P2.buffer, rfl, P2.done, P2.waiting, P2.handed, DrRep.of (R := R) rfl rfl P2.dr, ⟨P.ord.o1, P.ord.o2, P.ord.o3, P.ord.o4, P.ord.o5, P.ord.o6⟩, ⟨O2.f1, O2.f2, O2.f3⟩⟩
end
open Classical in
/-- what is no list's iterator -/
noncomputable def clean (X : Led) : Led := X.filter fun p => decide (¬ isIt p.2)
theorem mem_clean {X : Led} {p : Addr × Obj} : p ∈ clean X ↔ p ∈ X ∧ ¬ isIt p.2 := by unfold clean; simp [List.mem_filter]
theorem own_off {h₀ h : Heap} {L : Addr} {nx own : Led} (N : News h₀ L h (nx ++ own)) (ho : ∀ p ∈ own, isIt p.2) (hq : ∀ q ∈ nx, ¬ isIt q.2 ∨ ∀ p ∈ own, @Ne Nat p.1 q.1) : OwnOff own (nx.map (·.1)) := by
  intro p hp b hb e
  obtain ⟨q, hqm, rfl⟩ := List.mem_map.mp hb
  rcases hq q hqm with h1 | h1
  · have e1 := (N p (List.mem_append.mpr (.inr hp))).1
    have e2 := (N q (List.mem_append.mpr (.inl hqm))).1
    have e' : p.1 = q.1 := e
    rw [e', e2] at e1
    exact h1 (by rw [Option.some.inj e1]; exact ho p hp)
  · exact h1 p hp e
theorem ml_it {w : World} {t : Nat} {R : Raw} : ∀ q ∈ ML w t R, ¬ isIt q.2 := by
  intro q hq
  simp only [List.mem_cons, List.not_mem_nil, or_false] at hq
  rcases hq with rfl | rfl | rfl | rfl | rfl | rfl | rfl
  · show ¬ Value.ref 464 = Value.type "list_iterator"; exact fun h => nomatch h
  · show ¬ Value.type "dict" = Value.type "list_iterator"; decide
  · show ¬ Value.ref 301 = Value.type "list_iterator"; exact fun h => nomatch h
  · show ¬ Value.type "dict" = Value.type "list_iterator"; decide
  · show ¬ Value.type "list" = Value.type "list_iterator"; decide
  · show ¬ Value.type "list" = Value.type "list_iterator"; decide
  · show ¬ Value.type "list" = Value.type "list_iterator"; decide
section
variable {w : World} {cs : List Nat} {els : List (Kd × List Nat)} {d t : Nat} {rest0 own X : Led} {R : Raw} {D : Option DRaw} {A : Abs} {h₀ h' : Heap} {L : Addr} {m₀ m' : PySem.Str → Option Value}
theorem rep_tidy (hown : ∀ p ∈ own, isIt p.2) (P : Rep cs t R D (X ++ (rest0 ++ own)) A) : Rep cs t R D (clean X ++ rest0) A :=
  P.pick (fun p hp hi => by
    rcases List.mem_append.mp hp with hp | hp
    · exact List.mem_append.mpr (.inl (mem_clean.mpr ⟨hp, hi⟩))
    · rcases List.mem_append.mp hp with hp | hp
      · exact List.mem_append.mpr (.inr hp)
      · exact absurd (hown p hp) hi) fun p hp => by
    rcases List.mem_append.mp hp with hp | hp
    · exact List.mem_append.mpr (.inl (mem_clean.mp hp).1)
    · exact List.mem_append.mpr (.inr (List.mem_append.mpr (.inl hp)))
theorem tidy_sub {w : World} : ∀ p ∈ (ML w t R ++ (DLo w D ++ (clean X ++ rest0))) ++ own, p ∈ ML w t R ++ (DLo w D ++ (X ++ (rest0 ++ own))) := by
  intro p hp
  simp only [List.mem_append] at hp ⊢
  rcases hp with (h | h | h | h) | h
  · exact .inl h
  · exact .inr (.inl h)
  · exact .inr (.inr (.inl (mem_clean.mp h).1))
  · exact .inr (.inr (.inr (.inl h)))
  · exact .inr (.inr (.inr (.inr h)))
/-- the next turn of the law's loop -/
theorem law_next {l : Addr} {lo : Obj} {i tk : Nat} {s₁ : Shared} (F : Fr h₀ L h' m') (N : News h₀ L h' (ML w t R ++ (DLo w D ++ (X ++ (rest0 ++ own))))) (P : Rep cs t R D (X ++ (rest0 ++ own)) A) (hst : R.T.states = d)
    (hown : ∀ p ∈ own, isIt p.2) (hoff : ∀ p ∈ own, ∀ q ∈ rest0, @Ne Nat p.1 q.1) (hmem : (l, lo) ∈ rest0) (hdn : A.done = false) (hdr : A.dr = none) (hsd : A.st = .data) (I : Inv cs (i + 1) A) (hlaw : lawA cs (els.drop (i + 1)) A = lawA cs els A0)
    (hm : ∀ z, z ≠ Str.ofString "kind" → z ≠ Str.ofString "name" → m' z = m₀ z) :
    InvEndG h₀ L (fun m' nx => (l, lo) ∈ nx ∧ Two (Str.ofString "kind") (Str.ofString "name") m₀ (LawS w cs els d t rest0 (i + 1)) m' nx) own s₁ { s₁ with heap := h', toks := tk } := by
  have hD : D = none := by
    cases D with
    | none => rfl
    | some D => have q := P.dr; rw [hdr] at q; exact q.elim
  subst hD
  have o := I.out
  rw [show pend A = 0 by unfold pend; rw [hsd]] at o
  have N2 := cb_drop N (tidy_sub (R := R) (D := none) (X := X) (rest0 := rest0) (own := own) (t := t) (w := w))
  refine inv_end F N2 ⟨List.mem_append.mpr (.inr (List.mem_append.mpr (.inr (List.mem_append.mpr (.inr hmem))))), hm, R, none, clean X, A, rfl, hst, rep_tidy hown P, hdn, hdr, hsd, I.pos hdn, o, I.errs, I.buf, hlaw⟩ (own_off N2 hown fun q hq => ?_)
  rcases List.mem_append.mp hq with hq | hq
  · exact .inl (ml_it q hq)
  · rcases List.mem_append.mp hq with hq | hq
    · cases hq
    · rcases List.mem_append.mp hq with hq | hq
      · exact .inl (mem_clean.mp hq).2
      · exact .inr fun p hp => hoff p hp q hq
/-- the break out of the law's loop -/
theorem law_brk {tk : Nat} {s₁ : Shared} (F : Fr h₀ L h' m') (N : News h₀ L h' (ML w t R ++ (DLo w D ++ (X ++ (rest0 ++ own))))) (P : Rep cs t R D (X ++ (rest0 ++ own)) A) (hst : R.T.states = d)
    (hown : ∀ p ∈ own, isIt p.2) (hlaw : A = lawA cs els A0) (hm : ∀ z, z ≠ Str.ofString "kind" → z ≠ Str.ofString "name" → m' z = m₀ z) :
    ∃ m nx h tk', ({ s₁ with heap := h', toks := tk } : Shared) = { s₁ with heap := h, toks := tk' } ∧ Two (Str.ofString "kind") (Str.ofString "name") m₀ (LawB w cs els d t rest0) m nx ∧ Fr h₀ L h m ∧ News h₀ L h nx := by
  have N2 := cb_drop N (tidy_sub (R := R) (D := D) (X := X) (rest0 := rest0) (own := own) (t := t) (w := w))
  exact ⟨m', _, h', tk, rfl, ⟨hm, R, D, clean X, rfl, hst, hlaw ▸ rep_tidy hown P⟩, F, fun p hp => N2 p (List.mem_append.mpr (.inl hp))⟩
end
/-- an element's turn that does not end the text -/
theorem turn_go {cs : List Nat} {A : Abs} {k : Kd} {name : List Nat} {i : Nat} (hok : ElOk (k, name)) (hdn : A.done = false) (hdr : A.dr = none) (hp : A.pos ≤ cs.length) (hc : cs.length ≤ 40) (ho : A.out.length ≤ A.pos + i) (he : A.errs.length ≤ 2 * A.pos) (hb : A.buffer.length ≤ A.pos) :
    Inv cs (i + 1) (startA A (k, name)) ∧ ((fin cs (startA A (k, name))).done = false → Inv cs (i + 1) (fin cs (startA A (k, name))) ∧ (fin cs (startA A (k, name))).dr = none ∧ (fin cs (startA A (k, name))).st = .data) := by
  obtain ⟨hne, hname⟩ := hok.of
  have I : Inv cs (i + 1) (startA A (k, name)) := ⟨hc, fun _ => hp, by simp [startA, pend]; omega, he, hb, (fun d h => by rw [show (startA A (k, name)).dr = A.dr from rfl, hdr] at h; cases h), hne, hdr⟩
  refine ⟨I, fun hd => ?_⟩
  obtain ⟨IF, h⟩ := turn_law A k name hname hne hdn hdr hp (i + 1) I
  refine ⟨IF, ?_⟩
  split at h
  · have hd2 : (fin cs (startA A (k, name))).done = true := congrArg Res.done h
    rw [hd] at hd2; cases hd2
  · split at h
    · have hd2 : (fin cs (startA A (k, name))).done = true := congrArg Res.done h
      rw [hd] at hd2; cases hd2
    · exact ⟨h.2.2.2.2.2.2.1, h.2.2.2.1⟩
theorem news_start {h₀ h : Heap} {L : Addr} {p q e a1 a2 a3 a4 a5 a6 a7 : Addr × Obj} {Y : Led} (N : News h₀ L h (p :: q :: e :: a1 :: a2 :: a3 :: a4 :: a5 :: a6 :: a7 :: Y)) : News h₀ L h ([a1, a2, a3, a4, a5, a6, a7] ++ (p :: q :: Y)) := by
  intro z hz
  apply N
  simp only [List.mem_cons, List.mem_append, List.not_mem_nil, or_false, or_assoc] at hz ⊢
  rcases hz with h | h | h | h | h | h | h | h | h | h <;> simp [h]
theorem app_run {a b : Addr × Obj} {x y z r : Led} : x ++ (y ++ (a :: b :: (z ++ r))) = (x ++ (y ++ (a :: b :: z))) ++ r := by simp
/-- what the tokenizer shows at the end, as data -/
theorem law_dat {cs : List Nat} {t : Nat} {R : Raw} {D : Option DRaw} {Y news : Led} {A : Abs} (P : Rep cs t R D Y A) {p : Nat} {k1 k2 k3 : Tok} (hp : (p, tup [.ref R.T.out, .ref R.T.errors, .int R.T.vat k1, .str R.T.state k2, .bool R.T.done, .str R.T.last k3]) ∈ news)
    (ho : (R.T.out, listOf R.outs.toArray R.on) ∈ news) (he : (R.T.errors, listOf R.ers.toArray R.en) ∈ news) (hy : ∀ q ∈ Y, q ∈ news) : DatIn news (.ref p) (resD (resOf A)) := by
  show DatIn news _ (.tuple [.list A.out, .list A.errs, .int A.pos, .str (stS A.st), .bool A.done, .str (tx A.last)])
  rw [← P.pos, ← P.state, ← P.done, ← P.last]
  exact .tuple (n := 0) hp (.cons (.list ho (P.outs.mono hy)) (.cons (.list he (P.errs.mono hy)) (.cons (.int _ _) (.cons (.str _ _) (.cons (.bool _) (.cons (.str _ _) .nil))))))
theorem dat_res {news : Led} {v : Value} {r : Res} (h : DatIn news v (resD r)) : ∃ a, v = .ref a := by
  have h' : DatIn news v (.tuple [.list r.out, .list r.errs, .int r.pos, .str (stS r.st), .bool r.done, .str (tx r.last)]) := h
  cases h' with
  | tuple hm hr => exact ⟨_, rfl⟩
/-- the law's loop so far, taken apart away from the walk -/
theorem lawS_open {G : Prop} {w : World} {cs : List Nat} {els : List (Kd × List Nat)} {d t : Nat} {rest0 : Led} {i : Nat} {nx : Led} (h : LawS w cs els d t rest0 i nx)
    (k : ∀ (R : Raw) (ex1 : Led) (A : Abs), R.T.states = d → Rep cs t R none (ex1 ++ rest0) A → A.done = false → A.dr = none → A.st = .data → A.pos ≤ cs.length → A.out.length ≤ A.pos + i → A.errs.length ≤ 2 * A.pos → A.buffer.length ≤ A.pos →
      lawA cs (els.drop i) A = lawA cs els A0 → nx = ML w t R ++ (DLo w none ++ (ex1 ++ rest0)) → G) : G := by
  obtain ⟨R, D, ex1, A, h1, h2, h3, h4, h5, h6, h7, h8, h9, h10, h11⟩ := h
  have hD : D = none := by
    cases D with
    | none => rfl
    | some D => have q := h3.dr; rw [h5] at q; exact q.elim
  subst hD
  exact k R ex1 A h2 h3 h4 h5 h6 h7 h8 h9 h10 h11 h1
end
example : True := by w_top off; trivial
section
open PyProof.V PySem.Spec PySem.Calls
theorem news_mo {h₀ h : Heap} {L : Addr} {er ou se si st sd t td : Addr × Obj} {rest : Led} (N : News h₀ L h (er :: ou :: se :: si :: st :: sd :: t :: td :: rest)) : News h₀ L h ([t, td, st, sd, si, ou, er, se] ++ rest) := by
  intro p hp
  apply N
  simp only [List.mem_cons, List.mem_append, List.not_mem_nil, or_false, or_assoc] at hp ⊢
  rcases hp with h | h | h | h | h | h | h | h | h <;> simp [h]
/-- the tokenizer as it is made -/
structure Made (R : Raw) (d t : Nat) : Prop where
  vs : R.vs = []
  outs : R.outs = []
  ers : R.ers = []
  vat : R.T.vat = 0
  state : R.T.state = Str.ofString "data"
  back : R.T.back = Str.ofString "data"
  draft : R.T.draft = .none
  buffer : R.T.buffer = Str.ofString ""
  last : R.T.last = Str.ofString ""
  waiting : R.T.waiting = false
  done : R.T.done = false
  states : R.T.states = d
  ord : Ord t R
  s1 : R.signs < R.serr
  s2 : R.serr < R.T.out
  low : d < R.td
set_option hygiene false
local macro_rules | `(tactic| walk_at "execs cons") => `(tactic| (dsimp only; walk_at "execs cons"))
set_option hygiene true
theorem tok_new_spec (w : World) (d : Nat) (rest : Led) (o : Obj) (hdm : (d, o) ∈ rest) :
    Spec w 464 [.ref d] 60 120 rest (fun v n => ∃ (t : Nat) (R : Raw), v = .ref t ∧ Made R d t ∧ (∀ p ∈ rest, @LT.lt Nat _ p.1 R.td) ∧ n = MO w t R false [] 0 ++ rest) := by
  k_dflt (refine' spec_cls (bs := fun x => [(Str.ofString "self", Value.ref x), (Str.ofString "states", Value.ref d), (Str.ofString "state", Value.str (Str.ofString "data") 558), (Str.ofString "last", Value.str (Str.ofString "") 559)]) ?hm ?hi ?hfn ?ho ?hcd ?hb ?hl ?hs ?_; (case hm => k_is); (case hi => k_is); (case hfn => k_is); (case ho => k_is); (case hcd => k_is); (case hb => exact fun x s X => binds_K X rfl (by k_is) rfl rfl rfl); (case hl => exact fun x => locs rfl); (case hs => exact rfl); k_whole)
  intro mean mg mb A A₀ outer base g L s q x dx l1 l2 F' N' B' X' T' hh hA hd' hu hret
  have l3 := ltN (l1 _ hdm)
  (try dsimp only at l3)
  (try dsimp only)
  k_steps
  (with_reducible rename Fr _ _ _ _ => F9)
  (with_reducible rename News _ _ _ _ => N8)
  obtain ⟨R, N7, M, e⟩ : ∃ R : Raw, News _ _ _ (MO w x R false [] 0 ++ rest) ∧ Made R d x ∧ R.td = dx :=
    ⟨{ td := dx, T := { kt := fun n => [_, _, _, _, _, _, _, _, _, _, _, _, _, _].getD n 0, states := d, stream := _, vat := 0, atT := _, state := Str.ofString "data", stT := _, back := Str.ofString "data", bkT := _, out := _, errors := _, draft := .none, buffer := Str.ofString "", bfT := _, code := _, last := Str.ofString "", lsT := _, foreign := false, waiting := false, done := false }, sd := _, signs := _, serr := _, k := fun n => [_, _, _, _].getD n 0, vs := [], sn := 0, outs := [], on := 0, ers := [], en := 0 },
      news_mo N8, ⟨rfl, rfl, rfl, rfl, rfl, rfl, rfl, rfl, rfl, rfl, rfl, rfl, ⟨by (try dsimp only); omega, by (try dsimp only); omega, by (try dsimp only); omega, by (try dsimp only); omega, by (try dsimp only); omega, by (try dsimp only); omega⟩, by (try dsimp only); omega, by (try dsimp only); omega, by (try dsimp only); omega⟩, rfl⟩
  refine fin_next hret F9 N7 rfl ⟨rfl, x, R, rfl, M, ?_, rfl⟩
  rw [e]
  exact l1
end
example : True := by w_top off; trivial
section
open PyProof.V PySem.Spec PySem.Calls
set_option hygiene false
local macro_rules | `(tactic| walk_at "exec For Tuple Name cons nil") => `(tactic| (k_here; (with_reducible rename Fr _ _ _ _ => lF'); (with_unfolding_all refine' For_turns lF' ?_; k_whole)))
local macro_rules | `(tactic| walk_at "compareOp Eq ref ref") => `(tactic| refine hold_out ?_)
set_option hygiene true
theorem made_law {w : World} {R : Raw} {cs : List Nat} {els : List (Kd × List Nat)} {d t sn : Nat} {vs : List Value} {rest0 exf : Led} (M : Made R d t) (hsg : SignsAre vs cs) (O : Ord t R) (hfl : ∀ p ∈ exf, R.T.errors < p.1) (Z0 : ∀ p ∈ rest0, @LT.lt Nat _ p.1 R.td) :
    LawS w cs els d t rest0 0 (ML w t { R with vs := vs, sn := sn } ++ (exf ++ rest0)) := by
  obtain ⟨o1, o2, o3, o4, o5, o6⟩ := O
  have Z1 : Off R rest0 := ⟨fun p hp => Nat.ne_of_lt (Z0 p hp), fun p hp => Nat.ne_of_lt (Nat.lt_trans (Z0 p hp) (by omega)), fun p hp => Nat.ne_of_lt (Nat.lt_trans (Z0 p hp) (by omega))⟩
  have Z2 := Off.many hfl ⟨o1, o2, o3, o4, o5, o6⟩ Z1
  refine ⟨{ R with vs := vs, sn := sn }, none, exf, A0, rfl, M.states, ?_, rfl, rfl, rfl, Nat.zero_le _, Nat.zero_le _, Nat.zero_le _, Nat.zero_le _, rfl⟩
  exact ⟨hsg, M.vat, M.state, M.back, by (show DatAll _ R.outs []); rw [M.outs]; exact .nil, by (show DatAll _ R.ers []); rw [M.ers]; exact .nil, M.buffer, M.last, M.done, M.waiting, by (show handedIn R.T.draft = true); rw [M.draft]; rfl, trivial, ⟨o1, o2, o3, o4, o5, o6⟩, ⟨Z2.f1, Z2.f2, Z2.f3⟩⟩
theorem main : PySem.Challenge.rw_nt0604_01.Holds := hd (by
  k_go0
  (with_reducible rename IntsAre _ _ => hI)
  (with_reducible rename ¬ _ < _ => hn)
  (with_reducible rename Heap.IsList _ _ _ => hL)
  refine' open_AQ (outer := []) ?hh0 ?hA0 ?hd0 ?hu0 ?_
  case hh0 => exact rfl
  case hA0 => exact rfl
  case hd0 => ktr_room
  case hu0 => ktr_units
  intro AQ qQ hhQ hAQ hdQ huQ HQ
  k_steps
  refine hold_in ?_
  refine' specL_use (elements_spec _ _ _ _ _ hI (by omega)) ?B ?F ?X ?N hL ?T ?hh ?hA ?hf ?hk ?hd ?hu ?_
  walk_at "sides"
  rintro v9 n9 h9 tk9 ⟨e, ne, evs, ex, els, rfl, hel, hok, hex, hdat, rfl⟩ F9 N9
  simp only [List.append_nil] at N9
  k_sweep
  k_steps
  refine hold_in ?_
  refine' specL_use (text_spec _ _ _ _ _ hI (by omega)) ?B ?F ?X ?N hL ?T ?hh ?hA ?hf ?hk ?hd ?hu ?_
  walk_at "sides"
  rintro v9 n9 h9 tk9 ⟨cs, ctk, rfl, hcs, hc13, rfl⟩ F9 N9
  k_sweep
  k_steps
  refine hold_in ?_
  refine' spec_use (states_spec _ _) ?B ?F ?X ?N ?T ?hh ?hA ?hf ?hk ?hd ?hu ?_
  walk_at "sides"
  rintro v9 n9 h9 tk9 ⟨d, o, kvs, rfl, hdl, hdm, hdo, hdv, rfl⟩ F9 N9
  k_sweep
  k_steps
  refine hold_in ?_
  (with_reducible rename World => w)
  refine' spec_use (tok_new_spec w d ((d, o) :: (e, listOf evs.toArray ne) :: ex) o (.head _)) ?B ?F ?X ?N ?T ?hh ?hA ?hf ?hk ?hd ?hu ?_
  walk_at "sides"
  rintro v9 n9 h9 tk9 ⟨t, R, rfl, M, Z0, rfl⟩ F9 N9
  k_sweep
  k_steps
  refine hold_in ?_
  (with_reducible rename News _ _ _ _ => N7)
  refine' spec_use (tfeed_spec w _ R _ cs ctk 0 M.vs M.waiting M.ord M.s1 M.s2 (by omega) (fun c hc => (hc13 c hc).1) Z0) ?B ?F ?X N7 ?T ?hh ?hA ?hf ?hk ?hd ?hu ?_
  case hA => first | with_reducible assumption | exact rfl
  case hh => first | with_reducible assumption | exact rfl
  case hf => exact rfl
  case F => k_asm
  case B => k_asm
  case X => k_asm
  case T => k_asm
  case hk => exact rfl
  case hd => ktr_room
  case hu => ktr_units
  rintro v9 n9 h9 tk9 ⟨rfl, vs, sn, ev, en, exf, hsg, hfr, rfl⟩ F9 N9
  clear N7
  k_sweep
  k_steps
  refine hold_in ?_
  have O := M.ord
  have hfl : ∀ p ∈ exf, R.T.errors < p.1 := fun p hp => (hfr p hp).a
  refine' spec_use (tend_spec w _ { R with vs := vs, sn := sn } (exf ++ ((d, o) :: (e, listOf evs.toArray ne) :: ex)) ev en M.waiting ⟨O.o1, O.o2, O.o3, O.o4, O.o5, O.o6⟩ M.s1 M.s2
    (List.forall_mem_append.mpr ⟨fun p hp => Nat.ne_of_gt (Nat.lt_trans (Nat.lt_trans O.o1 (Nat.lt_trans O.o2 (Nat.lt_trans O.o3 (Nat.lt_trans O.o4 (Nat.lt_trans O.o5 O.o6))))) (hfl p hp)), fun p hp => Nat.ne_of_lt (Z0 p hp)⟩)
    (List.forall_mem_append.mpr ⟨fun p hp => Nat.ne_of_gt (Nat.lt_trans (Nat.lt_trans O.o3 (Nat.lt_trans O.o4 (Nat.lt_trans O.o5 O.o6))) (hfl p hp)), fun p hp => Nat.ne_of_lt (Nat.lt_trans (Z0 p hp) (Nat.lt_trans O.o1 O.o2))⟩)) ?B ?F ?X ?N ?T ?hh ?hA ?hf ?hk ?hd ?hu ?_
  walk_at "sides"
  rintro v9 n9 h9 tk9 ⟨rfl, rfl⟩ F9 N9
  k_sweep
  k_steps
  refine hold_in ?_
  (with_reducible rename Fr _ _ _ _ => F9)
  (with_reducible rename News _ _ _ _ => N9)
  obtain ⟨rest0, hR⟩ : ∃ r, r = (d, o) :: (e, listOf evs.toArray ne) :: ex := ⟨_, rfl⟩
  have hdR : (d, o) ∈ rest0 := by rw [hR]; exact .head _
  have heR : (e, listOf evs.toArray ne) ∈ rest0 := by rw [hR]; exact .tail _ (.head _)
  have hdatR : DatAll rest0 evs (els.map elD) := hdat.mono fun _ hp => by rw [hR]; exact .tail _ (.tail _ hp)
  rw [← hR] at N9 Z0
  have J0 := made_law (w := w) (els := els) (sn := sn) M hsg O hfl Z0
  have hlen : evs.length = els.length := by have := hdat.length; rw [List.length_map] at this; exact this
  refine loop_law (l := e) (vs := evs) (nn := ne) J0 hhQ ?hl F9 N9 ?turn ?done
  case hl => exact List.mem_append.mpr (.inr (List.mem_append.mpr (.inr heR)))
  case done =>
    clear F9 N9
    rintro u nx h tk hJ F9 N9
    rw [hlen] at hJ
    obtain ⟨R1, D1, ex1, rfl, hst, P1⟩ := law_end hJ
    k_steps
    refine hold_in ?_
    refine' spec_use (read_spec w _ cs _ e ne evs els (by omega) (fun c hc => (hc13 c hc).2) ?he9 ?hdat9 hel hok) ?B ?F ?X ?N ?T ?hh ?hA ?hf ?hk ?hd ?hu ?_
    walk_at "sides"
    case he9 => exact .tail _ (List.mem_append.mpr (.inr (List.mem_append.mpr (.inr (List.mem_append.mpr (.inr heR))))))
    case hdat9 => exact hdatR.mono fun _ hp => .tail _ (List.mem_append.mpr (.inr (List.mem_append.mpr (.inr (List.mem_append.mpr (.inr hp))))))
    rintro v9 n9 h9 tk9 ⟨exr, hdres, rfl⟩ F9 N9
    obtain ⟨va, rfl⟩ := dat_res hdres
    k_sweep
    k_steps
    refine hold_in ?_
    (with_reducible rename News _ _ _ _ => N7)
    have hlr : resOf (lawA cs els A0) = readL cs els [] [] 0 [] := law_read els A0 0 hok rfl rfl rfl (Nat.zero_le _) (by omega) (Nat.zero_le _) (Nat.zero_le _) (Nat.zero_le _)
    refine eq_okD N7 (d := resD (resOf (lawA cs els A0))) (law_dat P1 (List.mem_append.mpr (.inr (.head _))) (List.mem_append.mpr (.inr (.tail _ (List.mem_append.mpr (.inl (.tail _ (.tail _ (.tail _ (.tail _ (.tail _ (.head _)))))))))))
      (List.mem_append.mpr (.inr (.tail _ (List.mem_append.mpr (.inl (.tail _ (.tail _ (.tail _ (.tail _ (.tail _ (.tail _ (.head _))))))))))))
      fun q hq => List.mem_append.mpr (.inr (.tail _ (List.mem_append.mpr (.inr (List.mem_append.mpr (.inr hq))))))) ?db ?ok8 ?hu8 ?_
    case db => rw [hlr]; exact hdres.mono fun _ h => List.mem_append.mpr (.inl h)
    case ok8 => rw [hlr]; exact okD_res (okD_read (fun c hc => (hc13 c hc).2) els [] [] 0 [] hok (fun _ h => nomatch h) (fun _ h => nomatch h) (by decide +kernel))
    case hu8 => ktr_units
    refine HQ _ _ ?_
    dsimp only
    refine goodW_bool (by with_reducible assumption) (by with_reducible assumption) (raisesW_false ?_) ?_
    · wrow_none_raised
    · with_unfolding_all rfl
  case turn =>
    clear F9 N9
    intro u i v nx h tk own hv hown hoff hmem hJ F8 N8
    refine lawS_open hJ ?_
    intro R1 ex1 A1 hst P1 hdn hdr hsd hpos hb1 hb2 hb3 hlaw enx
    refine dat_open hdatR hv ?_
    intro k nm p n0 t1 t2 he ev hp
    subst enx
    subst ev
    clear hJ
    have hi4 : i < 4 := by rw [← hel]; exact (List.getElem?_eq_some_iff.mp he).1
    obtain ⟨IS, hgo⟩ := turn_go (hok _ (List.mem_of_getElem? he)) hdn hdr hpos (by omega) hb1 hb2 hb3
    have hturn := law_turn he hlaw
    have hoffR : ∀ y ∈ own, ∀ q ∈ rest0, @Ne Nat y.1 q.1 := fun y hy q hq => hoff y hy q.1 (List.mem_map.mpr ⟨q, List.mem_append.mpr (.inr (List.mem_append.mpr (.inr (List.mem_append.mpr (.inr hq))))), rfl⟩)
    have Oown : Off R1 own := ⟨hoff.ne (.tail _ (.head _)), hoff.ne (.tail _ (.tail _ (.tail _ (.tail _ (.tail _ (.head _)))))), hoff.ne (.tail _ (.tail _ (.tail _ (.tail _ (.tail _ (.tail _ (.head _)))))))⟩
    have N8' := news_dup N8 (List.mem_append.mpr (.inl (List.mem_append.mpr (.inr (List.mem_append.mpr (.inr (List.mem_append.mpr (.inr hp))))))))
    clear N8
    simp only [DLo, List.nil_append, List.cons_append, List.append_assoc] at N8'
    k_steps
    (k_dflt (refine' unpackN_ (by k_asm) (by k_asm) (by exact News.isTup (by k_asm) (by k_mem)) (by assumption) (by exact rfl) (by exact rfl) ?_); intro _ _ _; (try k_sweep))
    k_steps
    refine hold_in ?_
    (with_reducible rename News _ _ _ _ => N7)
    (with_reducible rename (_ ∧ _ ∧ _ ∧ _ ∧ _ ∧ _ ∧ _ ∧ _ ∧ _ ∧ AllLt _ _) => l9)
    (with_reducible rename (_ ∧ _ ∧ _ ∧ _ ∧ _ ∧ _ ∧ _ ∧ _ ∧ AllLt _ _) => l8)
    have P2 := P1.noneAt (Z := (_, tup []) :: (ex1 ++ (rest0 ++ own))) (fun z hz => .tail _ (by rw [← List.append_assoc]; exact List.mem_append.mpr (.inl hz))) (Off.cons l8.2.2.2.2.2.2.2.1 P1.ord (by rw [← List.append_assoc]; exact P1.off.app Oown))
    refine' spec_use (start_rep w cs _ R1 _ A1 P2 (by omega) _ _ _ _ nm l9.2.2.2.2.2.2.2.2.1 (.head _)) ?B ?F ?X (news_start N7) ?T ?hh ?hA ?hf ?hk ?hd ?hu ?_
    case hA => first | with_reducible assumption | exact rfl
    case hh => first | with_reducible assumption | exact rfl
    case hf => exact rfl
    case F => k_asm
    case B => k_asm
    case X => k_asm
    case T => k_asm
    case hk => exact rfl
    case hd => ktr_room
    case hu => ktr_units
    rintro v9 n9 h9 tk9 ⟨rfl, R2, e2, rfl, P3⟩ F9 N9
    clear N7
    k_sweep
    k_steps
    refine hold_in ?_
    have C2 := to_rep w cs _ R2 none _ _ P3 (.held k) t1
    rw [stS_held] at C2
    refine' spec_use C2 ?B ?F ?X ?N ?T ?hh ?hA ?hf ?hk ?hd ?hu ?_
    walk_at "sides"
    clear C2
    rintro v9 n9 h9 tk9 ⟨rfl, R3, ex3, e3, rfl, P4⟩ F9 N9
    k_sweep
    k_steps
    refine hold_in ?_
    have P5 : Rep cs _ R3 none _ (startA A1 (k, nm)) := P4
    have B3 : StTab w R3 o kvs := ⟨by rw [e3, e2, hst]; exact hdm, hdo, hdv⟩
    have ho3 : (R3.T.states, o) ∈ rest0 := by rw [e3, e2, hst]; exact hdR
    refine' spec_use (run_spec w cs _ R3 _ _ none o kvs B3 (List.mem_append.mpr (.inr (.tail _ (.tail _ (List.mem_append.mpr (.inr (List.mem_append.mpr (.inl ho3)))))))) (i + 1) P5 IS (by omega)) ?B ?F ?X ?N ?T ?hh ?hA ?hf ?hk ?hd ?hu ?_
    walk_at "sides"
    rintro v9 n9 h9 tk9 ⟨R4, D4, ex4, rfl, e4, rfl, P6, I6, hrd⟩ F9 N9
    k_sweep
    rw [show runA cs (mA cs (startA A1 (k, nm))) (startA A1 (k, nm)) = fin cs (startA A1 (k, nm)) from rfl] at P6 I6 hrd ⊢
    have hs4 : R4.T.states = d := e4.trans (e3.trans (e2.trans hst))
    rw [app_run] at P6
    cases hdone : (fin cs (startA A1 (k, nm))).done with
    | true =>
      rw [hdone, if_pos rfl] at hturn
      k_steps
      (with_reducible rename Fr _ _ _ _ => F7)
      (with_reducible rename News _ _ _ _ => N7)
      rw [app_run] at N7
      exact law_brk F7 N7 P6 hs4 hown hturn fun z h1 h2 => by simp only [up, if_neg h1, if_neg h2]
    | false =>
      rw [hdone, if_neg (by decide)] at hturn
      obtain ⟨g1, g2, g3⟩ := hgo hdone
      k_steps
      (with_reducible rename Fr _ _ _ _ => F7)
      (with_reducible rename News _ _ _ _ => N7)
      rw [app_run] at N7
      exact law_next F7 N7 P6 hs4 hown hoffR heR hdone g2 g3 g1 hturn fun z h1 h2 => by simp only [up, if_neg h1, if_neg h2])
end
end Mine
set_option maxRecDepth 100000 in
set_option maxHeartbeats 8000000 in
theorem PySem.Challenge.cw_nt0604_01_holds : PySem.Challenge.rw_nt0604_01.Holds :=
  Mine.main
