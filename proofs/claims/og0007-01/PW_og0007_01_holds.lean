import PyProof.Rows.All
import Wide.All
import OpenK.AllK
import Wide.FinOn
import KE.KDictOf
import Lean
import PySem.Challenge.RW_og0007_01
set_option compiler.extract_closed false
open PySem PySem.W PyProof.Rows
set_option Elab.async false
set_option maxRecDepth 100000
set_option maxHeartbeats 8000000
namespace Mine
name_quick tw13016732220969518872 for PySem.W.S.findZ by PySem.W.S.findZ_eq
name_quick tw665041685074018074 for PySem.W.S.findZ by PySem.W.S.findZ_eq
name_quick tw15263041282635125899 for PySem.W.S.findZ by PySem.W.S.findZ_eq
name_quick tw2719445374943340272 for PySem.W.S.findZ by PySem.W.S.findZ_eq
name_quick tw12835720964997663042 for PySem.W.S.findZ by PySem.W.S.findZ_eq
name_quick tw12866136484021002089 for PySem.W.S.findZ by PySem.W.S.findZ_eq
name_quick tw16494616584097029746 for PySem.W.S.findZ by PySem.W.S.findZ_eq
name_quick tw9285146279643344392 for PySem.W.S.findZ by PySem.W.S.findZ_eq
name_quick tw5697894365363955025 for PySem.W.S.findZ by PySem.W.S.findZ_eq
name_quick tw662354867322794072 for PySem.W.S.findZ by PySem.W.S.findZ_eq
name_quick tw7276740287692124622 for PySem.W.S.findZ by PySem.W.S.findZ_eq
name_quick tw9948023125614773506 for PySem.W.S.findZ by PySem.W.S.findZ_eq
name_quick tw15423634916342008072 for PySem.W.S.findZ by PySem.W.S.findZ_eq
name_quick tw6434138532213402376 for PySem.W.S.findZ by PySem.W.S.findZ_eq
name_quick tw17532440430192770315 for PySem.W.S.findZ by PySem.W.S.findZ_eq
name_quick tw5349121933718820234 for PySem.W.S.findZ by PySem.W.S.findZ_eq
name_quick tw7198390536060210744 for PySem.W.S.findZ by PySem.W.S.findZ_eq
name_quick tw1638017585896720355 for PySem.W.S.findZ by PySem.W.S.findZ_eq
name_quick tw9800571698397750058 for PySem.W.S.findZ by PySem.W.S.findZ_eq
name_quick tw17517737089405305841 for PySem.W.S.findZ by PySem.W.S.findZ_eq
name_quick tw6448080314894763839 for PySem.W.S.findZ by PySem.W.S.findZ_eq
name_quick tw14326252917377295143 for PySem.W.S.findZ by PySem.W.S.findZ_eq
name_quick tw6004533443673955352 for PySem.W.S.findZ by PySem.W.S.findZ_eq
name_quick tw14126943448341045398 for PySem.W.S.findZ by PySem.W.S.findZ_eq
name_quick tw15766043655864335149 for PySem.W.S.findZ by PySem.W.S.findZ_eq
name_quick tw4775785305629353868 for PySem.W.S.findZ by PySem.W.S.findZ_eq
name_quick tw3264259588550801142 for PySem.W.S.findZ by PySem.W.S.findZ_eq
name_quick tw11108263761283441063 for PySem.W.S.findZ by PySem.W.S.findZ_eq
name_quick tw18352171251324809696 for PySem.W.S.findZ by PySem.W.S.findZ_eq
name_quick tw8400853705098224536 for PySem.W.S.findZ by PySem.W.S.findZ_eq
name_quick tw17476080006546285661 for PySem.W.S.findZ by PySem.W.S.findZ_eq
name_quick tw14224011070414065920 for PySem.W.S.findZ by PySem.W.S.findZ_eq
name_quick tw4011157648589011858 for PySem.W.S.findZ by PySem.W.S.findZ_eq
name_quick tw14537914154153760125 for PySem.W.S.findZ by PySem.W.S.findZ_eq
name_quick tw3766158894648301139 for PySem.W.S.findZ by PySem.W.S.findZ_eq
name_quick tw14112274594779413971 for PySem.W.S.findZ by PySem.W.S.findZ_eq
name_quick tw2354101950205528012 for PySem.W.S.findZ by PySem.W.S.findZ_eq
name_quick tw3976722010076183465 for PySem.W.S.findZ by PySem.W.S.findZ_eq
name_quick tw2447775223705975068 for PySem.W.S.findZ by PySem.W.S.findZ_eq
name_quick tw17828083071136270317 for PySem.W.S.findZ by PySem.W.S.findZ_eq
name_quick tw16593013826814733010 for PySem.W.S.findZ by PySem.W.S.findZ_eq
name_quick tw10205541121877940668 for PySem.W.S.findZ by PySem.W.S.findZ_eq
name_quick tw12635297910168745909 for PySem.W.S.findZ by PySem.W.S.findZ_eq
name_quick tw7275051467321613617 for PySem.W.S.findZ by PySem.W.S.findZ_eq
name_quick tw9458956999447867950 for PySem.W.S.findZ by PySem.W.S.findZ_eq
name_quick tw2664551874359636763 for PySem.W.S.findZ by PySem.W.S.findZ_eq
name_quick tw18263319221461684349 for PySem.W.S.findZ by PySem.W.S.findZ_eq
name_quick tw470574548607681690 for PySem.W.S.findZ by PySem.W.S.findZ_eq
name_quick tw7458083566234694290 for PySem.W.S.findZ by PySem.W.S.findZ_eq
name_quick tw17863021456227041891 for PySem.W.S.findZ by PySem.W.S.findZ_eq
name_quick tw4658958612460137192 for PySem.W.S.findZ by PySem.W.S.findZ_eq
name_quick tw282004115355043989 for PySem.W.S.findZ by PySem.W.S.findZ_eq
name_quick tw15480198773659482676 for PySem.W.S.findZ by PySem.W.S.findZ_eq
name_quick tw9136488742655976645 for PySem.W.S.findZ by PySem.W.S.findZ_eq
name_quick tw3094477031063562474 for PySem.W.S.findZ by PySem.W.S.findZ_eq
name_quick tw12329403913580668285 for PySem.W.S.findZ by PySem.W.S.findZ_eq
name_quick tw9594665118957945026 for PySem.W.S.findZ by PySem.W.S.findZ_eq
name_quick tw1291980286583624508 for PySem.W.S.findZ by PySem.W.S.findZ_eq
name_quick tw14553827428707814869 for PySem.W.S.findZ by PySem.W.S.findZ_eq
name_quick tw16979880578912567463 for PySem.W.S.findZ by PySem.W.S.findZ_eq
name_quick tw9396933662098498411 for PySem.W.S.findZ by PySem.W.S.findZ_eq
name_quick tw15278061642289888581 for PySem.W.S.findZ by PySem.W.S.findZ_eq
name_quick tw14168537005229113720 for PySem.W.S.findZ by PySem.W.S.findZ_eq
name_quick tw15066959818950650227 for PySem.W.S.findZ by PySem.W.S.findZ_eq
name_quick tw11519604305632133818 for PySem.W.S.findZ by PySem.W.S.findZ_eq
name_quick tw2567998274259142822 for PySem.W.S.findZ by PySem.W.S.findZ_eq
name_quick tw4407734736301137906 for PySem.W.S.findZ by PySem.W.S.findZ_eq
name_quick tw878741703135273975 for PySem.W.S.findZ by PySem.W.S.findZ_eq
name_quick tw18211773271919218964 for PySem.W.S.findZ by PySem.W.S.findZ_eq
name_quick tw4090926877573551719 for PySem.W.S.findZ by PySem.W.S.findZ_eq
name_quick tw6679490504615227074 for PySem.W.S.findZ by PySem.W.S.findZ_eq
name_quick tw15112985482279097393 for PySem.W.S.findZ by PySem.W.S.findZ_eq
name_quick tw12233582284571471492 for PySem.W.S.findZ by PySem.W.S.findZ_eq
name_quick tw18340240734955500558 for PySem.W.S.findZ by PySem.W.S.findZ_eq
name_quick tw13036272033356848781 for PySem.W.S.findZ by PySem.W.S.findZ_eq
name_quick tw1184552218554016812 for PySem.W.S.findZ by PySem.W.S.findZ_eq
name_quick tw7323676302269181137 for PySem.W.S.findZ by PySem.W.S.findZ_eq
name_quick tw11566699232636054958 for PySem.W.S.findZ by PySem.W.S.findZ_eq
name_quick tw6245536207120538393 for PySem.W.S.findZ by PySem.W.S.findZ_eq
name_quick tw1440575883149458809 for PySem.W.S.findZ by PySem.W.S.findZ_eq
name_quick tw15900120412870309639 for PySem.W.S.findZ by PySem.W.S.findZ_eq
name_quick tw2315820567201803617 for PySem.W.S.findZ by PySem.W.S.findZ_eq
name_quick tw15168306246750427876 for PySem.W.S.findZ by PySem.W.S.findZ_eq
name_quick tw5111356299099525756 for PySem.W.S.findZ by PySem.W.S.findZ_eq
name_quick tw11707433790658880453 for PySem.W.S.findZ by PySem.W.S.findZ_eq
name_quick tw16984617044495170189 for PySem.W.S.findZ by PySem.W.S.findZ_eq
name_quick tw17057272898397164401 for PySem.W.S.findZ by PySem.W.S.findZ_eq
name_quick tw8595292554425487202 for PySem.W.S.findZ by PySem.W.S.findZ_eq
name_quick tw18260038339965228139 for PySem.W.S.findZ by PySem.W.S.findZ_eq
name_quick tw17434858337260393937 for PySem.W.S.findZ by PySem.W.S.findZ_eq
name_quick tw10887116778572429059 for PySem.W.S.findZ by PySem.W.S.findZ_eq
name_quick tw14433975572909055671 for PySem.W.S.findZ by PySem.W.S.findZ_eq
name_quick tw16752143609539240740 for PySem.W.S.findZ by PySem.W.S.findZ_eq
name_quick tw17000155066101142889 for PySem.W.S.findZ by PySem.W.S.findZ_eq
name_quick tw4622596211255666275 for PySem.W.S.findZ by PySem.W.S.findZ_eq
name_quick tw10706342367453228570 for PySem.W.S.findZ by PySem.W.S.findZ_eq
name_quick tw8902219603052485911 for PySem.W.S.findZ by PySem.W.S.findZ_eq
name_quick tw13615603153576403970 for PySem.W.S.findZ by PySem.W.S.findZ_eq
name_quick tw13900631225919944168 for PySem.W.S.findZ by PySem.W.S.findZ_eq
name_quick tw15742981410569661332 for PySem.W.S.findZ by PySem.W.S.findZ_eq
name_quick tw757081541053455785 for PySem.W.S.findZ by PySem.W.S.findZ_eq
name_quick tw17888162413812561239 for PySem.W.S.findZ by PySem.W.S.findZ_eq
name_quick tw2408619945344806742 for PySem.W.S.findZ by PySem.W.S.findZ_eq
name_quick tw17001327861769816259 for PySem.W.S.findZ by PySem.W.S.findZ_eq
name_quick tw16817318245366136608 for PySem.W.S.findZ by PySem.W.S.findZ_eq
name_quick tw11013792430000457035 for PySem.W.S.findZ by PySem.W.S.findZ_eq
name_quick tw10948738476641704880 for PySem.W.S.findZ by PySem.W.S.findZ_eq
name_quick tw10919533547850550483 for PySem.W.S.findZ by PySem.W.S.findZ_eq
name_quick tw13789449189825218787 for PySem.W.S.findZ by PySem.W.S.findZ_eq
name_quick tw8047484207015712433 for PySem.W.S.findZ by PySem.W.S.findZ_eq
name_quick tw9376109419431680627 for PySem.W.S.findZ by PySem.W.S.findZ_eq
name_quick tw8796240567053077481 for PySem.W.S.findZ by PySem.W.S.findZ_eq
name_quick tw1419416864934026935 for PySem.W.S.findZ by PySem.W.S.findZ_eq
name_quick tw13335737130258781183 for PySem.W.S.findZ by PySem.W.S.findZ_eq
name_quick tw8424611434330503625 for PySem.W.S.findZ by PySem.W.S.findZ_eq
name_quick tw3856783459128436802 for PySem.W.S.findZ by PySem.W.S.findZ_eq
name_quick tw13317431791736044220 for PySem.W.S.findZ by PySem.W.S.findZ_eq
name_quick tw6122645084068987007 for PySem.W.S.findZ by PySem.W.S.findZ_eq
name_quick tw441327347791068078 for PySem.W.S.findZ by PySem.W.S.findZ_eq
name_quick tw17100903815162463580 for PySem.W.S.findZ by PySem.W.S.findZ_eq
name_quick tw4071324889030633612 for PySem.W.S.findZ by PySem.W.S.findZ_eq
name_quick tw1962928258387122110 for PySem.W.S.findZ by PySem.W.S.findZ_eq
name_quick tw3619232141914619222 for PySem.W.S.findZ by PySem.W.S.findZ_eq
name_quick tw2859041830047134086 for PySem.W.S.findZ by PySem.W.S.findZ_eq
name_quick tw4829060927144295115 for PySem.W.S.findZ by PySem.W.S.findZ_eq
name_quick tw8376441433122354887 for PySem.W.S.findZ by PySem.W.S.findZ_eq
name_quick tw18101931140130867144 for PySem.W.S.findZ by PySem.W.S.findZ_eq
name_quick tw15195428891847259777 for PySem.W.S.findZ by PySem.W.S.findZ_eq
name_quick tw11420187438672877268 for PySem.W.S.findZ by PySem.W.S.findZ_eq
name_quick tw1414301608579184545 for PySem.W.S.findZ by PySem.W.S.findZ_eq
name_quick tw16643379632663270332 for PySem.W.S.findZ by PySem.W.S.findZ_eq
name_quick tw9529234661008812162 for PySem.W.S.findZ by PySem.W.S.findZ_eq
name_quick tw5529568453561195837 for PySem.W.S.findZ by PySem.W.S.findZ_eq
name_quick tw3972328310683599613 for PySem.W.S.findZ by PySem.W.S.findZ_eq
name_quick tw43969757491396457 for PySem.W.S.findZ by PySem.W.S.findZ_eq
name_quick tw9674257727999782656 for PySem.W.S.findZ by PySem.W.S.findZ_eq
name_quick tw16018607276475445134 for PySem.W.S.findZ by PySem.W.S.findZ_eq
name_quick tw10323183001455561277 for PySem.W.S.findZ by PySem.W.S.findZ_eq
name_quick tw3424931102881643321 for PySem.W.S.findZ by PySem.W.S.findZ_eq
name_quick tw12393455550290869266 for PySem.W.S.findZ by PySem.W.S.findZ_eq
name_quick tw6434265647005701932 for PySem.W.S.findZ by PySem.W.S.findZ_eq
name_quick tw16406328271908756883 for PySem.W.S.findZ by PySem.W.S.findZ_eq
name_quick tw5902227825499142635 for PySem.W.S.findZ by PySem.W.S.findZ_eq
name_quick tw16643706677886111943 for PySem.W.S.findZ by PySem.W.S.findZ_eq
name_quick tw16241802466949684156 for PySem.W.S.findZ by PySem.W.S.findZ_eq
name_quick tw505943868828395459 for PySem.W.S.findZ by PySem.W.S.findZ_eq
name_quick tw7788680626742099145 for PySem.W.S.findZ by PySem.W.S.findZ_eq
name_quick tw12635813782599140982 for PySem.W.S.findZ by PySem.W.S.findZ_eq
name_quick tw18213545369034332514 for PySem.W.S.findZ by PySem.W.S.findZ_eq
name_quick tw2599325451414397859 for PySem.W.S.findZ by PySem.W.S.findZ_eq
name_quick tw11625766737575182897 for PySem.W.S.findZ by PySem.W.S.findZ_eq
name_quick tw13776390136698705113 for PySem.W.S.findZ by PySem.W.S.findZ_eq
name_quick tw9862997608875712007 for PySem.W.S.findZ by PySem.W.S.findZ_eq
name_quick tw682011567655089306 for PySem.W.S.findZ by PySem.W.S.findZ_eq
name_quick tw9763268239775435451 for PySem.W.S.findZ by PySem.W.S.findZ_eq
name_quick tw5925582254088234700 for PySem.W.S.findZ by PySem.W.S.findZ_eq
name_quick tw6683783046931543321 for PySem.W.S.findZ by PySem.W.S.findZ_eq
name_quick tw4679858250743294509 for PySem.W.S.findZ by PySem.W.S.findZ_eq
name_quick tw6711915476519705758 for PySem.W.S.findZ by PySem.W.S.findZ_eq
name_quick tw8075568018651887793 for PySem.W.S.findZ by PySem.W.S.findZ_eq
name_quick tw14389671806192383329 for PySem.W.S.findZ by PySem.W.S.findZ_eq
name_quick tw6380047634161181297 for PySem.W.S.findZ by PySem.W.S.findZ_eq
name_quick tw8059936575790774395 for PySem.W.S.findZ by PySem.W.S.findZ_eq
name_quick tw5032809538720368765 for PySem.W.S.findZ by PySem.W.S.findZ_eq
name_quick tw20863073609108064 for PySem.W.S.findZ by PySem.W.S.findZ_eq
name_quick tw17537794083376710389 for PySem.W.S.findZ by PySem.W.S.findZ_eq
name_quick tw558745408833754511 for PySem.W.S.findZ by PySem.W.S.findZ_eq
name_quick tw4921902886906138986 for PySem.W.S.findZ by PySem.W.S.findZ_eq
name_quick tw4527066259768149269 for PySem.W.S.findZ by PySem.W.S.findZ_eq
name_quick tw900395245841561262 for PySem.W.S.findZ by PySem.W.S.findZ_eq
name_quick tw6792406925840432001 for PySem.W.S.findZ by PySem.W.S.findZ_eq
name_quick tw7250012664060256230 for PySem.W.S.findZ by PySem.W.S.findZ_eq
name_quick tw5200128776193632040 for PySem.W.S.findZ by PySem.W.S.findZ_eq
name_quick tw1218959903707654005 for PySem.W.S.findZ by PySem.W.S.findZ_eq
name_quick tw11985326045990495214 for PySem.W.S.findZ by PySem.W.S.findZ_eq
name_quick tw3636048126100218174 for PySem.W.S.findZ by PySem.W.S.findZ_eq
name_quick tw932993149863042379 for PySem.W.S.findZ by PySem.W.S.findZ_eq
name_quick tw12371321757623732685 for PySem.W.S.findZ by PySem.W.S.findZ_eq
name_quick tw13002492023102617099 for PySem.W.S.findZ by PySem.W.S.findZ_eq
name_quick tw13809362725867891129 for PySem.W.S.findZ by PySem.W.S.findZ_eq
name_quick tw12981051755390344553 for PySem.W.S.findZ by PySem.W.S.findZ_eq
name_quick tw2951486255847992690 for PySem.W.S.findZ by PySem.W.S.findZ_eq
name_quick tw136631920214876835 for PySem.W.S.findZ by PySem.W.S.findZ_eq
name_quick tw8708707556590381134 for PySem.W.S.findZ by PySem.W.S.findZ_eq
name_quick tw18056578402003937789 for PySem.W.S.findZ by PySem.W.S.findZ_eq
name_quick tw5396446701170858492 for PySem.W.S.findZ by PySem.W.S.findZ_eq
name_quick tw10029231156530900338 for PySem.W.S.findZ by PySem.W.S.findZ_eq
name_quick tw704327219915372674 for PySem.W.S.findZ by PySem.W.S.findZ_eq
name_quick tw16439824349840649037 for PySem.W.S.findZ by PySem.W.S.findZ_eq
name_quick tw17000458434675057986 for PySem.W.S.findZ by PySem.W.S.findZ_eq
name_quick tw13987355940573415152 for PySem.W.S.findZ by PySem.W.S.findZ_eq
name_quick tw11452132507678324671 for PySem.W.S.findZ by PySem.W.S.findZ_eq
name_quick tw1574873078441994576 for PySem.W.S.findZ by PySem.W.S.findZ_eq
name_quick tw9594443614562783311 for PySem.W.S.findZ by PySem.W.S.findZ_eq
name_quick tw3470799630455053000 for PySem.W.S.findZ by PySem.W.S.findZ_eq
name_quick tw15007238320947547705 for PySem.W.S.findZ by PySem.W.S.findZ_eq
name_quick tw4292500188555128830 for PySem.W.S.findZ by PySem.W.S.findZ_eq
name_quick tw1829445100760108279 for PySem.W.S.findZ by PySem.W.S.findZ_eq
name_quick tw5706481520468235054 for PySem.W.S.findZ by PySem.W.S.findZ_eq
name_quick tw10227693086864044499 for PySem.W.S.findZ by PySem.W.S.findZ_eq
name_quick tw16874561944515371726 for PySem.W.S.findZ by PySem.W.S.findZ_eq
name_quick tw3118938333895590913 for PySem.W.S.findZ by PySem.W.S.findZ_eq
name_quick tw13215998728584607739 for PySem.W.S.findZ by PySem.W.S.findZ_eq
name_quick tw7496433998918960881 for PySem.W.S.findZ by PySem.W.S.findZ_eq
name_quick tw1333364371103165705 for PySem.W.S.findZ by PySem.W.S.findZ_eq
name_quick tw8727135674562949291 for PySem.W.S.findZ by PySem.W.S.findZ_eq
name_quick tw721709456127091705 for PySem.W.S.findZ by PySem.W.S.findZ_eq
name_quick tw15040288709643333888 for PySem.W.S.findZ by PySem.W.S.findZ_eq
name_quick tw2611137233208623240 for PySem.W.S.findZ by PySem.W.S.findZ_eq
name_quick tw8098380416015320538 for PySem.W.S.findZ by PySem.W.S.findZ_eq
name_quick tw6929956602132211858 for PySem.W.S.findZ by PySem.W.S.findZ_eq
name_quick tw8017206721242287953 for PySem.W.S.findZ by PySem.W.S.findZ_eq
name_quick tw17279654841073493023 for PySem.W.S.findZ by PySem.W.S.findZ_eq
name_quick tw11790162104776037713 for PySem.W.S.findZ by PySem.W.S.findZ_eq
name_quick tw6135381517318000843 for PySem.W.S.findZ by PySem.W.S.findZ_eq
name_quick tw2478078296215019888 for PySem.W.S.findZ by PySem.W.S.findZ_eq
name_quick tw3386650904741475044 for PySem.W.S.findZ by PySem.W.S.findZ_eq
name_quick tw5268983451555188008 for PySem.W.S.findZ by PySem.W.S.findZ_eq
name_quick tw8253183596043897158 for PySem.W.S.findZ by PySem.W.S.findZ_eq
name_quick tw6722154040420286063 for PySem.W.S.findZ by PySem.W.S.findZ_eq
name_quick tw7392212959928792091 for PySem.W.S.findZ by PySem.W.S.findZ_eq
name_quick tw18416463498863911781 for PySem.W.S.findZ by PySem.W.S.findZ_eq
name_quick tw219737044198020058 for PySem.W.S.findZ by PySem.W.S.findZ_eq
name_quick tw13559156169165276386 for PySem.W.S.findZ by PySem.W.S.findZ_eq
name_quick tw1706496860858754268 for PySem.W.S.findZ by PySem.W.S.findZ_eq
name_quick tw14896874001708588922 for PySem.W.S.findZ by PySem.W.S.findZ_eq
name_quick tw7299303143086499733 for PySem.W.S.findZ by PySem.W.S.findZ_eq
name_quick tw11543547407058413889 for PySem.W.S.findZ by PySem.W.S.findZ_eq
name_quick tw10996506086634736982 for PySem.W.S.findZ by PySem.W.S.findZ_eq
name_quick tw4224760802259116069 for PySem.W.S.findZ by PySem.W.S.findZ_eq
name_quick tw18220123701641295943 for PySem.W.S.findZ by PySem.W.S.findZ_eq
name_quick tw17975652961387846372 for PySem.W.S.findZ by PySem.W.S.findZ_eq
name_quick tw11277716924127702174 for PySem.W.S.findZ by PySem.W.S.findZ_eq
name_quick tw7650934615059315214 for PySem.W.S.findZ by PySem.W.S.findZ_eq
name_quick tw724751600484774222 for PySem.W.S.findZ by PySem.W.S.findZ_eq
name_quick tw17730428716208468724 for PySem.W.S.findZ by PySem.W.S.findZ_eq
name_quick tw15542503528162795033 for PySem.W.S.findZ by PySem.W.S.findZ_eq
name_quick tw11853533878840232495 for PySem.W.S.findZ by PySem.W.S.findZ_eq
name_quick tw12832477231654346042 for PySem.W.S.findZ by PySem.W.S.findZ_eq
name_quick tw15323854079317868165 for PySem.W.S.findZ by PySem.W.S.findZ_eq
name_quick tw2502411970723609615 for PySem.W.S.findZ by PySem.W.S.findZ_eq
name_quick tw2660918139993853925 for PySem.W.S.findZ by PySem.W.S.findZ_eq
name_quick tw10528696920762540405 for PySem.W.S.findZ by PySem.W.S.findZ_eq
name_quick tw1355338860687761863 for PySem.W.S.findZ by PySem.W.S.findZ_eq
name_quick tw1156252341971683116 for PySem.W.S.findZ by PySem.W.S.findZ_eq
name_quick tw1702518465993881591 for PySem.W.S.findZ by PySem.W.S.findZ_eq
name_quick tw1446159542301519122 for PySem.W.S.findZ by PySem.W.S.findZ_eq
name_quick tw16947794391021106201 for PySem.W.S.findZ by PySem.W.S.findZ_eq
name_quick tw14847034805825309785 for PySem.W.S.findZ by PySem.W.S.findZ_eq
name_quick tw12898947447245864913 for PySem.W.S.findZ by PySem.W.S.findZ_eq
name_quick tw5794346190779097050 for PySem.W.S.findZ by PySem.W.S.findZ_eq
name_quick tw7232422423428716515 for PySem.W.S.findZ by PySem.W.S.findZ_eq
name_quick tw1320183511955256522 for PySem.W.S.findZ by PySem.W.S.findZ_eq
name_quick tw6550987210724342151 for PySem.W.S.findZ by PySem.W.S.findZ_eq
name_quick tw9908251947323293946 for PySem.W.S.findZ by PySem.W.S.findZ_eq
name_quick tw8206430501311747189 for PySem.W.S.findZ by PySem.W.S.findZ_eq
name_quick tw14073706353221006472 for PySem.W.S.findZ by PySem.W.S.findZ_eq
name_quick tw4525517667737911620 for PySem.W.S.findZ by PySem.W.S.findZ_eq
name_quick tw8989982439271903415 for PySem.W.S.findZ by PySem.W.S.findZ_eq
name_quick tw2670528217467546775 for PySem.W.S.findZ by PySem.W.S.findZ_eq
name_quick tw1402947280878808549 for PySem.W.S.findZ by PySem.W.S.findZ_eq
name_quick tw10986771517171321938 for PySem.W.S.findZ by PySem.W.S.findZ_eq
name_quick tw16350708796919097252 for PySem.W.S.findZ by PySem.W.S.findZ_eq
name_quick tw16138213638089413859 for PySem.W.S.findZ by PySem.W.S.findZ_eq
name_quick tw1370275717833778536 for PySem.W.S.findZ by PySem.W.S.findZ_eq
name_quick tw11682084944484805031 for PySem.W.S.findZ by PySem.W.S.findZ_eq
name_quick tw8753696776887207221 for PySem.W.S.findZ by PySem.W.S.findZ_eq
name_quick tw15980859228951719591 for PySem.W.S.findZ by PySem.W.S.findZ_eq
name_quick tw7094674258960923220 for PySem.W.S.findZ by PySem.W.S.findZ_eq
name_quick tw7286323032743288035 for PySem.W.S.findZ by PySem.W.S.findZ_eq
name_quick tw16531745337717519161 for PySem.W.S.findZ by PySem.W.S.findZ_eq
name_quick tw9315938663221665524 for PySem.W.S.findZ by PySem.W.S.findZ_eq
name_quick tw5248340912204065574 for PySem.W.S.findZ by PySem.W.S.findZ_eq
name_quick tw10010936943081839664 for PySem.W.S.findZ by PySem.W.S.findZ_eq
name_quick tw161092056333428459 for PySem.W.S.findZ by PySem.W.S.findZ_eq
name_quick tw1735497430108182060 for PySem.W.S.findZ by PySem.W.S.findZ_eq
name_quick tw14311459727803291754 for PySem.W.S.findZ by PySem.W.S.findZ_eq
name_quick tw11994158751524154303 for PySem.W.S.findZ by PySem.W.S.findZ_eq
name_quick tw14386061602966655976 for PySem.W.S.findZ by PySem.W.S.findZ_eq
name_quick tw2422670821966735624 for PySem.W.S.findZ by PySem.W.S.findZ_eq
name_quick tw14821650378409806113 for PySem.W.S.findZ by PySem.W.S.findZ_eq
name_quick tw4039474712603431140 for PySem.W.S.findZ by PySem.W.S.findZ_eq
name_quick tw1041845030581493396 for PySem.W.S.findZ by PySem.W.S.findZ_eq
name_quick tw4933834842325187142 for PySem.W.S.findZ by PySem.W.S.findZ_eq
name_quick tw2193789692954389824 for PySem.W.S.findZ by PySem.W.S.findZ_eq
name_quick tw11317593695737139937 for PySem.W.S.findZ by PySem.W.S.findZ_eq
name_quick tw6589095468515690095 for PySem.W.S.findZ by PySem.W.S.findZ_eq
name_quick tw347637069881736656 for PySem.W.S.findZ by PySem.W.S.findZ_eq
name_quick tw16792545251062261874 for PySem.W.S.findZ by PySem.W.S.findZ_eq
name_quick tw11462045893675790159 for PySem.W.S.findZ by PySem.W.S.findZ_eq
name_quick tw3315324234476444515 for PySem.W.S.findZ by PySem.W.S.findZ_eq
name_quick tw3039592710220408265 for PySem.W.S.findZ by PySem.W.S.findZ_eq
name_quick tw16437185098154296904 for PySem.W.S.findZ by PySem.W.S.findZ_eq
name_quick tw12177639751122801600 for PySem.W.S.findZ by PySem.W.S.findZ_eq
name_quick tw15034313371233782410 for PySem.W.S.findZ by PySem.W.S.findZ_eq
name_quick tw1055568401681811165 for PySem.W.S.findZ by PySem.W.S.findZ_eq
name_quick tw4549333791460862111 for PySem.W.S.findZ by PySem.W.S.findZ_eq
name_quick tw667198328695590252 for PySem.W.S.findZ by PySem.W.S.findZ_eq
name_quick tw17730448691065144110 for PySem.W.S.findZ by PySem.W.S.findZ_eq
name_quick tw14394814588863196821 for PySem.W.S.findZ by PySem.W.S.findZ_eq
name_quick tw13180171748994924942 for PySem.W.S.findZ by PySem.W.S.findZ_eq
name_quick tw9300948228871686676 for PySem.W.S.findZ by PySem.W.S.findZ_eq
name_quick tw16548257151911338427 for PySem.W.S.findZ by PySem.W.S.findZ_eq
name_quick tw17164873540382356111 for PySem.W.S.findZ by PySem.W.S.findZ_eq
name_quick tw912392155897948271 for PySem.W.S.findZ by PySem.W.S.findZ_eq
name_quick tw1258717718454355964 for PySem.W.S.findZ by PySem.W.S.findZ_eq
name_quick tw14884601019740666482 for PySem.W.S.findZ by PySem.W.S.findZ_eq
name_quick tw16413264400604254196 for PySem.W.S.findZ by PySem.W.S.findZ_eq
name_quick tw10938465397075749097 for PySem.W.S.findZ by PySem.W.S.findZ_eq
name_quick tw16317912014791525384 for PySem.W.S.findZ by PySem.W.S.findZ_eq
name_quick tw8537084889766193716 for PySem.W.S.findZ by PySem.W.S.findZ_eq
name_quick tw17964007177503468958 for PySem.W.S.findZ by PySem.W.S.findZ_eq
name_quick tw7892128664451923741 for PySem.W.S.findZ by PySem.W.S.findZ_eq
name_quick tw951843321253372498 for PySem.W.S.findZ by PySem.W.S.findZ_eq
name_quick tw16966814322356759819 for PySem.W.S.findZ by PySem.W.S.findZ_eq
name_quick tw12172078356533094185 for PySem.W.S.findZ by PySem.W.S.findZ_eq
name_quick tw9467589175468403638 for PySem.W.S.findZ by PySem.W.S.findZ_eq
name_quick tw12813236842856870187 for PySem.W.S.findZ by PySem.W.S.findZ_eq
name_quick tw2905824091091238844 for PySem.W.S.findZ by PySem.W.S.findZ_eq
name_quick tw13759679279233594173 for PySem.W.S.findZ by PySem.W.S.findZ_eq
name_quick tw11310463157757771331 for PySem.W.S.findZ by PySem.W.S.findZ_eq
name_quick tw7035115661146626270 for PySem.W.S.findZ by PySem.W.S.findZ_eq
name_quick tw13607416678640721797 for PySem.W.S.findZ by PySem.W.S.findZ_eq
name_quick tw4797165386629745026 for PySem.W.S.findZ by PySem.W.S.findZ_eq
name_quick tw17274371674624000324 for PySem.W.S.findZ by PySem.W.S.findZ_eq
name_quick tw5770868932273138760 for PySem.W.S.findZ by PySem.W.S.findZ_eq
name_quick tw14214894240641447287 for PySem.W.S.findZ by PySem.W.S.findZ_eq
name_quick tw3820604794100220378 for PySem.W.S.findZ by PySem.W.S.findZ_eq
name_quick tw1620339239838986703 for PySem.W.S.findZ by PySem.W.S.findZ_eq
name_quick tw16741492637210864865 for PySem.W.S.findZ by PySem.W.S.findZ_eq
name_quick tw13981391230805400906 for PySem.W.S.findZ by PySem.W.S.findZ_eq
name_quick tw12659028871203227004 for PySem.W.S.findZ by PySem.W.S.findZ_eq
name_quick tw4275521005467322725 for PySem.W.S.findZ by PySem.W.S.findZ_eq
name_quick tw6571405316488057569 for PySem.W.S.findZ by PySem.W.S.findZ_eq
name_quick tw117213463901210413 for PySem.W.S.findZ by PySem.W.S.findZ_eq
name_quick tw313226197891681235 for PySem.W.S.findZ by PySem.W.S.findZ_eq
name_quick tw16176465441171805009 for PySem.W.S.findZ by PySem.W.S.findZ_eq
name_quick tw3778451253796500701 for PySem.W.S.findZ by PySem.W.S.findZ_eq
name_quick tw4978915544186085027 for PySem.W.S.findZ by PySem.W.S.findZ_eq
name_quick tw3880421473898291048 for PySem.W.S.findZ by PySem.W.S.findZ_eq
name_quick tw7585139358526817783 for PySem.W.S.findZ by PySem.W.S.findZ_eq
name_quick tw3436264866546951355 for PySem.W.S.findZ by PySem.W.S.findZ_eq
name_quick tw17018628822417861297 for PySem.W.S.findZ by PySem.W.S.findZ_eq
name_quick tw4075660801711882420 for PySem.W.S.findZ by PySem.W.S.findZ_eq
name_quick tw5823794197072137003 for PySem.W.S.findZ by PySem.W.S.findZ_eq
name_quick tw9759809726879904816 for PySem.W.S.findZ by PySem.W.S.findZ_eq
name_quick tw16414604833108395602 for PySem.W.S.findZ by PySem.W.S.findZ_eq
name_quick tw8642067239939848140 for PySem.W.S.findZ by PySem.W.S.findZ_eq
name_quick tw7269565832213808900 for PySem.W.S.findZ by PySem.W.S.findZ_eq
name_quick tw9151444980202551346 for PySem.W.S.findZ by PySem.W.S.findZ_eq
name_quick tw1092655722715705105 for PySem.W.S.findZ by PySem.W.S.findZ_eq
name_quick tw8603108125212654177 for PySem.W.S.findZ by PySem.W.S.findZ_eq
name_quick tw14834023430324568649 for PySem.W.S.findZ by PySem.W.S.findZ_eq
name_quick tw6426273055680023932 for PySem.W.S.findZ by PySem.W.S.findZ_eq
name_quick tw15376083050721069600 for PySem.W.S.findZ by PySem.W.S.findZ_eq
name_quick tw15079194523842364033 for PySem.W.S.findZ by PySem.W.S.findZ_eq
name_quick tw12392613427281201732 for PySem.W.S.findZ by PySem.W.S.findZ_eq
name_quick tw608726401823008365 for PySem.W.S.findZ by PySem.W.S.findZ_eq
name_quick tw12237943961548833269 for PySem.W.S.findZ by PySem.W.S.findZ_eq
name_quick tw17988542015724977305 for PySem.W.S.findZ by PySem.W.S.findZ_eq
name_quick tw16049961110935095269 for PySem.W.S.findZ by PySem.W.S.findZ_eq
name_quick tw8224813933742928703 for PySem.W.S.findZ by PySem.W.S.findZ_eq
name_quick tw18350330562280901221 for PySem.W.S.findZ by PySem.W.S.findZ_eq
name_quick tw12268644228514654432 for PySem.W.S.findZ by PySem.W.S.findZ_eq
name_quick tw8119918657739134586 for PySem.W.S.findZ by PySem.W.S.findZ_eq
name_quick tw13642483538084851733 for PySem.W.S.findZ by PySem.W.S.findZ_eq
name_quick tw14979626087600564940 for PySem.W.S.findZ by PySem.W.S.findZ_eq
name_quick tw17672482021469178181 for PySem.W.S.findZ by PySem.W.S.findZ_eq
name_quick tw15497817006697053464 for PySem.W.S.findZ by PySem.W.S.findZ_eq
name_quick tw1258299570235058372 for PySem.W.S.findZ by PySem.W.S.findZ_eq
name_quick tw4748654258956052638 for PySem.W.S.findZ by PySem.W.S.findZ_eq
name_quick tw6654550962395885724 for PySem.W.S.findZ by PySem.W.S.findZ_eq
name_quick tw7401281599722004195 for PySem.W.S.findZ by PySem.W.S.findZ_eq
name_quick tw1787120219092083046 for PySem.W.S.findZ by PySem.W.S.findZ_eq
name_quick tw6817277305950994716 for PySem.W.S.findZ by PySem.W.S.findZ_eq
name_quick tw13141144453892091621 for PySem.W.S.findZ by PySem.W.S.findZ_eq
name_quick tw5357591511691535388 for PySem.W.S.findZ by PySem.W.S.findZ_eq
name_quick tw5732905514179830355 for PySem.W.S.findZ by PySem.W.S.findZ_eq
name_quick tw4302124980754421698 for PySem.W.S.findZ by PySem.W.S.findZ_eq
name_quick tw2627984346626558326 for PySem.W.S.findZ by PySem.W.S.findZ_eq
name_quick tw607167704815816724 for PySem.W.S.findZ by PySem.W.S.findZ_eq
name_quick tw14108194823987119177 for PySem.W.S.findZ by PySem.W.S.findZ_eq
name_quick tw17804436615005485693 for PySem.W.S.findZ by PySem.W.S.findZ_eq
name_quick tw1537898542681612871 for PySem.W.S.findZ by PySem.W.S.findZ_eq
name_quick tw3131671291697673992 for PySem.W.S.findZ by PySem.W.S.findZ_eq
name_quick tw17552769576498331613 for PySem.W.S.findZ by PySem.W.S.findZ_eq
name_quick tw10073347824450446311 for PySem.W.S.findZ by PySem.W.S.findZ_eq
name_quick tw12850107946570832962 for PySem.W.S.findZ by PySem.W.S.findZ_eq
name_quick tw9501820088010722379 for PySem.W.S.findZ by PySem.W.S.findZ_eq
name_quick tw13512673800721320934 for PySem.W.S.findZ by PySem.W.S.findZ_eq
name_quick tw14530364306720264245 for PySem.W.S.findZ by PySem.W.S.findZ_eq
name_quick tw16296994325663420285 for PySem.W.S.findZ by PySem.W.S.findZ_eq
name_quick tw5753627639153339801 for PySem.W.S.findZ by PySem.W.S.findZ_eq
name_quick tw151948405760981731 for PySem.W.S.findZ by PySem.W.S.findZ_eq
name_quick tw1749818173716722547 for PySem.W.S.findZ by PySem.W.S.findZ_eq
name_quick tw10424941004445345732 for PySem.W.S.findZ by PySem.W.S.findZ_eq
name_quick tw7365555872484859036 for PySem.W.S.findZ by PySem.W.S.findZ_eq
name_quick tw15919542637913265678 for PySem.W.S.findZ by PySem.W.S.findZ_eq
name_quick tw3282434896037501709 for PySem.W.S.findZ by PySem.W.S.findZ_eq
name_quick tw17846936440860909165 for PySem.W.S.findZ by PySem.W.S.findZ_eq
name_quick tw5701610774189311196 for PySem.W.S.findZ by PySem.W.S.findZ_eq
name_quick tw16869277618539721502 for PySem.W.S.findZ by PySem.W.S.findZ_eq
name_quick tw14333388528381170442 for PySem.W.S.findZ by PySem.W.S.findZ_eq
name_quick tw1772237422875290029 for PySem.W.S.findZ by PySem.W.S.findZ_eq
name_quick tw10500077913531017323 for PySem.W.S.findZ by PySem.W.S.findZ_eq
name_quick tw1503297043503765363 for PySem.W.S.findZ by PySem.W.S.findZ_eq
name_quick tw16374537267813192141 for PySem.W.S.findZ by PySem.W.S.findZ_eq
name_quick tw2862820112641550484 for PySem.W.S.findZ by PySem.W.S.findZ_eq
name_quick tw14023627001141898710 for PySem.W.S.findZ by PySem.W.S.findZ_eq
name_quick tw11729385059970357855 for PySem.W.S.findZ by PySem.W.S.findZ_eq
name_quick tw3442601649717412197 for PySem.W.S.findZ by PySem.W.S.findZ_eq
name_quick tw9979284746773624096 for PySem.W.S.findZ by PySem.W.S.findZ_eq
name_quick tw4319705520415482375 for PySem.W.S.findZ by PySem.W.S.findZ_eq
name_quick tw12450158673883907302 for PySem.W.S.findZ by PySem.W.S.findZ_eq
name_quick tw9626621113073979434 for PySem.W.S.findZ by PySem.W.S.findZ_eq
name_quick tw4552823106982906706 for PySem.W.S.findZ by PySem.W.S.findZ_eq
name_quick tw5076957145309523181 for PySem.W.S.findZ by PySem.W.S.findZ_eq
name_quick tw1886563365779066154 for PySem.W.S.findZ by PySem.W.S.findZ_eq
name_quick tw10317580896714288900 for PySem.W.S.findZ by PySem.W.S.findZ_eq
name_quick tw2968979199505139716 for PySem.W.S.findZ by PySem.W.S.findZ_eq
name_quick tw10833955939284561965 for PySem.W.S.findZ by PySem.W.S.findZ_eq
name_quick tw11333186260410459676 for PySem.W.S.findZ by PySem.W.S.findZ_eq
name_quick tw16180582048198870337 for PySem.W.S.findZ by PySem.W.S.findZ_eq
name_quick tw13640514254501968386 for PySem.W.S.findZ by PySem.W.S.findZ_eq
name_quick tw15894407043143930727 for PySem.W.S.findZ by PySem.W.S.findZ_eq
name_quick tw3560238982266916124 for PySem.W.S.findZ by PySem.W.S.findZ_eq
name_quick tw16697116713213952808 for PySem.W.S.findZ by PySem.W.S.findZ_eq
name_quick tw2711585505577850959 for PySem.W.S.findZ by PySem.W.S.findZ_eq
name_quick tw9676229304581654039 for PySem.W.S.findZ by PySem.W.S.findZ_eq
name_quick tw9305782018832362445 for PySem.W.S.findZ by PySem.W.S.findZ_eq
name_quick tw11306939235166856333 for PySem.W.S.findZ by PySem.W.S.findZ_eq
name_quick tw8620020772036689432 for PySem.W.S.findZ by PySem.W.S.findZ_eq
name_quick tw8703263022893421829 for PySem.W.S.findZ by PySem.W.S.findZ_eq
name_quick tw1715305286062143992 for PySem.W.S.findZ by PySem.W.S.findZ_eq
name_quick tw3152983702415266003 for PySem.W.S.findZ by PySem.W.S.findZ_eq
name_quick tw11270796479367742343 for PySem.W.S.findZ by PySem.W.S.findZ_eq
name_quick tw8579058602437062094 for PySem.W.S.findZ by PySem.W.S.findZ_eq
name_quick tw12825359941727978080 for PySem.W.S.findZ by PySem.W.S.findZ_eq
name_quick tw15475462885187679331 for PySem.W.S.findZ by PySem.W.S.findZ_eq
name_quick tw8693227569615203950 for PySem.W.S.findZ by PySem.W.S.findZ_eq
name_quick tw10942035263794033107 for PySem.W.S.findZ by PySem.W.S.findZ_eq
name_quick tw13236226663087606529 for PySem.W.S.findZ by PySem.W.S.findZ_eq
name_quick tw7397068168572129948 for PySem.W.S.findZ by PySem.W.S.findZ_eq
name_quick tw11186114360453789277 for PySem.W.S.findZ by PySem.W.S.findZ_eq
name_quick tw460243522976405022 for PySem.W.S.findZ by PySem.W.S.findZ_eq
name_quick tw4434333111790514575 for PySem.W.S.findZ by PySem.W.S.findZ_eq
name_quick tw15560500314895047343 for PySem.W.S.findZ by PySem.W.S.findZ_eq
name_quick tw7581816359482902497 for PySem.W.S.findZ by PySem.W.S.findZ_eq
name_quick tw2283851925072248500 for PySem.W.S.findZ by PySem.W.S.findZ_eq
name_quick tw11788150170368784547 for PySem.W.S.findZ by PySem.W.S.findZ_eq
name_quick tw3093977132361051618 for PySem.W.S.findZ by PySem.W.S.findZ_eq
name_quick tw5189142188285759775 for PySem.W.S.findZ by PySem.W.S.findZ_eq
name_quick tw2334299552400917057 for PySem.W.S.findZ by PySem.W.S.findZ_eq
name_quick tw10007627690174824804 for PySem.W.S.findZ by PySem.W.S.findZ_eq
name_quick tw11964429278604863157 for PySem.W.S.findZ by PySem.W.S.findZ_eq
name_quick tw5135500740108067664 for PySem.W.S.findZ by PySem.W.S.findZ_eq
name_quick tw4980102563643897964 for PySem.W.S.findZ by PySem.W.S.findZ_eq
name_quick tw14223099787259518943 for PySem.W.S.findZ by PySem.W.S.findZ_eq
name_quick tw16916688483869632129 for PySem.W.S.findZ by PySem.W.S.findZ_eq
name_quick tw3698559305507148144 for PySem.W.S.findZ by PySem.W.S.findZ_eq
name_quick tw5518745428033880147 for PySem.W.S.findZ by PySem.W.S.findZ_eq
name_quick tw12734952128020822468 for PySem.W.S.findZ by PySem.W.S.findZ_eq
name_quick tw17111948838632640456 for PySem.W.S.findZ by PySem.W.S.findZ_eq
name_quick tw5978237884098788730 for PySem.W.S.findZ by PySem.W.S.findZ_eq
name_quick tw9407582987413476825 for PySem.W.S.findZ by PySem.W.S.findZ_eq
name_quick tw16349216596472256690 for PySem.W.S.findZ by PySem.W.S.findZ_eq
name_quick tw13915792640404377917 for PySem.W.S.findZ by PySem.W.S.findZ_eq
name_quick tw8032284361305108907 for PySem.W.S.findZ by PySem.W.S.findZ_eq
name_quick tw15450981722951097364 for PySem.W.S.findZ by PySem.W.S.findZ_eq
open_top hd for PySem.Challenge.rw_og0007_01
end Mine
open PySem PySem.W PyProof.Rows PySem.Calls PySem.Spec
namespace Mine
section BaseText
inductive Pat where
  | wild | var (n : Str) | lit (i : Int)
  | con (n : Str) (args : List Pat) | tup (items : List Pat) | lst (items : List Pat)
  | as_ (n : Str) (p : Pat) | lazy (p : Pat) | bang (p : Pat)
inductive Val where
  | int (i : Int) | con (n : Str) (args : List Val)

mutual
def Pat.size : Pat → Nat
  | .wild => 1 | .var _ => 1 | .lit _ => 1
  | .con _ ps => Pat.sizes ps + 2 | .tup ps => Pat.sizes ps + 2 | .lst ps => Pat.sizes ps + 2
  | .as_ _ p => p.size + 1 | .lazy p => p.size + 1 | .bang p => p.size + 1
def Pat.sizes : List Pat → Nat
  | [] => 0
  | p :: ps => p.size + Pat.sizes ps + 1
end

abbrev Led := List (Addr × Obj)
abbrev tupO (vs : List Value) (n : Nat) : Obj := { cls := .type "tuple", data := .seq vs.toArray n }
abbrev lstO (vs : List Value) (n : Nat) : Obj := { cls := .type "list", data := .seq vs.toArray n }
abbrev ent (k : Str) (t : Tok) (hs : Int) (v : Value) : DictEntry := ⟨hs, .str k t, v⟩

mutual
inductive ValIn (news : Led) : Value → Val → Prop
  | int {i t} : ValIn news (.int i t) (.int i)
  | con {a l nm t n m vs xs} : (a, tupO [.str nm t, .ref l] n) ∈ news → (l, lstO vs m) ∈ news → ValsIn news vs xs → ValIn news (.ref a) (.con nm xs)
inductive ValsIn (news : Led) : List Value → List Val → Prop
  | nil : ValsIn news [] []
  | cons {v x vs xs} : ValIn news v x → ValsIn news vs xs → ValsIn news (v :: vs) (x :: xs)
end

mutual
inductive PatIn (news : Led) : Value → Pat → Prop
  | wild {x d n t1 h1} : (x, instObj 99 d) ∈ news → (d, dictOf [ent "place" t1 h1 .none] n) ∈ news → PatIn news (.ref x) .wild
  | var {x d n t1 h1 t2 h2 nm t3} : (x, instObj 72 d) ∈ news → (d, dictOf [ent "place" t1 h1 .none, ent "name" t2 h2 (.str nm t3)] n) ∈ news → PatIn news (.ref x) (.var nm)
  | lit {x d n t1 h1 t2 h2 t3 h3 t4 i t5} : (x, instObj 126 d) ∈ news → (d, dictOf [ent "place" t1 h1 .none, ent "kind" t2 h2 (.str "int" t4), ent "value" t3 h3 (.int i t5)] n) ∈ news → PatIn news (.ref x) (.lit i)
  | con {x d n t1 h1 t2 h2 t3 h3 nm t4 l m vs ps} : (x, instObj 153 d) ∈ news → (d, dictOf [ent "place" t1 h1 .none, ent "name" t2 h2 (.str nm t4), ent "args" t3 h3 (.ref l)] n) ∈ news → (l, lstO vs m) ∈ news → PatsIn news vs ps → PatIn news (.ref x) (.con nm ps)
  | tup {x d n t1 h1 t2 h2 l m vs ps} : (x, instObj 180 d) ∈ news → (d, dictOf [ent "place" t1 h1 .none, ent "items" t2 h2 (.ref l)] n) ∈ news → (l, lstO vs m) ∈ news → PatsIn news vs ps → PatIn news (.ref x) (.tup ps)
  | lst {x d n t1 h1 t2 h2 l m vs ps} : (x, instObj 207 d) ∈ news → (d, dictOf [ent "place" t1 h1 .none, ent "items" t2 h2 (.ref l)] n) ∈ news → (l, lstO vs m) ∈ news → PatsIn news vs ps → PatIn news (.ref x) (.lst ps)
  | as_ {x d n t1 h1 t2 h2 t3 h3 nm t4 v p} : (x, instObj 234 d) ∈ news → (d, dictOf [ent "place" t1 h1 .none, ent "name" t2 h2 (.str nm t4), ent "pattern" t3 h3 v] n) ∈ news → PatIn news v p → PatIn news (.ref x) (.as_ nm p)
  | lazy {x d n t1 h1 t2 h2 v p} : (x, instObj 261 d) ∈ news → (d, dictOf [ent "place" t1 h1 .none, ent "pattern" t2 h2 v] n) ∈ news → PatIn news v p → PatIn news (.ref x) (.lazy p)
  | bang {x d n t1 h1 t2 h2 v p} : (x, instObj 288 d) ∈ news → (d, dictOf [ent "place" t1 h1 .none, ent "pattern" t2 h2 v] n) ∈ news → PatIn news v p → PatIn news (.ref x) (.bang p)
inductive PatsIn (news : Led) : List Value → List Pat → Prop
  | nil : PatsIn news [] []
  | cons {v p vs ps} : PatIn news v p → PatsIn news vs ps → PatsIn news (v :: vs) (p :: ps)
end

theorem ValIn.mono {news news' : Led} (hs : ∀ p ∈ news, p ∈ news') {v : Value} {x : Val} (h : ValIn news v x) : ValIn news' v x :=
  ValIn.rec (motive_1 := fun v x _ => ValIn news' v x) (motive_2 := fun vs xs _ => ValsIn news' vs xs) .int (fun h1 h2 _ h3 => .con (hs _ h1) (hs _ h2) h3) .nil (fun _ _ h1 h2 => .cons h1 h2) h
theorem ValsIn.mono {news news' : Led} (hs : ∀ p ∈ news, p ∈ news') {vs : List Value} {xs : List Val} (h : ValsIn news vs xs) : ValsIn news' vs xs :=
  ValsIn.rec (motive_1 := fun v x _ => ValIn news' v x) (motive_2 := fun vs xs _ => ValsIn news' vs xs) .int (fun h1 h2 _ h3 => .con (hs _ h1) (hs _ h2) h3) .nil (fun _ _ h1 h2 => .cons h1 h2) h
theorem PatIn.mono {news news' : Led} (hs : ∀ p ∈ news, p ∈ news') {v : Value} {x : Pat} (h : PatIn news v x) : PatIn news' v x :=
  PatIn.rec (motive_1 := fun v x _ => PatIn news' v x) (motive_2 := fun vs xs _ => PatsIn news' vs xs) (fun h1 h2 => .wild (hs _ h1) (hs _ h2)) (fun h1 h2 => .var (hs _ h1) (hs _ h2)) (fun h1 h2 => .lit (hs _ h1) (hs _ h2)) (fun h1 h2 h3 _ h4 => .con (hs _ h1) (hs _ h2) (hs _ h3) h4) (fun h1 h2 h3 _ h4 => .tup (hs _ h1) (hs _ h2) (hs _ h3) h4) (fun h1 h2 h3 _ h4 => .lst (hs _ h1) (hs _ h2) (hs _ h3) h4) (fun h1 h2 _ h3 => .as_ (hs _ h1) (hs _ h2) h3) (fun h1 h2 _ h3 => .lazy (hs _ h1) (hs _ h2) h3) (fun h1 h2 _ h3 => .bang (hs _ h1) (hs _ h2) h3) .nil (fun _ _ h1 h2 => .cons h1 h2) h
theorem PatsIn.mono {news news' : Led} (hs : ∀ p ∈ news, p ∈ news') {vs : List Value} {xs : List Pat} (h : PatsIn news vs xs) : PatsIn news' vs xs :=
  PatsIn.rec (motive_1 := fun v x _ => PatIn news' v x) (motive_2 := fun vs xs _ => PatsIn news' vs xs) (fun h1 h2 => .wild (hs _ h1) (hs _ h2)) (fun h1 h2 => .var (hs _ h1) (hs _ h2)) (fun h1 h2 => .lit (hs _ h1) (hs _ h2)) (fun h1 h2 h3 _ h4 => .con (hs _ h1) (hs _ h2) (hs _ h3) h4) (fun h1 h2 h3 _ h4 => .tup (hs _ h1) (hs _ h2) (hs _ h3) h4) (fun h1 h2 h3 _ h4 => .lst (hs _ h1) (hs _ h2) (hs _ h3) h4) (fun h1 h2 _ h3 => .as_ (hs _ h1) (hs _ h2) h3) (fun h1 h2 _ h3 => .lazy (hs _ h1) (hs _ h2) h3) (fun h1 h2 _ h3 => .bang (hs _ h1) (hs _ h2) h3) .nil (fun _ _ h1 h2 => .cons h1 h2) h

mutual
def fits : Pat → Val → Bool
  | .wild, _ => true | .var _, _ => true | .lazy _, _ => true
  | .as_ _ p, v => fits p v | .bang p, v => fits p v
  | .lit i, .int j => decide (i = j)
  | .con n ps, .con m vs => decide (n = m) && fitsZ ps vs
  | .tup ps, .con _ vs => fitsZ ps vs
  | .lst ps, v => fitsL ps v
  | _, _ => false
def fitsZ : List Pat → List Val → Bool
  | p :: ps, v :: vs => fits p v && fitsZ ps vs
  | _, _ => true
def fitsL : List Pat → Val → Bool
  | [], .con m _ => decide (m = Str.ofString "[]")
  | p :: ps, .con m (a :: b :: _) => decide (m = Str.ofString ":") && (fits p a && fitsL ps b)
  | _, _ => false
end
mutual
def Okf : Pat → Val → Prop
  | .wild, _ => True | .var _, _ => True | .lazy _, _ => True
  | .as_ _ p, v => Okf p v | .bang p, v => Okf p v
  | .lit _, .int _ => True
  | .con n ps, .con m vs => n = m → OkZ ps vs
  | .tup ps, .con _ vs => OkZ ps vs
  | .lst ps, v => OkL ps v
  | _, _ => False
def OkZ : List Pat → List Val → Prop
  | p :: ps, v :: vs => Okf p v ∧ OkZ ps vs
  | _, _ => True
def OkL : List Pat → Val → Prop
  | [], .con _ _ => True
  | p :: ps, .con m vs => m = Str.ofString ":" → ∃ a b, vs = [a, b] ∧ Okf p a ∧ OkL ps b
  | _, _ => False
end
theorem let_A {α : Type} {M : Model} {A : Around} {t : Sem α} {Q : α → Shared → Prop} {E : Value → Shared → Prop} {s : Shared} (h : let A' := A; wpAny M A' t Q E s) : wpAny M A t Q E s := h
theorem gen_toks {α : Type} {M : Model} {A : Around} {t : Sem α} {Q : α → Shared → Prop} {E : Value → Shared → Prop} {hp : Heap} {g d o} {k : Nat} (h : ∀ tk, wpAny M A t Q E { heap := hp, gens := g, drawn := d, toks := tk, os := o }) : wpAny M A t Q E { heap := hp, gens := g, drawn := d, toks := k, os := o } := h k
theorem let_Q {α : Type} {M : Model} {A : Around} {t : Sem α} {Q : α → Shared → Prop} {E : Value → Shared → Prop} {s : Shared} (h : let Q' := Q; wpAny M A t Q' E s) : wpAny M A t Q E s := h
theorem let_env {M : Model} {A : Around} {b : List Stmt} {env : Env} {Q : Flow → Shared → Prop} {E : Value → Shared → Prop} {s : Shared} (h : let e' := env; wpAny M A (execs b e') Q E s) : wpAny M A (execs b env) Q E s := h
theorem fr_let {g h : Heap} {L : Addr} {m : Str → Option Value} {P : Prop} (F : Fr g L h m) (k : let m' := m; Fr g L h m' → P) : P := k F
theorem nn {α : Type} {q : α} (h : (none : Option α) = some q) : False := by cases h
end BaseText
section Comp0Text
open PyProof.Rows.LCg
section
variable {prog : Program} {w : World} {A : Around} {E : Value → Shared → Prop} {s : Shared} {env : Env}

/-- the block of a list comprehension: the list D, the block's own names C, the iterator I; what is left is the loop -/
def Setup (prog : Program) (w : World) (A : Around) (E : Value → Shared → Prop) (e : Expr) (scope : Scope) (cl : List (Str × Addr)) (env : Env) (Q : Value → Shared → Prop) (it : Value) (s₂ : Shared) : Prop :=
  (∀ (s : Shared) (Q : Value → Shared → Prop) (E : Value → Shared → Prop), (∀ b o, s₂.heap.get? b = some o → s.heap.get? b = some o) → Q it s → wpAny (model prog w) A (pyIter it) Q E s) ∧
  ∀ h₁ tk, (∀ b o, s₂.heap.get? b = some o → h₁.get? b = some o) → h₁.get? s₂.heap.objs.size = some (lstO [] 0) → h₁.Ns (s₂.heap.objs.size + 1) (fun _ => none) →
    codeAny (model prog w) A (.compLoop e 0 it (.ref s₂.heap.objs.size) (compEnvC scope cl (s₂.heap.objs.size + 1) env))
      (fun r s' => r = .ok .next ∧ ∃ m, s'.heap.Ns (s₂.heap.objs.size + 1) m ∧ ∀ h'', Heap.SameBut (s₂.heap.objs.size + 1) s'.heap h'' → Q (.ref s₂.heap.objs.size) { s' with heap := h'' })
      { s₂ with heap := h₁, toks := tk }

theorem comp_setup {elt target iter : Expr} {ifs : List Expr} {gs : List Comprehension} {scope : Scope} {cl : List (Str × Addr)} {pos : Pos} {Q : Value → Shared → Prop}
    (hclos : closureFor scope env = pure cl) (hcell : ∀ y ∈ scope.names, y.2 ≠ .cell) (hkind : scope.kind = .function)
    (hnames : ∀ y ∈ scope.names, y.2 = .local → scope.names.lookup y.1 = some .local)
    (h : wpAny (model prog w) A (eval iter env) (fun xv s₁ => wpAny (model prog w) A (pyIter xv) (Setup prog w A E (.ListComp elt (⟨target, iter, ifs, 0⟩ :: gs) scope pos) scope cl env Q) E s₁) E s)
    (hs : ∀ x, foldedSetIterable iter env x = pure x := by intro _; rfl) :
    wpAny (model prog w) A (eval (.ListComp elt (⟨target, iter, ifs, 0⟩ :: gs) scope pos) env) Q E s := by
  rw [eval_ListComp]
  refine wpAny_comprehension_free (use := none) rfl hs hclos hkind hnames (wpAny_mono h (fun xv s₁ h₁ => ?_) fun _ _ e => e)
  refine wpAny_mono h₁ (fun it s₂ ⟨hself, hloop⟩ => ?_) fun _ _ e => e
  refine wpAny_newObj_type (wpAny_newFunctionEnv hcell (by intro y hy; simp at hy) (fun h₁ hns₁ hsb₁ => ?_) hkind)
  dsimp only at hns₁ hsb₁ ⊢
  generalize hH2 : s₂.heap.push { cls := .type "list", dict := none, data := .seq ([] : List Value).toArray } = H2 at hns₁ hsb₁ ⊢
  have hC : H2.objs.size = s₂.heap.objs.size + 1 := by rw [← hH2, Heap.size_push]
  have old : ∀ b o, s₂.heap.get? b = some o → h₁.get? b = some o := fun b o e =>
    hsb₁.extBut b o (by rw [hC]; exact Nat.ne_of_lt (Nat.lt_succ_of_lt (Heap.lt_size e))) (Heap.get?_push_of_some _ (hH2 ▸ Heap.get?_push_of_some _ e))
  have hacc : h₁.get? s₂.heap.objs.size = some (lstO [] 0) := hsb₁.extBut _ _ (by rw [hC]; exact Nat.ne_of_lt (Nat.lt_succ_self _)) (Heap.get?_push_of_some _ (hH2 ▸ Heap.get?_push_size _ rfl))
  rw [hC] at hns₁ ⊢
  have hl : ∀ tk, codeAny (model prog w) A (.compLoop (.ListComp elt (⟨target, iter, ifs, 0⟩ :: gs) scope pos) 0 it (.ref s₂.heap.objs.size) (compEnvC scope cl (s₂.heap.objs.size + 1) env))
      (compPost (model prog w) A E none Q (.ref s₂.heap.objs.size) (s₂.heap.objs.size + 1)) { s₂ with heap := h₁, toks := tk } := fun tk => by
    refine codeAny_mono (hloop h₁ tk old hacc hns₁) ?_
    rintro r s' ⟨rfl, m, hn, hq⟩
    exact ⟨m, hn, hq⟩
  exact codeAny_compStart_list (hl _) (hself _ _ _ old (hl _))
end
end Comp0Text
section CompZText
open PyProof.Rows.LCg
section
variable {prog : Program} {w : World} {A : Around} {E : Value → Shared → Prop} {s : Shared} {env : Env} {h₀ : Heap} {L : Addr} {m : Str → Option Value} {news : Led}

theorem news_sub {h : Heap} {l l' : Led} (N : News h₀ L h l') (hs : ∀ p ∈ l, p ∈ l') : News h₀ L h l := fun p hp => N p (hs p hp)
theorem get_none_size {h : Heap} {a : Addr} (F : Fr h₀ L h m) (ha : h.objs.size ≤ a) : h₀.get? a = none := by
  cases q : h₀.get? a with
  | none => rfl
  | some o => exact absurd (Heap.lt_size (F.keep a o q)) (Nat.not_lt.mpr ha)

theorem neA {a b : Nat} (h : a ≠ b) : ¬ ((a : Addr) = (b : Addr)) := h
theorem ne_add {a n : Nat} (h : a < n) (k : Nat) : a ≠ n + k := by omega
theorem ne_add2 {a n : Nat} (h : a < n) (k j : Nat) : a ≠ n + k + j := by omega
theorem own_of {h : Heap} {n : Nat} : ∀ (as : List Addr), (∀ a ∈ as, n ≤ a ∧ ∃ o, h.get? a = some o) → ∃ own : Led, (∀ p ∈ own, h.get? p.1 = some p.2 ∧ n ≤ p.1) ∧ ∀ a ∈ as, ∃ o, (a, o) ∈ own
  | [], _ => ⟨[], (fun _ h => (nomatch h)), (fun _ h => (nomatch h))⟩
  | a :: as, H => by
    obtain ⟨own, h1, h2⟩ := own_of as fun b hb => H b (List.mem_cons_of_mem _ hb)
    obtain ⟨ha, o, ho⟩ := H a List.mem_cons_self
    refine ⟨(a, o) :: own, fun p hp => ?_, fun b hb => ?_⟩
    · rcases List.mem_cons.mp hp with rfl | hp
      · exact ⟨ho, ha⟩
      · exact h1 p hp
    · rcases List.mem_cons.mp hb with rfl | hb
      · exact ⟨o, List.mem_cons_self⟩
      · obtain ⟨o', q⟩ := h2 b hb
        exact ⟨o', List.mem_cons_of_mem _ q⟩

theorem ints_snoc {t : Tok} : ∀ {ys : List Value}, IntsAre ys (List.replicate ys.length 1) → IntsAre (ys ++ [.int 1 t]) (List.replicate (ys ++ [Value.int 1 t]).length 1)
  | [], _ => .cons _ _ .nil
  | _ :: ys, h => by
    cases h with
    | cons k t' r => exact .cons _ _ (ints_snoc r)

inductive ZInv (h₀ : Heap) (L : Addr) (m : Str → Option Value) (news : Led) (s : Shared) (D C : Addr) (b : Nat → Bool) (n : Nat) (St : Nat → Heap → Prop) (k : Nat) (s' : Shared) : Prop
  | mk (h : Heap) (tk i : Nat) (ys : List Value) (mC : Str → Option Value) (e : s' = { s with heap := h, toks := tk }) (hi : i ≤ n) (hk : k = n + 1 - i) (st : St i h) (F : Fr h₀ L h m) (N : News h₀ L h news) (ns : h.Ns C mC) (hD : h.get? D = some (lstO ys ys.length)) (hc : ys.length = (List.range i).countP b) (hle : ys.length ≤ i) (hI : IntsAre ys (List.replicate ys.length 1))
theorem zip_loop {l1 l2 : Addr} {vs1 vs2 : List Value} {iter c : Expr} {x1 x2 : Str} {p1 p2 tp cp : Pos} {kk ik : Nat} {scope : Scope} {cl : List (Str × Addr)} {pos : Pos} {Q : Value → Shared → Prop} {I D C : Addr} {fp wr ow : List Addr} {Z : Nat} {St : Nat → Heap → Prop} {Mid : Nat → Addr → Heap → Prop} {h₁ : Heap} {tk₁ : Nat} {mC₁ : Str → Option Value}
    (b : Nat → Bool)
    (hh : A.handled = none) (hkind : scope.kind = .function) (hx1 : scope.names.lookup x1 = some .local) (hx2 : scope.names.lookup x2 = some .local) (hxx : ¬ x1 = x2) (hsz : vs1.length ≤ 1000)
    (test : ∀ (i : Nat) (v v' : Value) (own : Led) (C : Addr) (oC : Obj) (mC : Str → Option Value) h tk (E' : Value → Shared → Prop), vs1[i]? = some v → vs2[i]? = some v' → NsObj oC mC → mC x1 = some v → mC x2 = some v' → Fr h₀ L h m → News h₀ L h ((C, oC) :: (own ++ news)) →
      wpAny (model prog w) A (isTrue c (compEnvC scope cl C env) (eval c (compEnvC scope cl C env))) (fun ok s' => ok = b i ∧ ∃ h' tk', s' = { s with heap := h', toks := tk' } ∧ Fr h₀ L h' m ∧ News h₀ L h' ((C, oC) :: (own ++ news))) E' { s with heap := h, toks := tk })
    (done : ∀ D ys k h tk, Fr h₀ L h m → News h₀ L h ((D, lstO ys k) :: news) → ys.length = (List.range (min vs1.length vs2.length)).countP b → IntsAre ys (List.replicate ys.length 1) → Q (.ref D) { s with heap := h, toks := tk })
    (W : WalksT prog w A I fp wr (min vs1.toArray.size vs2.toArray.size) (fun i vals => ∃ x y, vs1.toArray[i]? = some x ∧ vs2.toArray[i]? = some y ∧ vals = #[x, y]) St Mid)
    (hown : ∀ i h, St i h → ∃ own : Led, (∀ p ∈ own, h.get? p.1 = some p.2 ∧ Z ≤ p.1) ∧ ∀ a ∈ ow, ∃ o, (a, o) ∈ own)
    (hfpl : ∀ a ∈ fp, a ∈ ow ∨ ∃ o, (a, o) ∈ news) (ltL : L < Z) (hZn : ∀ a, Z ≤ a → h₀.get? a = none)
    (fpCD : ∀ a ∈ fp, a ≠ D ∧ a ≠ C) (LneD : L ≠ D) (LneC : L ≠ C) (LneW : ∀ a ∈ wr, L ≠ a) (nD : h₀.get? D = none) (nC : h₀.get? C = none) (nW : ∀ a ∈ wr, h₀.get? a = none) (hDC : D ≠ C)
    (DneN : ∀ p ∈ news, p.1 ≠ D) (CneN : ∀ p ∈ news, p.1 ≠ C) (WneN : ∀ a ∈ wr, ∀ p ∈ news, p.1 ≠ a)
    (st0 : St 0 h₁) (F₁ : Fr h₀ L h₁ m) (N₁ : News h₀ L h₁ news) (nsC : h₁.Ns C mC₁) (accD : h₁.get? D = some (lstO [] 0)) :
    codeAny (model prog w) A (Code.compLoop (.ListComp (.Constant (.int 1) ik cp) [⟨.Tuple [.Name x1 p1, .Name x2 p2] kk tp, iter, [c], 0⟩] scope pos) 0 (.ref I) (.ref D) (compEnvC scope cl C env))
      (fun r s' => r = Except.ok Flow.next ∧ ∃ m, s'.heap.Ns C m ∧ ∀ (h'' : Heap), Heap.SameBut C s'.heap h'' → Q (.ref D) { heap := h'', gens := s'.gens, drawn := s'.drawn, toks := s'.toks, os := s'.os })
      { heap := h₁, gens := s.gens, drawn := s.drawn, toks := tk₁, os := s.os } := by
  have hCwr : C ∉ wr := fun h => (fpCD _ (W.sub _ h)).2 rfl
  have hDwr : D ∉ wr := fun h => (fpCD _ (W.sub _ h)).1 rfl
  refine kct_loop (ZInv h₀ L m news s D C b (min vs1.length vs2.length) St) ?_ (min vs1.length vs2.length + 1)
    ⟨h₁, _, 0, [], _, rfl, Nat.zero_le _, rfl, st0, F₁, N₁, nsC, accD, by simp, Nat.le_refl _, .nil⟩
  rintro k s' ⟨h, tk, i, ys, mC, rfl, hi, rfl, st, F', N', nsC', hD', hc, hle, hI⟩
  have fr_w : ∀ {h h' : Heap}, Fr h₀ L h m → (∀ b o, b ∉ wr → h.get? b = some o → h'.get? b = some o) → Fr h₀ L h' m := fun F' hk =>
    ⟨F'.ns.at' fun o e => hk L o (fun q => LneW _ q rfl) e, fun b o e => hk b o (fun q => by rw [nW _ q] at e; cases e) (F'.keep b o e), F'.above⟩
  have nw_w : ∀ {h h' : Heap}, News h₀ L h news → (∀ b o, b ∉ wr → h.get? b = some o → h'.get? b = some o) → News h₀ L h' news := fun N' hk p hp =>
    ⟨hk _ _ (fun q => WneN _ q p hp rfl) (N' p hp).1, (N' p hp).2⟩
  by_cases hlt : i < min vs1.length vs2.length
  · refine W.item i _ _ _ (by simpa using hlt) st fun T vals h₂ tk₂ hP hTs hT hM hk₂ => ?_
    obtain ⟨v, v', e1, e2, rfl⟩ := hP
    have F₂ := fr_w F' hk₂
    have N₂ := nw_w N' hk₂
    have nsC₂ : h₂.Ns C mC := nsC'.at' fun o e => hk₂ C o hCwr e
    have hD₂ : h₂.get? D = some (lstO ys ys.length) := hk₂ _ _ hDwr hD'
    refine W.go _ _ _ i T _ _ _ hM fun h₃ st₃ hk₃ => ?_
    have hT₃ : h₃.IsTuple T #[v, v'] := hT.at fun o e => hk₃ T o (W.apart _ _ _ hM) e
    have F₃ := fr_w F₂ hk₃
    have N₃ := nw_w N₂ hk₃
    have nsC₃ : h₃.Ns C mC := nsC₂.at' fun o e => hk₃ C o hCwr e
    have hD₃ : h₃.get? D = some (lstO ys ys.length) := hk₃ _ _ hDwr hD₂
    refine assign_Tuple_tuple hh hT₃ rfl rfl fun h₅ he => ?_
    have he' : ∀ b o, h₃.get? b = some o → h₅.get? b = some o := fun b o e => he b o (Nat.ne_of_lt (Heap.lt_size e)) e
    refine assignInOrder_cons (wpAny_assign_Name (wpAny_storeName_local (lookup_relabel_local hx1) (nsC₃.at' fun o e => he' _ o e) (fun h₆ hn₆ hs₆ => ?_) (by simp [compEnvC, relabel, hkind])))
    refine assignInOrder_cons (wpAny_assign_Name (wpAny_storeName_local (lookup_relabel_local hx2) hn₆ (fun h₇ hn₇ hs₇ => ?_) (by simp [compEnvC, relabel, hkind])))
    refine assignInOrder_nil ?_
    have old7 : ∀ b o, b ≠ C → h₃.get? b = some o → h₇.get? b = some o := fun b o hb e => hs₇.extBut b o hb (hs₆.extBut b o hb (he' b o e))
    have F₇ : Fr h₀ L h₇ m := ((F₃.keeps he').change hs₆ (Ne.symm LneC) nC).change hs₇ (Ne.symm LneC) nC
    have N₇ : News h₀ L h₇ news := fun p hp => ⟨old7 _ _ (CneN p hp) (N₃ p hp).1, (N₃ p hp).2⟩
    have st₇ : St (i + 1) h₇ := W.frame _ _ _ st₃ fun b hb o e => old7 b o (fpCD b hb).2 e
    have hD₇ : h₇.get? D = some (lstO ys ys.length) := old7 _ _ hDC hD₃
    obtain ⟨oC, heC, hoC⟩ := ns_obj hn₇
    obtain ⟨own, ho1, ho2⟩ := hown _ _ st₇
    have NA : News h₀ L h₇ ((C, oC) :: (((D, lstO ys ys.length) :: own) ++ news)) := by
      intro p hp
      rcases List.mem_cons.mp hp with rfl | hp
      · exact ⟨heC, Ne.symm LneC, nC⟩
      · rcases List.mem_append.mp hp with hp | hp
        · rcases List.mem_cons.mp hp with rfl | hp
          · exact ⟨hD₇, Ne.symm LneD, nD⟩
          · exact ⟨(ho1 p hp).1, fun e => Nat.lt_irrefl _ (Nat.lt_of_lt_of_le (e ▸ ltL) (ho1 p hp).2), hZn _ (ho1 p hp).2⟩
        · exact N₇ p hp
    have htake : (List.range (i + 1)).countP b = (List.range i).countP b + (if b i then 1 else 0) := by
      rw [List.range_succ, List.countP_append]
      simp [List.countP_cons]
    refine wpAny_mono (test i v v' _ C oC _ h₇ _ _ (by simpa using e1) (by simpa using e2) hoC (by simp [hxx]) (by simp) F₇ NA) (fun ok s₈ h₈ => ?_) fun _ _ e => e
    obtain ⟨rfl, h₈, tk₈, rfl, F₈, N₈⟩ := h₈
    have zC := (N₈ _ List.mem_cons_self).1
    have zD := (N₈ (D, lstO ys ys.length) (List.mem_cons_of_mem _ (List.mem_append.mpr (.inl List.mem_cons_self)))).1
    have NN : News h₀ L h₈ news := news_sub N₈ fun p hp => List.mem_cons_of_mem _ (List.mem_append.mpr (.inr hp))
    have stk : ∀ a ∈ fp, ∀ o, h₇.get? a = some o → h₈.get? a = some o := by
      intro a ha o e
      rcases hfpl a ha with q | ⟨o', q⟩
      · obtain ⟨o', q'⟩ := ho2 a q
        have y := (ho1 _ q').1
        have z := (N₈ (a, o') (List.mem_cons_of_mem _ (List.mem_append.mpr (.inl (List.mem_cons_of_mem _ q'))))).1
        dsimp only at y z
        rw [e] at y; rw [z, ← y]
      · have y := (N₇ _ q).1
        have z := (NN _ q).1
        dsimp only at y z
        rw [e] at y; rw [z, ← y]
    have st₈ : St (i + 1) h₈ := W.frame _ _ _ st₇ stk
    have nsC₈ := hoC.ns zC
    cases hb : b i with
    | false =>
      simp only [Bool.false_eq_true, if_false]
      refine ⟨min vs1.length vs2.length + 1 - (i + 1), by omega, h₈, tk₈, i + 1, ys, _, rfl, hlt, rfl, st₈, F₈, NN, nsC₈, zD, ?_, by omega, hI⟩
      rw [htake, hb, hc]; rfl
    | true =>
      simp only [if_true]
      refine wpAny_Constant_int ?_
      refine append_at (hsz := by rw [List.size_toArray, sizeLine_eq]; have := Nat.min_le_left vs1.length vs2.length; omega) zD fun h₉ hs₉ hD₉ => ?_
      refine ⟨min vs1.length vs2.length + 1 - (i + 1), by omega, h₉, tk₈ + 1, i + 1, ys ++ [.int 1 tk₈], _, rfl, hlt, rfl, W.frame _ _ _ st₈ fun a ha o e => hs₉.extBut a o (fpCD a ha).1 e, F₈.change hs₉ (Ne.symm LneD) nD,
        fun p hp => ⟨hs₉.extBut _ _ (DneN p hp) (NN p hp).1, (NN p hp).2⟩, nsC₈.sameBut hs₉ (Ne.symm hDC), ?_, ?_, ?_, ints_snoc hI⟩
      · rw [hD₉, List.length_append, List.length_singleton]
        simp
      · rw [htake, hb, List.length_append, hc]; rfl
      · rw [List.length_append, List.length_singleton]; omega
  · obtain rfl : i = min vs1.length vs2.length := Nat.le_antisymm hi (Nat.not_lt.mp hlt)
    refine W.done _ _ _ (by simpa using st) fun h₂ tk₂ hk₂ => ?_
    have F₂ := fr_w F' hk₂
    have N₂ := nw_w N' hk₂
    have hD₂ : h₂.get? D = some (lstO ys ys.length) := hk₂ _ _ hDwr hD'
    refine ⟨rfl, mC, nsC'.at' fun o e => hk₂ C o hCwr e, fun h'' hs'' => ?_⟩
    refine done D ys ys.length h'' tk₂ (F₂.change hs'' (Ne.symm LneC) nC) (fun p hp => ?_) ?_ ?_
    · rcases List.mem_cons.mp hp with rfl | hp
      · exact ⟨hs''.extBut _ _ hDC hD₂, Ne.symm LneD, nD⟩
      · exact ⟨hs''.extBut _ _ (CneN p hp) (N₂ p hp).1, (N₂ p hp).2⟩
    · exact hc
    · exact hI
/-- `[1 for x1, x2 in zip(l1, l2) if c]`: as many ones as pairs for which the test says yes -/
theorem comp_zip {l1 l2 : Addr} {vs1 vs2 : List Value} {n1 n2 : Nat} {iter c : Expr} {x1 x2 : Str} {p1 p2 tp cp : Pos} {kk ik : Nat} {scope : Scope} {cl : List (Str × Addr)} {pos : Pos} {Q : Value → Shared → Prop}
    (b : Nat → Bool)
    (hh : A.handled = none) (hkind : scope.kind = .function) (hx1 : scope.names.lookup x1 = some .local) (hx2 : scope.names.lookup x2 = some .local) (hxx : ¬ x1 = x2)
    (F : Fr h₀ L s.heap m) (N : News h₀ L s.heap news) (m1 : (l1, lstO vs1 n1) ∈ news) (m2 : (l2, lstO vs2 n2) ∈ news) (hsz : vs1.length ≤ 1000)
    (test : ∀ (i : Nat) (v v' : Value) (own : Led) (C : Addr) (oC : Obj) (mC : Str → Option Value) h tk (E' : Value → Shared → Prop), vs1[i]? = some v → vs2[i]? = some v' → NsObj oC mC → mC x1 = some v → mC x2 = some v' → Fr h₀ L h m → News h₀ L h ((C, oC) :: (own ++ news)) →
      wpAny (model prog w) A (isTrue c (compEnvC scope cl C env) (eval c (compEnvC scope cl C env))) (fun ok s' => ok = b i ∧ ∃ h' tk', s' = { s with heap := h', toks := tk' } ∧ Fr h₀ L h' m ∧ News h₀ L h' ((C, oC) :: (own ++ news))) E' { s with heap := h, toks := tk })
    (done : ∀ D ys k h tk, Fr h₀ L h m → News h₀ L h ((D, lstO ys k) :: news) → ys.length = (List.range (min vs1.length vs2.length)).countP b → IntsAre ys (List.replicate ys.length 1) → Q (.ref D) { s with heap := h, toks := tk }) :
    wpAny (model prog w) A (call (.type "zip") [.ref l1, .ref l2]) (fun xv s₁ => wpAny (model prog w) A (pyIter xv) (Setup prog w A E (.ListComp (.Constant (.int 1) ik cp) [⟨.Tuple [.Name x1 p1, .Name x2 p2] kk tp, iter, [c], 0⟩] scope pos) scope cl env Q) E s₁) E s := by
  have hl1 : s.heap.IsList l1 vs1.toArray := ⟨_, (N _ m1).1, rfl, _, rfl⟩
  have hl2 : s.heap.IsList l2 vs2.toArray := ⟨_, (N _ m2).1, rfl, _, rfl⟩
  have lt1 : l1 < s.heap.objs.size := Heap.lt_size (N _ m1).1
  have lt2 : l2 < s.heap.objs.size := Heap.lt_size (N _ m2).1
  have ltL : L < s.heap.objs.size := F.ns.lt
  refine call_zip_2 hl1 hl2 fun hz iz ti to i1 i2 size keep => ?_
  have W := WalksT.zip2 (prog := prog) (w := w) (A := A) hh (s.heap.objs.size + 4) (s.heap.objs.size + 2) (s.heap.objs.size + 3) s.heap.objs.size (s.heap.objs.size + 1) l1 l2 (zipApart_new lt1 lt2) vs1.toArray vs2.toArray
  have hown : ∀ (i : Nat) (h : Heap), (IsZip h (s.heap.objs.size + 4) (s.heap.objs.size + 2) (s.heap.objs.size + 3) .none ∧ IsPair h (s.heap.objs.size + 2) (.ref s.heap.objs.size) (.ref (s.heap.objs.size + 1)) ∧ (∃ a b, IsPair h (s.heap.objs.size + 3) a b) ∧ h.IsListIter s.heap.objs.size l1 i ∧ h.IsListIter (s.heap.objs.size + 1) l2 i ∧ h.IsList l1 vs1.toArray ∧ h.IsList l2 vs2.toArray) → ∃ own : Led, (∀ p ∈ own, h.get? p.1 = some p.2 ∧ s.heap.objs.size ≤ p.1) ∧ ∀ a ∈ [s.heap.objs.size + 4, s.heap.objs.size + 2, s.heap.objs.size + 3, s.heap.objs.size, s.heap.objs.size + 1], ∃ o, (a, o) ∈ own := by
    intro i h q
    obtain ⟨z1, z2, ⟨a, b', z3⟩, ⟨o4, z4, _⟩, ⟨o5, z5, _⟩, _⟩ := q
    refine own_of _ fun a ha => ?_
    simp only [List.mem_cons, List.not_mem_nil, or_false] at ha
    rcases ha with rfl | rfl | rfl | rfl | rfl
    · exact ⟨Nat.le_add_right .., _, z1⟩
    · exact ⟨Nat.le_add_right .., _, z2⟩
    · exact ⟨Nat.le_add_right .., _, z3⟩
    · exact ⟨Nat.le_refl _, _, z4⟩
    · exact ⟨Nat.le_add_right .., _, z5⟩
  have hfpl : ∀ a ∈ [s.heap.objs.size + 4, s.heap.objs.size + 2, s.heap.objs.size + 3, s.heap.objs.size, s.heap.objs.size + 1, l1, l2], a ∈ [s.heap.objs.size + 4, s.heap.objs.size + 2, s.heap.objs.size + 3, s.heap.objs.size, s.heap.objs.size + 1] ∨ ∃ o, (a, o) ∈ news := by
    intro a ha
    simp only [List.mem_cons, List.not_mem_nil, or_false] at ha ⊢
    rcases ha with rfl | rfl | rfl | rfl | rfl | rfl | rfl
    · exact .inl (.inl rfl)
    · exact .inl (.inr (.inl rfl))
    · exact .inl (.inr (.inr (.inl rfl)))
    · exact .inl (.inr (.inr (.inr (.inl rfl))))
    · exact .inl (.inr (.inr (.inr (.inr rfl))))
    · exact .inr ⟨_, m1⟩
    · exact .inr ⟨_, m2⟩
  have hwr : ∀ a ∈ [s.heap.objs.size + 4, s.heap.objs.size + 3, s.heap.objs.size, s.heap.objs.size + 1], s.heap.objs.size ≤ a ∧ a < s.heap.objs.size + 5 := by
    intro a ha
    simp only [List.mem_cons, List.not_mem_nil, or_false] at ha
    rcases ha with rfl | rfl | rfl | rfl
    · exact ⟨Nat.le_add_right .., Nat.add_lt_add_left (by decide) _⟩
    · exact ⟨Nat.le_add_right .., Nat.add_lt_add_left (by decide) _⟩
    · exact ⟨Nat.le_refl _, Nat.lt_add_of_pos_right (by decide)⟩
    · exact ⟨Nat.le_add_right .., Nat.add_lt_add_left (by decide) _⟩
  have st0 := (⟨iz, ti, ⟨_, _, to⟩, i1, i2, hl1.at fun o e => keep _ o e, hl2.at fun o e => keep _ o e⟩ : IsZip hz (s.heap.objs.size + 4) (s.heap.objs.size + 2) (s.heap.objs.size + 3) .none ∧ IsPair hz (s.heap.objs.size + 2) (.ref s.heap.objs.size) (.ref (s.heap.objs.size + 1)) ∧ (∃ a b, IsPair hz (s.heap.objs.size + 3) a b) ∧ hz.IsListIter s.heap.objs.size l1 0 ∧ hz.IsListIter (s.heap.objs.size + 1) l2 0 ∧ hz.IsList l1 vs1.toArray ∧ hz.IsList l2 vs2.toArray)
  refine W.self 0 _ _ _ st0 ⟨fun s' Q' E' k q => W.self 0 _ _ _ (W.frame _ _ _ st0 fun b hb o e => k b o e) q, fun h₁ tk₁ old accD nsC => ?_⟩
  dsimp only at old accD nsC ⊢
  rw [size] at accD nsC ⊢
  have ltD : ∀ p ∈ news, p.1 < s.heap.objs.size := fun p hp => Heap.lt_size (N p hp).1
  refine zip_loop (Z := s.heap.objs.size) (l1 := l1) (l2 := l2) b hh hkind hx1 hx2 hxx hsz test done W hown hfpl ltL (fun a ha => get_none_size F ha) ?fpCD (ne_add ltL 5) (ne_add2 ltL 5 1) (fun a ha e => Nat.lt_irrefl _ (Nat.lt_of_lt_of_le (e ▸ ltL) (hwr a ha).1)) (get_none_size F (Nat.le_add_right ..)) (get_none_size F (Nat.le_trans (Nat.le_add_right _ 5) (Nat.le_add_right ..))) (fun a ha => get_none_size F (hwr a ha).1) (Nat.ne_of_lt (Nat.lt_succ_self _)) (fun p hp => ne_add (ltD p hp) 5) (fun p hp => ne_add2 (ltD p hp) 5 1) (fun a ha p hp e => absurd (Nat.lt_of_lt_of_le (ltD p hp) (e ▸ (hwr a ha).1)) (Nat.lt_irrefl _)) (W.frame _ _ _ st0 fun b hb o e => old b o e) (F.keeps fun b o e => old b o (keep b o e)) (fun p hp => ⟨old _ _ (keep _ _ (N p hp).1), (N p hp).2⟩) nsC accD
  case fpCD =>
    intro a ha
    rcases hfpl a ha with q | ⟨o, q⟩
    · simp only [List.mem_cons, List.not_mem_nil, or_false] at q
      rcases q with rfl | rfl | rfl | rfl | rfl <;> constructor <;> (refine neA ?_; generalize s.heap.objs.size = z; omega)
    · exact ⟨ne_add (ltD _ q) 5, ne_add2 (ltD _ q) 5 1⟩
end
end CompZText
section MkText
set_option hygiene false
local macro_rules | `(tactic| walk_at "my pr") => `(tactic| with_reducible first | assumption | exact And.left (by assumption) | exact And.left (And.right (by assumption)) | exact And.left (And.right (And.right (by assumption))) | exact And.left (And.right (And.right (And.right (by assumption)))) | exact And.left (And.right (And.right (And.right (And.right (by assumption))))) | exact And.left (And.right (And.right (And.right (And.right (And.right (by assumption)))))))
local macro_rules | `(tactic| k_ne) => `(tactic| first | exact neN (Nat.ne_of_lt (by walk_at "my pr")) | exact neN (Nat.ne_of_gt (by walk_at "my pr")) | (refine neN ?_; (try dsimp only); omega))
local macro_rules | `(tactic| k_mem) => `(tactic| first | exact List.mem_cons_self | assumption | (refine List.mem_cons_of_mem _ ?_; k_mem))
local macro_rules | `(tactic| walk_at "my enter") => `(tactic| (refine' code_def ?k1 ?k2 ?k3 ?k4 ?k5 ?kA ?kF ?kK ?k6 ?k7 ?k8 ?k9 ?kB ?_ ?c2 ?c3 ?c4 ?c5; (case kA | kF => exact rfl); (case kK => first | exact rfl | assumption); (case k1 | k2 | k3 | k4 | k5 => k_asm); (case k6 | k7 => k_is); (case k8 => ktr_room); (case k9 => first | exact BindsTo.of_eq rfl | exact binds_K (by k_in) rfl (by k_is) rfl rfl rfl); (case c5 => decide); (case kB => exact locs rfl); (case c2 | c3 | c4 => exact rfl); k_whole; intro g' L' h' FG' F' N' B' X' T'; (try dsimp only); (try k_fold)))
local macro_rules | `(tactic| walk_at "call ref") => `(tactic| (k_here; k_dflt (refine wpAny_call ?_; walk_at "my enter")))
local macro_rules | `(tactic| walk_at "call ref") => `(tactic| (k_here; k_dflt (refine' call_cls ?k1 ?k2 ?k3 ?k4 ?k5 ?k6 ?_; (case k1 | k2 | k3 => k_asm); (case k4 | k5 | k6 => k_is); k_whole; intro x' d' h' F' N' l1 l2; (try k_lt l1); (try k_lt2 l2); (try k_sweep); walk_at "my enter")))
local macro_rules | `(tactic| walk_at "execs cons") => `(tactic| first | ((with_reducible show wpAny _ _ _ _ _ (PySem.Shared.mk _ _ _ (_ + 1 + 1) _)); refine gen_toks ?_; intro tk) | ((with_reducible refine wpAny_execs_cons ?_); (try dsimp only); refine let_Q ?_; intro qk))
local macro_rules | `(tactic| walk_at "my steps") => `(tactic| (repeat' (first | (k_unfold; (try dsimp only)) | (walk1 <;> (try dsimp only)))))
set_option maxHeartbeats 1000000

theorem mk_pvar (w : World) (loose mean mg mb) (dp un : Nat) (gd : Option (List Code)) (cn : Str) (cs : Scope) (a : Addr) (ccd : Value) (cl : List (Str × Addr)) (outer : List Env) (A₀ : Around) (base h₀ : Heap) (L : Addr) (m : Str → Option Value) (news : Led) (s : Shared) (Q E : Value → Shared → Prop)
    (B : Below A₀ base outer h₀) (F : Fr h₀ L s.heap m) (X : (hd.heap_39 w.params).In h₀) (N : News h₀ L s.heap news) (T : Top hd.view_39 loose mean mg mb h₀) (hk : cs.kind = .function) (v_name : Value)
    (hin : dp + 10 < recursionLimit) (hu : un + 64 < cLine)
    (hret : ∀ x d n t0 h0 t1 h1 h' tk', Fr h₀ L h' m → News h₀ L h' ((x, instObj 72 d) :: (d, dictOf [ent "place" t0 h0 .none, ent "name" t1 h1 v_name] n) :: news) → (∀ p ∈ news, p.1 < d) → @LT.lt Nat _ d x → Q (.ref x) { s with heap := h', toks := tk' }) :
    wpAny (model PySem.Challenge.rw_og0007_01.row.prog w) (ktrTop dp un gd cn cs L a ccd cl outer) (call (.ref 72) [v_name, .none]) Q E s := by
  w_on
  revert X
  k_fill
  intro X
  w_strict (walk_at "my steps")
  refine hret _ _ _ _ _ _ _ _ _ (by assumption) (by assumption) ?_ ?_
  · first | assumption | exact fun p hp => ktn_ltOf (by assumption) p hp
  · assumption

theorem mk_pwild (w : World) (loose mean mg mb) (dp un : Nat) (gd : Option (List Code)) (cn : Str) (cs : Scope) (a : Addr) (ccd : Value) (cl : List (Str × Addr)) (outer : List Env) (A₀ : Around) (base h₀ : Heap) (L : Addr) (m : Str → Option Value) (news : Led) (s : Shared) (Q E : Value → Shared → Prop)
    (B : Below A₀ base outer h₀) (F : Fr h₀ L s.heap m) (X : (hd.heap_39 w.params).In h₀) (N : News h₀ L s.heap news) (T : Top hd.view_39 loose mean mg mb h₀) (hk : cs.kind = .function)
    (hin : dp + 10 < recursionLimit) (hu : un + 64 < cLine)
    (hret : ∀ x d n t0 h0 h' tk', Fr h₀ L h' m → News h₀ L h' ((x, instObj 99 d) :: (d, dictOf [ent "place" t0 h0 .none] n) :: news) → (∀ p ∈ news, p.1 < d) → @LT.lt Nat _ d x → Q (.ref x) { s with heap := h', toks := tk' }) :
    wpAny (model PySem.Challenge.rw_og0007_01.row.prog w) (ktrTop dp un gd cn cs L a ccd cl outer) (call (.ref 99) [.none]) Q E s := by
  w_on
  revert X
  k_fill
  intro X
  w_strict (walk_at "my steps")
  refine hret _ _ _ _ _ _ _ (by assumption) (by assumption) ?_ ?_
  · first | assumption | exact fun p hp => ktn_ltOf (by assumption) p hp
  · assumption

theorem mk_plit (w : World) (loose mean mg mb) (dp un : Nat) (gd : Option (List Code)) (cn : Str) (cs : Scope) (a : Addr) (ccd : Value) (cl : List (Str × Addr)) (outer : List Env) (A₀ : Around) (base h₀ : Heap) (L : Addr) (m : Str → Option Value) (news : Led) (s : Shared) (Q E : Value → Shared → Prop)
    (B : Below A₀ base outer h₀) (F : Fr h₀ L s.heap m) (X : (hd.heap_39 w.params).In h₀) (N : News h₀ L s.heap news) (T : Top hd.view_39 loose mean mg mb h₀) (hk : cs.kind = .function) (v_kind v_value : Value)
    (hin : dp + 10 < recursionLimit) (hu : un + 64 < cLine)
    (hret : ∀ x d n t0 h0 t1 h1 t2 h2 h' tk', Fr h₀ L h' m → News h₀ L h' ((x, instObj 126 d) :: (d, dictOf [ent "place" t0 h0 .none, ent "kind" t1 h1 v_kind, ent "value" t2 h2 v_value] n) :: news) → (∀ p ∈ news, p.1 < d) → @LT.lt Nat _ d x → Q (.ref x) { s with heap := h', toks := tk' }) :
    wpAny (model PySem.Challenge.rw_og0007_01.row.prog w) (ktrTop dp un gd cn cs L a ccd cl outer) (call (.ref 126) [v_kind, v_value, .none]) Q E s := by
  w_on
  revert X
  k_fill
  intro X
  w_strict (walk_at "my steps")
  refine hret _ _ _ _ _ _ _ _ _ _ _ (by assumption) (by assumption) ?_ ?_
  · first | assumption | exact fun p hp => ktn_ltOf (by assumption) p hp
  · assumption

theorem mk_pcon (w : World) (loose mean mg mb) (dp un : Nat) (gd : Option (List Code)) (cn : Str) (cs : Scope) (a : Addr) (ccd : Value) (cl : List (Str × Addr)) (outer : List Env) (A₀ : Around) (base h₀ : Heap) (L : Addr) (m : Str → Option Value) (news : Led) (s : Shared) (Q E : Value → Shared → Prop)
    (B : Below A₀ base outer h₀) (F : Fr h₀ L s.heap m) (X : (hd.heap_39 w.params).In h₀) (N : News h₀ L s.heap news) (T : Top hd.view_39 loose mean mg mb h₀) (hk : cs.kind = .function) (v_name v_args : Value)
    (hin : dp + 10 < recursionLimit) (hu : un + 64 < cLine)
    (hret : ∀ x d n t0 h0 t1 h1 t2 h2 h' tk', Fr h₀ L h' m → News h₀ L h' ((x, instObj 153 d) :: (d, dictOf [ent "place" t0 h0 .none, ent "name" t1 h1 v_name, ent "args" t2 h2 v_args] n) :: news) → (∀ p ∈ news, p.1 < d) → @LT.lt Nat _ d x → Q (.ref x) { s with heap := h', toks := tk' }) :
    wpAny (model PySem.Challenge.rw_og0007_01.row.prog w) (ktrTop dp un gd cn cs L a ccd cl outer) (call (.ref 153) [v_name, v_args, .none]) Q E s := by
  w_on
  revert X
  k_fill
  intro X
  w_strict (walk_at "my steps")
  refine hret _ _ _ _ _ _ _ _ _ _ _ (by assumption) (by assumption) ?_ ?_
  · first | assumption | exact fun p hp => ktn_ltOf (by assumption) p hp
  · assumption

theorem mk_ptuple (w : World) (loose mean mg mb) (dp un : Nat) (gd : Option (List Code)) (cn : Str) (cs : Scope) (a : Addr) (ccd : Value) (cl : List (Str × Addr)) (outer : List Env) (A₀ : Around) (base h₀ : Heap) (L : Addr) (m : Str → Option Value) (news : Led) (s : Shared) (Q E : Value → Shared → Prop)
    (B : Below A₀ base outer h₀) (F : Fr h₀ L s.heap m) (X : (hd.heap_39 w.params).In h₀) (N : News h₀ L s.heap news) (T : Top hd.view_39 loose mean mg mb h₀) (hk : cs.kind = .function) (v_items : Value)
    (hin : dp + 10 < recursionLimit) (hu : un + 64 < cLine)
    (hret : ∀ x d n t0 h0 t1 h1 h' tk', Fr h₀ L h' m → News h₀ L h' ((x, instObj 180 d) :: (d, dictOf [ent "place" t0 h0 .none, ent "items" t1 h1 v_items] n) :: news) → (∀ p ∈ news, p.1 < d) → @LT.lt Nat _ d x → Q (.ref x) { s with heap := h', toks := tk' }) :
    wpAny (model PySem.Challenge.rw_og0007_01.row.prog w) (ktrTop dp un gd cn cs L a ccd cl outer) (call (.ref 180) [v_items, .none]) Q E s := by
  w_on
  revert X
  k_fill
  intro X
  w_strict (walk_at "my steps")
  refine hret _ _ _ _ _ _ _ _ _ (by assumption) (by assumption) ?_ ?_
  · first | assumption | exact fun p hp => ktn_ltOf (by assumption) p hp
  · assumption

theorem mk_plist (w : World) (loose mean mg mb) (dp un : Nat) (gd : Option (List Code)) (cn : Str) (cs : Scope) (a : Addr) (ccd : Value) (cl : List (Str × Addr)) (outer : List Env) (A₀ : Around) (base h₀ : Heap) (L : Addr) (m : Str → Option Value) (news : Led) (s : Shared) (Q E : Value → Shared → Prop)
    (B : Below A₀ base outer h₀) (F : Fr h₀ L s.heap m) (X : (hd.heap_39 w.params).In h₀) (N : News h₀ L s.heap news) (T : Top hd.view_39 loose mean mg mb h₀) (hk : cs.kind = .function) (v_items : Value)
    (hin : dp + 10 < recursionLimit) (hu : un + 64 < cLine)
    (hret : ∀ x d n t0 h0 t1 h1 h' tk', Fr h₀ L h' m → News h₀ L h' ((x, instObj 207 d) :: (d, dictOf [ent "place" t0 h0 .none, ent "items" t1 h1 v_items] n) :: news) → (∀ p ∈ news, p.1 < d) → @LT.lt Nat _ d x → Q (.ref x) { s with heap := h', toks := tk' }) :
    wpAny (model PySem.Challenge.rw_og0007_01.row.prog w) (ktrTop dp un gd cn cs L a ccd cl outer) (call (.ref 207) [v_items, .none]) Q E s := by
  w_on
  revert X
  k_fill
  intro X
  w_strict (walk_at "my steps")
  refine hret _ _ _ _ _ _ _ _ _ (by assumption) (by assumption) ?_ ?_
  · first | assumption | exact fun p hp => ktn_ltOf (by assumption) p hp
  · assumption

theorem mk_pas (w : World) (loose mean mg mb) (dp un : Nat) (gd : Option (List Code)) (cn : Str) (cs : Scope) (a : Addr) (ccd : Value) (cl : List (Str × Addr)) (outer : List Env) (A₀ : Around) (base h₀ : Heap) (L : Addr) (m : Str → Option Value) (news : Led) (s : Shared) (Q E : Value → Shared → Prop)
    (B : Below A₀ base outer h₀) (F : Fr h₀ L s.heap m) (X : (hd.heap_39 w.params).In h₀) (N : News h₀ L s.heap news) (T : Top hd.view_39 loose mean mg mb h₀) (hk : cs.kind = .function) (v_name v_pattern : Value)
    (hin : dp + 10 < recursionLimit) (hu : un + 64 < cLine)
    (hret : ∀ x d n t0 h0 t1 h1 t2 h2 h' tk', Fr h₀ L h' m → News h₀ L h' ((x, instObj 234 d) :: (d, dictOf [ent "place" t0 h0 .none, ent "name" t1 h1 v_name, ent "pattern" t2 h2 v_pattern] n) :: news) → (∀ p ∈ news, p.1 < d) → @LT.lt Nat _ d x → Q (.ref x) { s with heap := h', toks := tk' }) :
    wpAny (model PySem.Challenge.rw_og0007_01.row.prog w) (ktrTop dp un gd cn cs L a ccd cl outer) (call (.ref 234) [v_name, v_pattern, .none]) Q E s := by
  w_on
  revert X
  k_fill
  intro X
  w_strict (walk_at "my steps")
  refine hret _ _ _ _ _ _ _ _ _ _ _ (by assumption) (by assumption) ?_ ?_
  · first | assumption | exact fun p hp => ktn_ltOf (by assumption) p hp
  · assumption

theorem mk_plazy (w : World) (loose mean mg mb) (dp un : Nat) (gd : Option (List Code)) (cn : Str) (cs : Scope) (a : Addr) (ccd : Value) (cl : List (Str × Addr)) (outer : List Env) (A₀ : Around) (base h₀ : Heap) (L : Addr) (m : Str → Option Value) (news : Led) (s : Shared) (Q E : Value → Shared → Prop)
    (B : Below A₀ base outer h₀) (F : Fr h₀ L s.heap m) (X : (hd.heap_39 w.params).In h₀) (N : News h₀ L s.heap news) (T : Top hd.view_39 loose mean mg mb h₀) (hk : cs.kind = .function) (v_pattern : Value)
    (hin : dp + 10 < recursionLimit) (hu : un + 64 < cLine)
    (hret : ∀ x d n t0 h0 t1 h1 h' tk', Fr h₀ L h' m → News h₀ L h' ((x, instObj 261 d) :: (d, dictOf [ent "place" t0 h0 .none, ent "pattern" t1 h1 v_pattern] n) :: news) → (∀ p ∈ news, p.1 < d) → @LT.lt Nat _ d x → Q (.ref x) { s with heap := h', toks := tk' }) :
    wpAny (model PySem.Challenge.rw_og0007_01.row.prog w) (ktrTop dp un gd cn cs L a ccd cl outer) (call (.ref 261) [v_pattern, .none]) Q E s := by
  w_on
  revert X
  k_fill
  intro X
  w_strict (walk_at "my steps")
  refine hret _ _ _ _ _ _ _ _ _ (by assumption) (by assumption) ?_ ?_
  · first | assumption | exact fun p hp => ktn_ltOf (by assumption) p hp
  · assumption

theorem mk_pbang (w : World) (loose mean mg mb) (dp un : Nat) (gd : Option (List Code)) (cn : Str) (cs : Scope) (a : Addr) (ccd : Value) (cl : List (Str × Addr)) (outer : List Env) (A₀ : Around) (base h₀ : Heap) (L : Addr) (m : Str → Option Value) (news : Led) (s : Shared) (Q E : Value → Shared → Prop)
    (B : Below A₀ base outer h₀) (F : Fr h₀ L s.heap m) (X : (hd.heap_39 w.params).In h₀) (N : News h₀ L s.heap news) (T : Top hd.view_39 loose mean mg mb h₀) (hk : cs.kind = .function) (v_pattern : Value)
    (hin : dp + 10 < recursionLimit) (hu : un + 64 < cLine)
    (hret : ∀ x d n t0 h0 t1 h1 h' tk', Fr h₀ L h' m → News h₀ L h' ((x, instObj 288 d) :: (d, dictOf [ent "place" t0 h0 .none, ent "pattern" t1 h1 v_pattern] n) :: news) → (∀ p ∈ news, p.1 < d) → @LT.lt Nat _ d x → Q (.ref x) { s with heap := h', toks := tk' }) :
    wpAny (model PySem.Challenge.rw_og0007_01.row.prog w) (ktrTop dp un gd cn cs L a ccd cl outer) (call (.ref 288) [v_pattern, .none]) Q E s := by
  w_on
  revert X
  k_fill
  intro X
  w_strict (walk_at "my steps")
  refine hret _ _ _ _ _ _ _ _ _ (by assumption) (by assumption) ?_ ?_
  · first | assumption | exact fun p hp => ktn_ltOf (by assumption) p hp
  · assumption

theorem mk_constructors (w : World) (loose mean mg mb) (dp un : Nat) (gd : Option (List Code)) (cn : Str) (cs : Scope) (a : Addr) (ccd : Value) (cl : List (Str × Addr)) (outer : List Env) (A₀ : Around) (base h₀ : Heap) (L : Addr) (m : Str → Option Value) (news : Led) (s : Shared) (Q E : Value → Shared → Prop)
    (B : Below A₀ base outer h₀) (F : Fr h₀ L s.heap m) (X : (hd.heap_39 w.params).In h₀) (N : News h₀ L s.heap news) (T : Top hd.view_39 loose mean mg mb h₀) (hk : cs.kind = .function) (v_cons : Value)
    (hin : dp + 10 < recursionLimit) (hu : un + 64 < cLine)
    (hret : ∀ x d n t0 h0 h' tk', Fr h₀ L h' m → News h₀ L h' ((x, instObj 381 d) :: (d, dictOf [ent "cons" t0 h0 v_cons] n) :: news) → (∀ p ∈ news, p.1 < d) → @LT.lt Nat _ d x → Q (.ref x) { s with heap := h', toks := tk' }) :
    wpAny (model PySem.Challenge.rw_og0007_01.row.prog w) (ktrTop dp un gd cn cs L a ccd cl outer) (call (.ref 381) [v_cons]) Q E s := by
  w_on
  revert X
  k_fill
  intro X
  w_strict (walk_at "my steps")
  refine hret _ _ _ _ _ _ _ (by assumption) (by assumption) ?_ ?_
  · first | assumption | exact fun p hp => ktn_ltOf (by assumption) p hp
  · assumption

theorem mk_coninfo (w : World) (loose mean mg mb) (dp un : Nat) (gd : Option (List Code)) (cn : Str) (cs : Scope) (a : Addr) (ccd : Value) (cl : List (Str × Addr)) (outer : List Env) (A₀ : Around) (base h₀ : Heap) (L : Addr) (m : Str → Option Value) (news : Led) (s : Shared) (Q E : Value → Shared → Prop)
    (B : Below A₀ base outer h₀) (F : Fr h₀ L s.heap m) (X : (hd.heap_39 w.params).In h₀) (N : News h₀ L s.heap news) (T : Top hd.view_39 loose mean mg mb h₀) (hk : cs.kind = .function) (v_name v_tag v_arity v_stricts v_type_name v_scheme v_siblings v_is_newtype : Value)
    (hin : dp + 10 < recursionLimit) (hu : un + 64 < cLine)
    (hret : ∀ x d n t0 h0 t1 h1 t2 h2 t3 h3 t4 h4 t5 h5 t6 h6 t7 h7 h' tk', Fr h₀ L h' m → News h₀ L h' ((x, instObj 414 d) :: (d, dictOf [ent "name" t0 h0 v_name, ent "tag" t1 h1 v_tag, ent "arity" t2 h2 v_arity, ent "stricts" t3 h3 v_stricts, ent "type_name" t4 h4 v_type_name, ent "scheme" t5 h5 v_scheme, ent "siblings" t6 h6 v_siblings, ent "is_newtype" t7 h7 v_is_newtype] n) :: news) → (∀ p ∈ news, p.1 < d) → @LT.lt Nat _ d x → Q (.ref x) { s with heap := h', toks := tk' }) :
    wpAny (model PySem.Challenge.rw_og0007_01.row.prog w) (ktrTop dp un gd cn cs L a ccd cl outer) (call (.ref 414) [v_name, v_tag, v_arity, v_stricts, v_type_name, v_scheme, v_siblings, v_is_newtype]) Q E s := by
  w_on
  revert X
  k_fill
  intro X
  w_strict (walk_at "my steps")
  refine hret _ _ _ _ _ _ _ _ _ _ _ _ _ _ _ _ _ _ _ _ _ (by assumption) (by assumption) ?_ ?_
  · first | assumption | exact fun p hp => ktn_ltOf (by assumption) p hp
  · assumption
end MkText
section ForLText
section
variable {prog : Program} {w : World} {A : Around} {E : Value → Shared → Prop} {s : Shared} {env : Env} {h₀ : Heap} {m : Str → Option Value} {news : Led} {target : Expr} {body : List Stmt} {Q : Flow → Shared → Prop}
/-- one turn's end: the iterator stands, the names and the ledger are as J says -/
def TurnEnd (h₀ : Heap) (L I : Addr) (oI : Obj) (news : Led) (J : (Str → Option Value) → Led → Led → Prop) (s : Shared) (Q : Flow → Shared → Prop) (f : Flow) (s' : Shared) : Prop :=
  match f with
  | .ret v => Q (.ret v) s'
  | .next => ∃ h' tk' m' tl', s' = { s with heap := h', toks := tk' } ∧ Fr h₀ L h' m' ∧ News h₀ L h' ((I, oI) :: (tl' ++ news)) ∧ (∀ p ∈ tl', p.1 ≠ I) ∧ J m' tl' (tl' ++ news)
  | _ => False

theorem TurnEnd.mk {L I : Addr} {oI : Obj} {J : (Str → Option Value) → Led → Led → Prop} {h' : Heap} {tk' : Nat} {m' : Str → Option Value} (tl' : Led) (F : Fr h₀ L h' m') (N : News h₀ L h' ((I, oI) :: (tl' ++ news))) (ho : ∀ p ∈ tl', p.1 ≠ I) (hJ : J m' tl' (tl' ++ news)) :
    TurnEnd h₀ L I oI news J s Q .next { s with heap := h', toks := tk' } := ⟨h', tk', m', tl', rfl, F, N, ho, hJ⟩
theorem cat_lists {L a b : Addr} {vs ws : List Value} {n k : Nat} {Q : Value → Shared → Prop} (F : Fr h₀ L s.heap m) (N : News h₀ L s.heap news) (m1 : (a, lstO vs n) ∈ news) (m2 : (b, lstO ws k) ∈ news) (hz : vs.length + ws.length ≤ 100000)
    (h : ∀ D h', Fr h₀ L h' m → News h₀ L h' ((D, lstO (vs ++ ws) 0) :: news) → (∀ p ∈ news, p.1 < D) → Q (.ref D) { s with heap := h' }) : wpAny (model prog w) A (binaryOp .Add (.ref a) (.ref b)) Q E s :=
  add_lists F N ⟨_, (N _ m1).1, rfl, _, rfl⟩ ⟨_, (N _ m2).1, rfl, _, rfl⟩ (fun h' F' N' => h _ h' F' N' fun p hp => Heap.lt_size (N p hp).1) (by rw [sizeLine_eq]; omega)

theorem for_rest {l I : Addr} {vs : List Value} {n : Nat} (hm : (l, lstO vs n) ∈ news) (hI : ∀ p ∈ news, p.1 < I)
    (J : Nat → (Str → Option Value) → Led → Led → Prop)
    (step : ∀ i v oI m₁ tl h tk, vs[i]? = some v → J i m₁ tl (tl ++ news) → (∀ p ∈ tl ++ news, p.1 ≠ I) → Fr h₀ env.locals h m₁ → News h₀ env.locals h ((I, oI) :: (tl ++ news)) →
      wpAny (model prog w) A (assign target env v) (fun _ s₂ => wpAny (model prog w) A (execs body env) (TurnEnd h₀ env.locals I oI news (J (i + 1)) { s with heap := h, toks := tk } Q) E s₂) E { s with heap := h, toks := tk })
    (done : ∀ h tk m' tl, Fr h₀ env.locals h m' → News h₀ env.locals h (tl ++ news) → J vs.length m' tl (tl ++ news) → Q .next { s with heap := h, toks := tk }) :
    ∀ (rest : List Value) (i : Nat), vs.drop i = rest → i ≤ vs.length → ∀ m₁ tl, J i m₁ tl (tl ++ news) → (∀ p ∈ tl, p.1 ≠ I) → ItemsRest prog w A E h₀ env target body Q s [(I, "list_iterator")] [(l, lstO vs n)] (rest.map .val) m₁ (tl ++ news)
  | [], i, hd, hi, m₁, tl, hJ, ho => by
    refine ItemsRest.zero fun h tk F N => ?_
    have : i = vs.length := by
      have := List.drop_eq_nil_iff.mp hd
      omega
    subst this
    exact done _ _ _ _ F N hJ
  | v :: rest, i, hd, hi, m₁, tl, hJ, ho => by
    have hlt : i < vs.length := by
      rcases Nat.lt_or_ge i vs.length with q | q
      · exact q
      · rw [List.drop_eq_nil_of_le q] at hd; cases hd
    have hv : vs[i]? = some v := by
      rw [List.drop_eq_getElem_cons hlt] at hd
      rw [List.getElem?_eq_getElem hlt]
      exact congrArg some (List.cons.inj hd).1
    have hd' : vs.drop (i + 1) = rest := by
      rw [List.drop_eq_getElem_cons hlt] at hd
      exact (List.cons.inj hd).2
    refine ItemsRest.val fun h tk F => ?_
    intro oI hoI N
    have hoff : ∀ p ∈ tl ++ news, p.1 ≠ I := fun p hp => (List.mem_append.mp hp).elim (ho p) fun hp => Nat.ne_of_lt (hI p hp)
    refine wpAny_mono (step i v oI m₁ tl h tk hv hJ hoff F N) (fun _ s₂ h₂ => wpAny_mono h₂ (fun f s₃ h₃ => ?_) fun _ _ e => e) fun _ _ e => e
    cases f with
    | ret v => exact h₃
    | brk => exact h₃.elim
    | cont => exact h₃.elim
    | next =>
      obtain ⟨h', tk', m', tl', rfl, F', N', ho', hJ'⟩ := h₃
      refine ⟨h', tk', m', tl' ++ news, rfl, F', N', ?_, ⟨(And.intro (List.mem_append.mpr (.inr hm)) trivial), for_rest hm hI J step done rest (i + 1) hd' hlt m' tl' hJ' ho'⟩⟩
      intro p hp q hq
      rw [List.mem_singleton.mp hq]
      exact (List.mem_append.mp hp).elim (ho' p) fun hp => Nat.ne_of_lt (hI p hp)

theorem for_list {l : Addr} {vs : List Value} {n : Nat} (hh : A.handled = none) (F : Fr h₀ env.locals s.heap m) (N : News h₀ env.locals s.heap news) (hm : (l, lstO vs n) ∈ news)
    (J : Nat → (Str → Option Value) → Led → Led → Prop) (h0 : J 0 m [] news)
    (step : ∀ i v I oI m₁ tl h tk, vs[i]? = some v → J i m₁ tl (tl ++ news) → (∀ p ∈ tl ++ news, p.1 ≠ I) → (∀ p ∈ news, p.1 < I) → Fr h₀ env.locals h m₁ → News h₀ env.locals h ((I, oI) :: (tl ++ news)) →
      wpAny (model prog w) A (assign target env v) (fun _ s₂ => wpAny (model prog w) A (execs body env) (TurnEnd h₀ env.locals I oI news (J (i + 1)) { s with heap := h, toks := tk } Q) E s₂) E { s with heap := h, toks := tk })
    (done : ∀ h tk m' tl, Fr h₀ env.locals h m' → News h₀ env.locals h (tl ++ news) → J vs.length m' tl (tl ++ news) → Q .next { s with heap := h, toks := tk }) :
    wpAny (model prog w) A (pyIter (.ref l)) (fun it s₂ => TurnsAt prog w A h₀ env target body Q E it s₂) E s :=
  iter_listTurns hh F N hm rfl rfl fun I hI => for_rest hm hI J (fun i v oI m₁ tl h tk a b c d e => step i v I oI m₁ tl h tk a b c hI d e) done vs 0 rfl (Nat.zero_le _) m [] h0 (fun _ h => nomatch h)
end
end ForLText
section TellText
open PyProof.Rows.LCg
structure Told (D : Type) where
  Rel : Led → List Value → D → Prop
  size : D → Nat
  Out : Led → Led → Value → D → Prop
/-- what a function answers: its arguments stand over the ledger kept, what it makes is tl, apart from all that stood -/
def Tell {D : Type} (prog : Program) (w : World) (K : Frag) (p : Program) (loose : List Str) (mean : ExcName → Option Value) (mg mb : Str → Option Value) (f : Addr) (c : Told D) (d : D) : Prop :=
  ∀ (dp un : Nat) (gd : Option (List Code)) (cn : Str) (cs : Scope) (a : Addr) (ccd : Value) (cl : List (Str × Addr)) (outer : List Env) (A₀ : Around) (base h₀ : Heap) (L : Addr) (m : Str → Option Value) (news kept : Led) (s : Shared) (vs : List Value)
    (Q E : Value → Shared → Prop),
    Below A₀ base outer h₀ → Fr h₀ L s.heap m → K.In h₀ → News h₀ L s.heap news → Top p loose mean mg mb h₀ → cs.kind = .function → (∀ q ∈ kept, q ∈ news) → c.Rel kept vs d → dp + c.size d < recursionLimit → un + 8 * c.size d < cLine →
    (∀ r tl h' tk', Fr h₀ L h' m → News h₀ L h' (news ++ tl) → (∀ q ∈ news, ∀ p ∈ tl, q.1 ≠ p.1) → c.Out kept tl r d → Q r { s with heap := h', toks := tk' }) →
    wpAny (model prog w) (ktrTop dp un gd cn cs L a ccd cl outer) (call (.ref f) vs) Q E s
section
variable {D : Type} {prog : Program} {w : World} {K : Frag} {p : Program} {loose : List Str} {mean : ExcName → Option Value} {mg mb : Str → Option Value} {f : Addr} {c : Told D}
theorem tell_of (step : ∀ d, (∀ d', c.size d' < c.size d → Tell prog w K p loose mean mg mb f c d') → Tell prog w K p loose mean mg mb f c d) : ∀ d, Tell prog w K p loose mean mg mb f c d := by
  have all : ∀ n, ∀ d, c.size d < n → Tell prog w K p loose mean mg mb f c d := by
    intro n
    induction n with
    | zero => intro d h; exact absurd h (Nat.not_lt_zero _)
    | succ n ih => exact fun d h => step d fun d' h' => ih d' (Nat.lt_of_lt_of_le h' (Nat.le_of_lt_succ h))
  exact fun d => all _ d (Nat.lt_succ_self _)
theorem tell_use {d : D} {dp un : Nat} {gd : Option (List Code)} {cn : Str} {cs : Scope} {a : Addr} {ccd : Value} {cl : List (Str × Addr)} {outer : List Env} {A₀ : Around} {base h₀ : Heap} {L : Addr} {m : Str → Option Value} {news : Led} (kept : Led) {s : Shared} {vs : List Value}
    {Q E : Value → Shared → Prop} (B : Below A₀ base outer h₀) (F : Fr h₀ L s.heap m) (X : K.In h₀) (N : News h₀ L s.heap news) (T : Top p loose mean mg mb h₀) (hk : cs.kind = .function) (hsub : ∀ q ∈ kept, q ∈ news) (R : c.Rel kept vs d) (C : Tell prog w K p loose mean mg mb f c d)
    (hd : dp + c.size d < recursionLimit) (hu : un + 8 * c.size d < cLine)
    (ret : ∀ r tl h' tk', Fr h₀ L h' m → News h₀ L h' (news ++ tl) → (∀ q ∈ news, ∀ p ∈ tl, q.1 ≠ p.1) → c.Out kept tl r d → Q r { s with heap := h', toks := tk' }) :
    wpAny (model prog w) (ktrTop dp un gd cn cs L a ccd cl outer) (call (.ref f) vs) Q E s := C _ _ _ _ _ _ _ _ _ _ _ _ _ _ _ _ _ _ _ _ B F X N T hk hsub R hd hu ret
end

section
variable {prog : Program} {w : World} {A : Around} {E : Value → Shared → Prop} {s : Shared} {env : Env} {h₀ : Heap} {L : Addr} {m : Str → Option Value}
def ApartAll (I C D : Addr) (l : Led) : Prop := ∀ p ∈ l, p.1 ≠ I ∧ p.1 ≠ C ∧ p.1 ≠ D
/-- one turn's end in a block: y is the element, J holds of the ledger that stands then -/
def MapEnd (h₀ : Heap) (L : Addr) (m : Str → Option Value) (s₁ : Shared) (I : Addr) (oI : Obj) (C : Addr) (oC : Obj) (D : Addr) (ys : List Value) (J : Value → Led → Prop) (y : Value) (s₂ : Shared) : Prop :=
  ∃ h' tk full, s₂ = { s₁ with heap := h', toks := tk } ∧ Fr h₀ L h' m ∧ News h₀ L h' ((I, oI) :: (C, oC) :: (D, lst ys) :: full) ∧ ApartAll I C D full ∧ J y full
theorem MapEnd.mk {s₁ : Shared} {I : Addr} {oI : Obj} {C : Addr} {oC : Obj} {D : Addr} {ys : List Value} {J : Value → Led → Prop} {y : Value} {h' : Heap} {tk : Nat} (full : Led) (F : Fr h₀ L h' m) (N : News h₀ L h' ((I, oI) :: (C, oC) :: (D, lst ys) :: full)) (ho : ApartAll I C D full) (hJ : J y full) :
    MapEnd h₀ L m s₁ I oI C oC D ys J y { s₁ with heap := h', toks := tk } := ⟨h', tk, full, rfl, F, N, ho, hJ⟩

theorem apart_all {I C D : Addr} {oI oC oD : Obj} {tl t9 base : Led} (off : ApartAll I C D (tl ++ base)) (h : ∀ q ∈ (I, oI) :: (C, oC) :: (D, oD) :: (tl ++ base), ∀ p ∈ t9, q.1 ≠ p.1) : ApartAll I C D ((tl ++ t9) ++ base) := by
  intro q hq
  have key : q ∈ tl ++ base ∨ q ∈ t9 := by
    simp only [List.mem_append] at hq ⊢
    rcases hq with (h | h) | h
    · exact .inl (.inl h)
    · exact .inr h
    · exact .inl (.inr h)
  rcases key with hq | hq
  · exact off q hq
  · exact ⟨Ne.symm (h (I, oI) List.mem_cons_self q hq), Ne.symm (h (C, oC) (List.mem_cons_of_mem _ List.mem_cons_self) q hq), Ne.symm (h (D, oD) (List.mem_cons_of_mem _ (List.mem_cons_of_mem _ List.mem_cons_self)) q hq)⟩
theorem map_rest {elt : Expr} {x : Str} {scope : Scope} {cl : List (Str × Addr)} {S : Led → Prop} {P : Nat → Value → Prop} {Fin : List Value → Led → Prop} {n : Nat}
    (J : Nat → List Value → Led → Prop) (hS : ∀ i ys full, J i ys full → S full)
    (step : ∀ i v I oI C oC D m₂ ys full h tk (E' : Value → Shared → Prop), i < n → P i v → NsObj oC m₂ → m₂ x = some v → J i ys full → Fr h₀ L h m → News h₀ L h ((I, oI) :: (C, oC) :: (D, lst ys) :: full) → ApartAll I C D full → ((@Ne Nat I C) ∧ (@Ne Nat I D) ∧ (@Ne Nat C D)) →
      wpAny (model prog w) A (eval elt (compEnvC scope cl C env)) (MapEnd h₀ L m { s with heap := h, toks := tk } I oI C oC D ys fun y full' => J (i + 1) (ys ++ [y]) full') E' { s with heap := h, toks := tk })
    (hFin : ∀ ys full, J n ys full → Fin ys full) :
    ∀ (k i : Nat) (ys : List Value) (full : Led), i + k = n → J i ys full → CompRest prog w A h₀ L m env elt x scope cl s S P Fin k i ys full
  | 0, i, ys, full, e, hJ => CompRest.zero (hFin ys full (by rw [← e]; exact hJ))
  | k + 1, i, ys, full, e, hJ => by
    refine CompRest.succ fun v I oI C oC D m₂ h tk E' hP hoC hx F N off hne => ?_
    refine wpAny_mono (step i v I oI C oC D m₂ ys full h tk E' (by omega) hP hoC hx hJ F N (fun p hp => Off3.mem off p hp) hne) (fun y s₂ hq => ?_) fun _ _ e => e
    obtain ⟨h', tk', full', rfl, F', N', off', hJ'⟩ := hq
    exact ⟨h', tk', full', rfl, F', N', Off3.of off', hS _ _ _ hJ', map_rest J hS step hFin k (i + 1) (ys ++ [y]) full' (by omega) hJ'⟩

theorem comp_map {elt : Expr} {x : Str} {scope : Scope} {cl : List (Str × Addr)} {news : Led} {ax : Addr} {vs : List Value} {k : Nat} {Q : Value → Shared → Prop}
    (hh : A.handled = none) (F : Fr h₀ L s.heap m) (N : News h₀ L s.heap news) (hm : (ax, lstO vs k) ∈ news) (hsz : vs.length ≤ 100000)
    (J : Nat → List Value → Led → Prop) (hS : ∀ i ys full, J i ys full → (ax, lstO vs k) ∈ full) (h0 : J 0 [] news)
    (step : ∀ i v I oI C oC D m₂ ys full h tk (E' : Value → Shared → Prop), vs[i]? = some v → NsObj oC m₂ → m₂ x = some v → J i ys full → Fr h₀ L h m → News h₀ L h ((I, oI) :: (C, oC) :: (D, lst ys) :: full) → ApartAll I C D full → ((@Ne Nat I C) ∧ (@Ne Nat I D) ∧ (@Ne Nat C D)) →
      wpAny (model prog w) A (eval elt (compEnvC scope cl C env)) (MapEnd h₀ L m { s with heap := h, toks := tk } I oI C oC D ys fun y full' => J (i + 1) (ys ++ [y]) full') E' { s with heap := h, toks := tk })
    (done : ∀ D ys full h tk, Fr h₀ L h m → News h₀ L h ((D, lst ys) :: full) → (∀ p ∈ full, p.1 ≠ D) → J vs.length ys full → Q (.ref D) { s with heap := h, toks := tk }) :
    CompSrc prog w A h₀ L m env elt x scope cl (fun s₂ => FinE h₀ L m s₂ Q) (.ref ax) s := by
  refine CompSrc.ledger (its := vs.toArray) hh F N hm (by rw [List.size_toArray, sizeLine_eq]; omega) fun g => ?_
  refine map_rest (s := { s with heap := g }) (S := SrcAt h₀ ax vs.toArray) (P := fun i v => vs.toArray[i]? = some v) (n := vs.toArray.size) J (fun i ys full hJ => .inr ⟨_, hS i ys full hJ, rfl, _, rfl⟩) (fun i v I oI C oC D m₂ ys full h tk E' _ hP hoC hx hJ F N off hne => step i v I oI C oC D m₂ ys full h tk E' (by simpa using hP) hoC hx hJ F N off hne) (fun ys full hJ => ?_) _ 0 [] news (Nat.zero_add _) h0
  intro D h tk F' N' off
  refine done D ys full h tk F' N' (fun p hp => ?_) (by simpa using hJ)
  clear hJ N'
  induction full with
  | nil => cases hp
  | cons q r ih =>
    rcases List.mem_cons.mp hp with rfl | hp
    · exact off.1
    · exact ih off.2 hp

theorem comp_range {elt : Expr} {x : Str} {scope : Scope} {cl : List (Str × Addr)} {news : Led} {r : Addr} {a b : Int} {t u v : Tok} {n : Nat} {Q : Value → Shared → Prop}
    (hh : A.handled = none) (F : Fr h₀ L s.heap m) (N : News h₀ L s.heap news) (hr : IsRange s.heap r a b 1 t u v) (hsm : Builtin.Range.small a b 1 = true) (hn : Builtin.Range.rangeSize a b 1 = ((n : Nat) : Int)) (hsz : n ≤ 100000)
    (J : Nat → List Value → Led → Prop) (h0 : J 0 [] news)
    (step : ∀ i v I oI C oC D m₂ ys full h tk (E' : Value → Shared → Prop), i < n → (∃ t, v = .int (a + (i : Int)) t) → NsObj oC m₂ → m₂ x = some v → J i ys full → Fr h₀ L h m → News h₀ L h ((I, oI) :: (C, oC) :: (D, lst ys) :: full) → ApartAll I C D full → ((@Ne Nat I C) ∧ (@Ne Nat I D) ∧ (@Ne Nat C D)) →
      wpAny (model prog w) A (eval elt (compEnvC scope cl C env)) (MapEnd h₀ L m { s with heap := h, toks := tk } I oI C oC D ys fun y full' => J (i + 1) (ys ++ [y]) full') E' { s with heap := h, toks := tk })
    (done : ∀ D ys full h tk, Fr h₀ L h m → News h₀ L h ((D, lst ys) :: full) → (∀ p ∈ full, p.1 ≠ D) → J n ys full → Q (.ref D) { s with heap := h, toks := tk }) :
    CompSrc prog w A h₀ L m env elt x scope cl (fun s₂ => FinE h₀ L m s₂ Q) (.ref r) s := by
  refine CompSrc.range hh F N hr hsm hn (by rw [sizeLine_eq]; omega) fun g => ?_
  refine map_rest (s := { s with heap := g }) (n := n) J (fun _ _ _ _ => trivial) (fun i v I oI C oC D m₂ ys full h tk E' hlt hP hoC hx hJ F N off hne => step i v I oI C oC D m₂ ys full h tk E' hlt hP hoC hx hJ F N off hne) (fun ys full hJ => ?_) _ 0 [] news (Nat.zero_add _) h0
  intro D h tk F' N' off
  refine done D ys full h tk F' N' (fun p hp => ?_) hJ
  clear hJ N'
  induction full with
  | nil => cases hp
  | cons q r ih =>
    rcases List.mem_cons.mp hp with rfl | hp
    · exact off.1
    · exact ih off.2 hp
theorem comp_mapB {elt : Expr} {x : Str} {scope : Scope} {cl : List (Str × Addr)} {news : Led} {ax : Addr} {vs : List Value} {k : Nat} {Q : Value → Shared → Prop}
    (hh : A.handled = none) (F : Fr h₀ L s.heap m) (N : News h₀ L s.heap news) (hm : (ax, lstO vs k) ∈ news) (hsz : vs.length ≤ 100000)
    (J : Nat → List Value → Led → Prop) (h0 : J 0 [] [])
    (step : ∀ i v I oI C oC D m₂ ys tl h tk (E' : Value → Shared → Prop), vs[i]? = some v → NsObj oC m₂ → m₂ x = some v → J i ys tl → Fr h₀ L h m → News h₀ L h ((I, oI) :: (C, oC) :: (D, lst ys) :: (tl ++ news)) → ApartAll I C D (tl ++ news) → ((@Ne Nat I C) ∧ (@Ne Nat I D) ∧ (@Ne Nat C D)) →
      wpAny (model prog w) A (eval elt (compEnvC scope cl C env)) (MapEnd h₀ L m { s with heap := h, toks := tk } I oI C oC D ys fun y full' => ∃ tl', full' = tl' ++ news ∧ J (i + 1) (ys ++ [y]) tl') E' { s with heap := h, toks := tk })
    (done : ∀ D ys tl h tk, Fr h₀ L h m → News h₀ L h ((D, lst ys) :: (tl ++ news)) → (∀ p ∈ tl ++ news, p.1 ≠ D) → J vs.length ys tl → Q (.ref D) { s with heap := h, toks := tk }) :
    CompSrc prog w A h₀ L m env elt x scope cl (fun s₂ => FinE h₀ L m s₂ Q) (.ref ax) s := by
  refine comp_map hh F N hm hsz (fun i ys full => ∃ tl, full = tl ++ news ∧ J i ys tl) ?_ ⟨[], rfl, h0⟩ ?_ ?_
  · rintro i ys full ⟨tl, rfl, _⟩
    exact List.mem_append.mpr (.inr hm)
  · rintro i v I oI C oC D m₂ ys full h tk E' hv hoC hx ⟨tl, rfl, hJ⟩ F N off hne
    exact step i v I oI C oC D m₂ ys tl h tk E' hv hoC hx hJ F N off hne
  · rintro D ys full h tk F N off ⟨tl, rfl, hJ⟩
    exact done D ys tl h tk F N off hJ
end
end TellText
section IsinText
abbrev PG : Program := PySem.Challenge.rw_og0007_01.row.prog
/-- what isinstance wants of an instance's own class -/
structure OwnC (K : Frag) (D : Addr) : Prop where
  a : plainGet K D "__class__" = true
  b : hasDictIn K D = true
  c : findIn K (.ref D) "__class__" = some (some (.builtin "object.__class__"))
  d : specialIn K (.builtin "object.__class__") "__get__" = some (some (.builtin "getset_descriptor.__get__"))
  e : takesIn K (.builtin "object.__class__") = some true
  f : mroIn K D (.type "object") = some true
theorem fill_now (w : World) : PySem.Challenge.rw_og0007_01.row.prog = PySem.Challenge.rw_og0007_01.row.prog ∧ hd.heap_39 w.params = hd.heap_39 w.params := by
  k_fill
  exact ⟨rfl, rfl⟩
theorem own72 (w : World) : OwnC (hd.heap_39 w.params) 72 := by
  w_on
  constructor <;> k_is
theorem gn72 (w : World) : nsIn (hd.heap_39 w.params) mainGlobals (Str.ofString "PVar") = some (some (.ref 72)) := by
  w_on
  k_is
theorem own99 (w : World) : OwnC (hd.heap_39 w.params) 99 := by
  w_on
  constructor <;> k_is
theorem gn99 (w : World) : nsIn (hd.heap_39 w.params) mainGlobals (Str.ofString "PWild") = some (some (.ref 99)) := by
  w_on
  k_is
theorem own126 (w : World) : OwnC (hd.heap_39 w.params) 126 := by
  w_on
  constructor <;> k_is
theorem gn126 (w : World) : nsIn (hd.heap_39 w.params) mainGlobals (Str.ofString "PLit") = some (some (.ref 126)) := by
  w_on
  k_is
theorem own153 (w : World) : OwnC (hd.heap_39 w.params) 153 := by
  w_on
  constructor <;> k_is
theorem gn153 (w : World) : nsIn (hd.heap_39 w.params) mainGlobals (Str.ofString "PCon") = some (some (.ref 153)) := by
  w_on
  k_is
theorem own180 (w : World) : OwnC (hd.heap_39 w.params) 180 := by
  w_on
  constructor <;> k_is
theorem gn180 (w : World) : nsIn (hd.heap_39 w.params) mainGlobals (Str.ofString "PTuple") = some (some (.ref 180)) := by
  w_on
  k_is
theorem own207 (w : World) : OwnC (hd.heap_39 w.params) 207 := by
  w_on
  constructor <;> k_is
theorem gn207 (w : World) : nsIn (hd.heap_39 w.params) mainGlobals (Str.ofString "PList") = some (some (.ref 207)) := by
  w_on
  k_is
theorem own234 (w : World) : OwnC (hd.heap_39 w.params) 234 := by
  w_on
  constructor <;> k_is
theorem gn234 (w : World) : nsIn (hd.heap_39 w.params) mainGlobals (Str.ofString "PAs") = some (some (.ref 234)) := by
  w_on
  k_is
theorem own261 (w : World) : OwnC (hd.heap_39 w.params) 261 := by
  w_on
  constructor <;> k_is
theorem gn261 (w : World) : nsIn (hd.heap_39 w.params) mainGlobals (Str.ofString "PLazy") = some (some (.ref 261)) := by
  w_on
  k_is
theorem own288 (w : World) : OwnC (hd.heap_39 w.params) 288 := by
  w_on
  constructor <;> k_is
theorem gn288 (w : World) : nsIn (hd.heap_39 w.params) mainGlobals (Str.ofString "PBang") = some (some (.ref 288)) := by
  w_on
  k_is
theorem gnIs (w : World) : nsIn (hd.heap_39 w.params) mainGlobals (Str.ofString "isinstance") = some none := by
  w_on
  k_is
/-- a name of the module, read in a function -/
abbrev Glo (w : World) (cs : Scope) (n : Str) (v : Addr) : Prop := nsIn (hd.heap_39 w.params) mainGlobals n = some (some (.ref v)) ∧ cs.names.lookup n = some .globalImplicit ∧ (n == ("__debug__" : Str)) = false
section
variable {w : World} {loose : List Str} {mean : ExcName → Option Value} {mg mb : Str → Option Value} {A : Around} {E : Value → Shared → Prop} {s : Shared} {h₀ : Heap} {L : Addr} {m : Str → Option Value} {news : Led} {cn : Str} {cs : Scope} {a : Addr} {ccd : Value} {cl : List (Str × Addr)}
variable {x n1 n2 n3 : Str} {C1 C2 C3 c p d : Addr} {od : Obj} {b : Bool} {q0 q1 q2 q3 q4 q5 q6 : Pos} {k : Nat} {Q : Bool → Shared → Prop}
theorem glo_at {n : Str} {v : Addr} {q : Pos} {R : Value → Shared → Prop} (F : Fr h₀ L s.heap m) (X : (hd.heap_39 w.params).In h₀) (T : Top hd.view_39 loose mean mg mb h₀) (hk : cs.kind = .function) (g : Glo w cs n v) (h : R (.ref v) s) :
    wpAny (model PySem.Challenge.rw_og0007_01.row.prog w) A (eval (.Name n q) (envX cn cs L a ccd cl)) R E s := nameX_K F X (topRead_of T) g.1 h hk g.2.1 g.2.2
theorem isin1 (F : Fr h₀ L s.heap m) (N : News h₀ L s.heap news) (X : (hd.heap_39 w.params).In h₀) (T : Top hd.view_39 loose mean mg mb h₀) (hm : m x = some (.ref p)) (m1 : (p, instObj c d) ∈ news) (m2 : (d, od) ∈ news) (o : OwnC (hd.heap_39 w.params) c)
    (g1 : Glo w cs n1 C1) (e : kitOne (hd.heap_39 w.params) (.ref c) (.ref C1) = some b) {env : Env} (he : env = envX cn cs L a ccd cl) (hk : cs.kind = .function) (hx : cs.names.lookup x = some .local) (hxd : (x == ("__debug__" : Str)) = false) (hi : cs.names.lookup (Str.ofString "isinstance") = some .globalImplicit)
    (h : ∀ h' tk, Fr h₀ L h' m → News h₀ L h' news → Q b { s with heap := h', toks := tk }) :
    wpAny (model PySem.Challenge.rw_og0007_01.row.prog w) A (isTrue (.Call (.Name (Str.ofString "isinstance") q0) [.Name x q1, .Name n1 q2] [] q5) env (eval (.Call (.Name (Str.ofString "isinstance") q0) [.Name x q1, .Name n1 q2] [] q5) env)) Q E s := by
  subst he
  refine isTrue_plain (Call_ (nameX_B F X (topRead_of T) (gnIs w) boot_isinstance (by decide) ?_ hk hi (by decide)))
  refine Calls.callWith_builtin rfl (Calls.evalArgs_plain (spliced_more (nameX_L F hm (spliced_more (glo_at F X T hk g1 (spliced_none ?_))) hk hx hxd)))
  have I := InstAt.of_news (h₀ := h₀) (L := L) N m1 m2
  refine kia_one (kitx_own o.a o.b o.c o.d o.e o.f) (X.keeps F.keep) I e (by intro q; cases q) fun tk => ?_
  exact wpAny_truthy_bool (h s.heap tk F N)
theorem isin2 (F : Fr h₀ L s.heap m) (N : News h₀ L s.heap news) (X : (hd.heap_39 w.params).In h₀) (T : Top hd.view_39 loose mean mg mb h₀) (hm : m x = some (.ref p)) (m1 : (p, instObj c d) ∈ news) (m2 : (d, od) ∈ news) (o : OwnC (hd.heap_39 w.params) c)
    (g1 : Glo w cs n1 C1) (g2 : Glo w cs n2 C2) (e : kitAny (hd.heap_39 w.params) (.ref c) [.ref C1, .ref C2] = some b) {env : Env} (he : env = envX cn cs L a ccd cl) (hk : cs.kind = .function) (hx : cs.names.lookup x = some .local) (hxd : (x == ("__debug__" : Str)) = false) (hi : cs.names.lookup (Str.ofString "isinstance") = some .globalImplicit)
    (h : ∀ h' tk, Fr h₀ L h' m → News h₀ L h' news → Q b { s with heap := h', toks := tk }) :
    wpAny (model PySem.Challenge.rw_og0007_01.row.prog w) A (isTrue (.Call (.Name (Str.ofString "isinstance") q0) [.Name x q1, .Tuple [.Name n1 q2, .Name n2 q3] k q6] [] q5) env (eval (.Call (.Name (Str.ofString "isinstance") q0) [.Name x q1, .Tuple [.Name n1 q2, .Name n2 q3] k q6] [] q5) env)) Q E s := by
  subst he
  refine isTrue_plain (Call_ (nameX_B F X (topRead_of T) (gnIs w) boot_isinstance (by decide) ?_ hk hi (by decide)))
  refine Calls.callWith_builtin rfl (Calls.evalArgs_plain (spliced_more (nameX_L F hm (spliced_more (Tuple_ (spliced_more (glo_at F X T hk g1 (spliced_more (glo_at F X T hk g2 (spliced_none (newTuple_N F N (fun h' F' N' => spliced_none ?_) (by size_fits))))))))) hk hx hxd)))
  have I := InstAt.of_news (h₀ := h₀) (L := L) N' (List.mem_cons_of_mem _ m1) (List.mem_cons_of_mem _ m2)
  refine kia_tup (kitx_own o.a o.b o.c o.d o.e o.f) (X.keeps F'.keep) I (N' _ List.mem_cons_self).1 e (by intro q; cases q) fun tk => ?_
  exact wpAny_truthy_bool (h h' tk F' fun q hq => N' q (List.mem_cons_of_mem _ hq))
theorem isin3 (F : Fr h₀ L s.heap m) (N : News h₀ L s.heap news) (X : (hd.heap_39 w.params).In h₀) (T : Top hd.view_39 loose mean mg mb h₀) (hm : m x = some (.ref p)) (m1 : (p, instObj c d) ∈ news) (m2 : (d, od) ∈ news) (o : OwnC (hd.heap_39 w.params) c)
    (g1 : Glo w cs n1 C1) (g2 : Glo w cs n2 C2) (g3 : Glo w cs n3 C3) (e : kitAny (hd.heap_39 w.params) (.ref c) [.ref C1, .ref C2, .ref C3] = some b) {env : Env} (he : env = envX cn cs L a ccd cl) (hk : cs.kind = .function) (hx : cs.names.lookup x = some .local) (hxd : (x == ("__debug__" : Str)) = false) (hi : cs.names.lookup (Str.ofString "isinstance") = some .globalImplicit)
    (h : ∀ h' tk, Fr h₀ L h' m → News h₀ L h' news → Q b { s with heap := h', toks := tk }) :
    wpAny (model PySem.Challenge.rw_og0007_01.row.prog w) A (isTrue (.Call (.Name (Str.ofString "isinstance") q0) [.Name x q1, .Tuple [.Name n1 q2, .Name n2 q3, .Name n3 q4] k q6] [] q5) env (eval (.Call (.Name (Str.ofString "isinstance") q0) [.Name x q1, .Tuple [.Name n1 q2, .Name n2 q3, .Name n3 q4] k q6] [] q5) env)) Q E s := by
  subst he
  refine isTrue_plain (Call_ (nameX_B F X (topRead_of T) (gnIs w) boot_isinstance (by decide) ?_ hk hi (by decide)))
  refine Calls.callWith_builtin rfl (Calls.evalArgs_plain (spliced_more (nameX_L F hm (spliced_more (Tuple_ (spliced_more (glo_at F X T hk g1 (spliced_more (glo_at F X T hk g2 (spliced_more (glo_at F X T hk g3 (spliced_none (newTuple_N F N (fun h' F' N' => spliced_none ?_) (by size_fits))))))))))) hk hx hxd)))
  have I := InstAt.of_news (h₀ := h₀) (L := L) N' (List.mem_cons_of_mem _ m1) (List.mem_cons_of_mem _ m2)
  refine kia_tup (kitx_own o.a o.b o.c o.d o.e o.f) (X.keeps F'.keep) I (N' _ List.mem_cons_self).1 e (by intro q; cases q) fun tk => ?_
  exact wpAny_truthy_bool (h h' tk F' fun q hq => N' q (List.mem_cons_of_mem _ hq))
end
end IsinText
section PinText
structure Hold (p : Prop) : Prop where
  it : p
def clsP : Pat → Addr
  | .wild => 99 | .var _ => 72 | .lit _ => 126 | .con _ _ => 153 | .tup _ => 180 | .lst _ => 207 | .as_ _ _ => 234 | .lazy _ => 261 | .bang _ => 288
def oneOf (l : List Nat) (P : Pat) : Bool := l.contains (clsP P)
def subP : Pat → Option Pat
  | .as_ _ p => some p | .lazy p => some p | .bang p => some p | _ => none
def itemsP : Pat → Option (List Pat)
  | .tup ps => some ps | .lst ps => some ps | _ => none
def argsP : Pat → Option (List Pat)
  | .con _ ps => some ps | _ => none
def nameP : Pat → Option Str
  | .var n => some n | .con n _ => some n | .as_ n _ => some n | _ => none
def litP : Pat → Option Int
  | .lit i => some i | _ => none
inductive Inst (news : Led) (v : Value) (P : Pat) : Prop
  | mk (x d : Addr) (od : Obj) (e : v = .ref x) (m1 : (x, instObj (clsP P) d) ∈ news) (m2 : (d, od) ∈ news)
theorem PatIn.inst {news : Led} {v : Value} {P : Pat} (h : PatIn news v P) : Inst news v P := by
  cases h <;> exact ⟨_, _, _, rfl, by assumption, by assumption⟩
theorem ownP (w : World) (P : Pat) : OwnC (hd.heap_39 w.params) (clsP P) := by
  cases P
  · exact own99 w
  · exact own72 w
  · exact own126 w
  · exact own153 w
  · exact own180 w
  · exact own207 w
  · exact own234 w
  · exact own261 w
  · exact own288 w
theorem fill_pin (w : World) : PySem.Challenge.rw_og0007_01.row.prog = PySem.Challenge.rw_og0007_01.row.prog ∧ hd.heap_39 w.params = hd.heap_39 w.params := by
  k_fill
  exact ⟨rfl, rfl⟩
/-- what isinstance answers of a pattern, for the tests of the text -/
structure KitP (w : World) (P : Pat) : Prop where
  k72 : kitOne (hd.heap_39 w.params) (.ref (clsP P)) (.ref 72) = some (oneOf [72] P)
  k126 : kitOne (hd.heap_39 w.params) (.ref (clsP P)) (.ref 126) = some (oneOf [126] P)
  k153 : kitOne (hd.heap_39 w.params) (.ref (clsP P)) (.ref 153) = some (oneOf [153] P)
  k180 : kitOne (hd.heap_39 w.params) (.ref (clsP P)) (.ref 180) = some (oneOf [180] P)
  k207 : kitOne (hd.heap_39 w.params) (.ref (clsP P)) (.ref 207) = some (oneOf [207] P)
  k234 : kitOne (hd.heap_39 w.params) (.ref (clsP P)) (.ref 234) = some (oneOf [234] P)
  k261 : kitOne (hd.heap_39 w.params) (.ref (clsP P)) (.ref 261) = some (oneOf [261] P)
  k288 : kitOne (hd.heap_39 w.params) (.ref (clsP P)) (.ref 288) = some (oneOf [288] P)
  kTL : kitAny (hd.heap_39 w.params) (.ref (clsP P)) [.ref 180, .ref 207] = some (oneOf [180, 207] P)
  kVA : kitAny (hd.heap_39 w.params) (.ref (clsP P)) [.ref 72, .ref 234] = some (oneOf [72, 234] P)
  kAB : kitAny (hd.heap_39 w.params) (.ref (clsP P)) [.ref 234, .ref 288] = some (oneOf [234, 288] P)
  kALB : kitAny (hd.heap_39 w.params) (.ref (clsP P)) [.ref 234, .ref 261, .ref 288] = some (oneOf [234, 261, 288] P)
  kVWL : kitAny (hd.heap_39 w.params) (.ref (clsP P)) [.ref 72, .ref 99, .ref 261] = some (oneOf [72, 99, 261] P)
theorem kitP (w : World) (P : Pat) : KitP w P := by
  w_on
  cases P <;> (constructor <;> (dsimp only [clsP]; kit_is))
structure AttrOk (K : Frag) (c : Addr) (name : Str) : Prop where
  a : plainGet K c name = true
  b : hasDictIn K c = true
  c : findIn K (.ref c) name = some none
  d : noGet K none = true
theorem ok234p (w : World) : AttrOk (hd.heap_39 w.params) 234 (Str.ofString "pattern") := by w_on; constructor <;> k_is
theorem ok261p (w : World) : AttrOk (hd.heap_39 w.params) 261 (Str.ofString "pattern") := by w_on; constructor <;> k_is
theorem ok288p (w : World) : AttrOk (hd.heap_39 w.params) 288 (Str.ofString "pattern") := by w_on; constructor <;> k_is
theorem ok180i (w : World) : AttrOk (hd.heap_39 w.params) 180 (Str.ofString "items") := by w_on; constructor <;> k_is
theorem ok207i (w : World) : AttrOk (hd.heap_39 w.params) 207 (Str.ofString "items") := by w_on; constructor <;> k_is
theorem ok153a (w : World) : AttrOk (hd.heap_39 w.params) 153 (Str.ofString "args") := by w_on; constructor <;> k_is
theorem ok153n (w : World) : AttrOk (hd.heap_39 w.params) 153 (Str.ofString "name") := by w_on; constructor <;> k_is
theorem ok72n (w : World) : AttrOk (hd.heap_39 w.params) 72 (Str.ofString "name") := by w_on; constructor <;> k_is
theorem ok234n (w : World) : AttrOk (hd.heap_39 w.params) 234 (Str.ofString "name") := by w_on; constructor <;> k_is
theorem ok126v (w : World) : AttrOk (hd.heap_39 w.params) 126 (Str.ofString "value") := by w_on; constructor <;> k_is
theorem ok126k (w : World) : AttrOk (hd.heap_39 w.params) 126 (Str.ofString "kind") := by w_on; constructor <;> k_is
section
variable {w : World} {loose : List Str} {mean : ExcName → Option Value} {mg mb : Str → Option Value} {A : Around} {E : Value → Shared → Prop} {s : Shared} {h₀ : Heap} {L : Addr} {m : Str → Option Value} {news : Led} {x : Addr} {P : Pat} {Q : Value → Shared → Prop} {e : Bool}
theorem gat {c d : Addr} {name : Str} {v : Value} {es : List DictEntry} {n : Nat} (F : Fr h₀ L s.heap m) (X : (hd.heap_39 w.params).In h₀) (N : News h₀ L s.heap news) (m1 : (x, instObj c d) ∈ news) (m2 : (d, dictOf es n) ∈ news) (o : AttrOk (hd.heap_39 w.params) c name) (hl : getL name es = some (some v)) (hv : handedIn v = true)
    (h : ∀ tk, Q v { s with toks := tk }) : wpAny (model PG w) A (getAttr (.ref x) name e) Q E s :=
  get_own F X (InstAt.of_news (h₀ := h₀) (L := L) N m1 m2) o.a o.b o.c o.d hl hv (h _)
theorem gat_pattern {kept : Led} {q : Pat} (F : Fr h₀ L s.heap m) (X : (hd.heap_39 w.params).In h₀) (N : News h₀ L s.heap news) (hp : PatIn kept (.ref x) P) (hk : ∀ q ∈ kept, q ∈ news) (hs : subP P = some q)
    (h : ∀ y tk, PatIn kept (.ref y) q → Q (.ref y) { s with toks := tk }) : wpAny (model PG w) A (getAttr (.ref x) (Str.ofString "pattern") e) Q E s := by
  cases hp with
  | as_ m1 m2 hq => (have e : _ := Option.some.inj hs); subst e; obtain ⟨y, _, _, rfl, _, _⟩ := hq.inst; exact gat F X N (hk _ m1) (hk _ m2) (ok234p w) rfl rfl fun tk => h y tk hq
  | lazy m1 m2 hq => (have e : _ := Option.some.inj hs); subst e; obtain ⟨y, _, _, rfl, _, _⟩ := hq.inst; exact gat F X N (hk _ m1) (hk _ m2) (ok261p w) rfl rfl fun tk => h y tk hq
  | bang m1 m2 hq => (have e : _ := Option.some.inj hs); subst e; obtain ⟨y, _, _, rfl, _, _⟩ := hq.inst; exact gat F X N (hk _ m1) (hk _ m2) (ok288p w) rfl rfl fun tk => h y tk hq
  | _ => exact absurd hs (fun h => nn h)
theorem gat_items {kept : Led} {ps : List Pat} (F : Fr h₀ L s.heap m) (X : (hd.heap_39 w.params).In h₀) (N : News h₀ L s.heap news) (hp : PatIn kept (.ref x) P) (hk : ∀ q ∈ kept, q ∈ news) (hs : itemsP P = some ps)
    (h : ∀ l vs n tk, (l, lstO vs n) ∈ kept → PatsIn kept vs ps → Q (.ref l) { s with toks := tk }) : wpAny (model PG w) A (getAttr (.ref x) (Str.ofString "items") e) Q E s := by
  cases hp with
  | tup m1 m2 ml hq => (have e : _ := Option.some.inj hs); subst e; exact gat F X N (hk _ m1) (hk _ m2) (ok180i w) rfl rfl fun tk => h _ _ _ tk ml hq
  | lst m1 m2 ml hq => (have e : _ := Option.some.inj hs); subst e; exact gat F X N (hk _ m1) (hk _ m2) (ok207i w) rfl rfl fun tk => h _ _ _ tk ml hq
  | _ => exact absurd hs (fun h => nn h)
theorem gat_args {kept : Led} {ps : List Pat} (F : Fr h₀ L s.heap m) (X : (hd.heap_39 w.params).In h₀) (N : News h₀ L s.heap news) (hp : PatIn kept (.ref x) P) (hk : ∀ q ∈ kept, q ∈ news) (hs : argsP P = some ps)
    (h : ∀ l vs n tk, (l, lstO vs n) ∈ kept → PatsIn kept vs ps → Q (.ref l) { s with toks := tk }) : wpAny (model PG w) A (getAttr (.ref x) (Str.ofString "args") e) Q E s := by
  cases hp with
  | con m1 m2 ml hq => (have e : _ := Option.some.inj hs); subst e; exact gat F X N (hk _ m1) (hk _ m2) (ok153a w) rfl rfl fun tk => h _ _ _ tk ml hq
  | _ => exact absurd hs (fun h => nn h)
theorem gat_name {kept : Led} {nm : Str} (F : Fr h₀ L s.heap m) (X : (hd.heap_39 w.params).In h₀) (N : News h₀ L s.heap news) (hp : PatIn kept (.ref x) P) (hk : ∀ q ∈ kept, q ∈ news) (hs : nameP P = some nm)
    (h : ∀ t tk, Q (.str nm t) { s with toks := tk }) : wpAny (model PG w) A (getAttr (.ref x) (Str.ofString "name") e) Q E s := by
  cases hp with
  | var m1 m2 => (have e : _ := Option.some.inj hs); subst e; exact gat F X N (hk _ m1) (hk _ m2) (ok72n w) rfl rfl fun tk => h _ tk
  | con m1 m2 _ _ => (have e : _ := Option.some.inj hs); subst e; exact gat F X N (hk _ m1) (hk _ m2) (ok153n w) rfl rfl fun tk => h _ tk
  | as_ m1 m2 _ => (have e : _ := Option.some.inj hs); subst e; exact gat F X N (hk _ m1) (hk _ m2) (ok234n w) rfl rfl fun tk => h _ tk
  | _ => exact absurd hs (fun h => nn h)
theorem gat_value {kept : Led} {i : Int} (F : Fr h₀ L s.heap m) (X : (hd.heap_39 w.params).In h₀) (N : News h₀ L s.heap news) (hp : PatIn kept (.ref x) P) (hk : ∀ q ∈ kept, q ∈ news) (hs : litP P = some i)
    (h : ∀ t tk, Q (.int i t) { s with toks := tk }) : wpAny (model PG w) A (getAttr (.ref x) (Str.ofString "value") e) Q E s := by
  cases hp with
  | lit m1 m2 => (have e : _ := Option.some.inj hs); subst e; exact gat F X N (hk _ m1) (hk _ m2) (ok126v w) rfl rfl fun tk => h _ tk
  | _ => exact absurd hs (fun h => nn h)
theorem gat_kind {kept : Led} {i : Int} (F : Fr h₀ L s.heap m) (X : (hd.heap_39 w.params).In h₀) (N : News h₀ L s.heap news) (hp : PatIn kept (.ref x) P) (hk : ∀ q ∈ kept, q ∈ news) (hs : litP P = some i)
    (h : ∀ t tk, Q (.str (Str.ofString "int") t) { s with toks := tk }) : wpAny (model PG w) A (getAttr (.ref x) (Str.ofString "kind") e) Q E s := by
  cases hp with
  | lit m1 m2 => (have e : _ := Option.some.inj hs); subst e; exact gat F X N (hk _ m1) (hk _ m2) (ok126k w) rfl rfl fun tk => h _ tk
  | _ => exact absurd hs (fun h => nn h)
end
section
variable {w : World} {loose : List Str} {mean : ExcName → Option Value} {mg mb : Str → Option Value} {A : Around} {E : Value → Shared → Prop} {s : Shared} {h₀ : Heap} {L : Addr} {m : Str → Option Value} {news : Led} {cn : Str} {cs : Scope} {a : Addr} {ccd : Value} {cl : List (Str × Addr)}
variable {x n1 n2 n3 : Str} {C1 C2 C3 p : Addr} {P : Pat} {b : Bool} {q0 q1 q2 q3 q4 q5 q6 : Pos} {k : Nat} {Q : Bool → Shared → Prop}
theorem isP1 (F : Fr h₀ L s.heap m) (N : News h₀ L s.heap news) (X : (hd.heap_39 w.params).In h₀) (T : Top hd.view_39 loose mean mg mb h₀) {env : Env} (he : env = envX cn cs L a ccd cl) (hm : m x = some (.ref p)) (hp : PatIn news (.ref p) P)
    (g1 : Glo w cs n1 C1) (e : kitOne (hd.heap_39 w.params) (.ref (clsP P)) (.ref C1) = some b) (hk : cs.kind = .function) (hx : cs.names.lookup x = some .local) (hxd : (x == ("__debug__" : Str)) = false) (hi : cs.names.lookup (Str.ofString "isinstance") = some .globalImplicit)
    (h : ∀ h' tk, Fr h₀ L h' m → News h₀ L h' news → Q b { s with heap := h', toks := tk }) :
    wpAny (model PG w) A (isTrue (.Call (.Name (Str.ofString "isinstance") q0) [.Name x q1, .Name n1 q2] [] q5) env (eval (.Call (.Name (Str.ofString "isinstance") q0) [.Name x q1, .Name n1 q2] [] q5) env)) Q E s := by
  obtain ⟨_, _, _, e0, m1, m2⟩ := hp.inst
  cases e0
  exact isin1 F N X T hm m1 m2 (ownP w P) g1 e he hk hx hxd hi h
theorem isP2 (F : Fr h₀ L s.heap m) (N : News h₀ L s.heap news) (X : (hd.heap_39 w.params).In h₀) (T : Top hd.view_39 loose mean mg mb h₀) {env : Env} (he : env = envX cn cs L a ccd cl) (hm : m x = some (.ref p)) (hp : PatIn news (.ref p) P)
    (g1 : Glo w cs n1 C1) (g2 : Glo w cs n2 C2) (e : kitAny (hd.heap_39 w.params) (.ref (clsP P)) [.ref C1, .ref C2] = some b) (hk : cs.kind = .function) (hx : cs.names.lookup x = some .local) (hxd : (x == ("__debug__" : Str)) = false) (hi : cs.names.lookup (Str.ofString "isinstance") = some .globalImplicit)
    (h : ∀ h' tk, Fr h₀ L h' m → News h₀ L h' news → Q b { s with heap := h', toks := tk }) :
    wpAny (model PG w) A (isTrue (.Call (.Name (Str.ofString "isinstance") q0) [.Name x q1, .Tuple [.Name n1 q2, .Name n2 q3] k q6] [] q5) env (eval (.Call (.Name (Str.ofString "isinstance") q0) [.Name x q1, .Tuple [.Name n1 q2, .Name n2 q3] k q6] [] q5) env)) Q E s := by
  obtain ⟨_, _, _, e0, m1, m2⟩ := hp.inst
  cases e0
  exact isin2 F N X T hm m1 m2 (ownP w P) g1 g2 e he hk hx hxd hi h
theorem isP3 (F : Fr h₀ L s.heap m) (N : News h₀ L s.heap news) (X : (hd.heap_39 w.params).In h₀) (T : Top hd.view_39 loose mean mg mb h₀) {env : Env} (he : env = envX cn cs L a ccd cl) (hm : m x = some (.ref p)) (hp : PatIn news (.ref p) P)
    (g1 : Glo w cs n1 C1) (g2 : Glo w cs n2 C2) (g3 : Glo w cs n3 C3) (e : kitAny (hd.heap_39 w.params) (.ref (clsP P)) [.ref C1, .ref C2, .ref C3] = some b) (hk : cs.kind = .function) (hx : cs.names.lookup x = some .local) (hxd : (x == ("__debug__" : Str)) = false) (hi : cs.names.lookup (Str.ofString "isinstance") = some .globalImplicit)
    (h : ∀ h' tk, Fr h₀ L h' m → News h₀ L h' news → Q b { s with heap := h', toks := tk }) :
    wpAny (model PG w) A (isTrue (.Call (.Name (Str.ofString "isinstance") q0) [.Name x q1, .Tuple [.Name n1 q2, .Name n2 q3, .Name n3 q4] k q6] [] q5) env (eval (.Call (.Name (Str.ofString "isinstance") q0) [.Name x q1, .Tuple [.Name n1 q2, .Name n2 q3, .Name n3 q4] k q6] [] q5) env)) Q E s := by
  obtain ⟨_, _, _, e0, m1, m2⟩ := hp.inst
  cases e0
  exact isin3 F N X T hm m1 m2 (ownP w P) g1 g2 g3 e he hk hx hxd hi h
end
inductive ItemsAt (w : World) (news : Led) (x l : Addr) : Prop
  | mk (c d : Addr) (es : List DictEntry) (n : Nat) (m1 : (x, instObj c d) ∈ news) (m2 : (d, dictOf es n) ∈ news) (o : AttrOk (hd.heap_39 w.params) c (Str.ofString "items")) (hl : getL (Str.ofString "items") es = some (some (.ref l)))
theorem gat_itemsAt {w : World} {A : Around} {E : Value → Shared → Prop} {s : Shared} {h₀ : Heap} {L : Addr} {m : Str → Option Value} {news : Led} {x : Addr} {Q : Value → Shared → Prop} {e : Bool} {kept : Led} {l : Addr} (F : Fr h₀ L s.heap m) (X : (hd.heap_39 w.params).In h₀) (N : News h₀ L s.heap news) (hI : ItemsAt w kept x l) (hk : ∀ q ∈ kept, q ∈ news) (_hI : ItemsAt w kept x l)
    (h : ∀ tk, Q (.ref l) { s with toks := tk }) : wpAny (model PG w) A (getAttr (.ref x) (Str.ofString "items") e) Q E s := by
  obtain ⟨c, d, es, n, m1, m2, o, hl⟩ := hI
  exact gat F X N (hk _ m1) (hk _ m2) o hl rfl h
theorem anyE {α : Type} {M : Model} {A : Around} {t : Sem α} {Q : α → Shared → Prop} {E : Value → Shared → Prop} {s : Shared} (h : ∀ E', wpAny M A t Q E' s) : wpAny M A t Q E s := h E
inductive HideD (h₀ h : Heap) (L : Addr) (q : Addr × Obj) (d : Addr) (es : List DictEntry) (n : Nat) (r : Led) : Prop
  | mk (od : Obj) (ho : dictOf es n = od) (N : News h₀ L h (q :: (d, od) :: r))
theorem hide_dict {h₀ h : Heap} {L : Addr} {q : Addr × Obj} {d : Addr} {es : List DictEntry} {n : Nat} {r : Led} (N : News h₀ L h (q :: (d, dictOf es n) :: r)) : HideD h₀ h L q d es n r := ⟨_, rfl, N⟩
theorem fr_form1 {g h : Heap} {L : Addr} {m : Str → Option Value} {a : Str} {v : Value} (F : Fr g L h m) (e : m a = some v) : ∃ mf : Str → Option Value, Fr g L h (fun y => if y = a then some v else mf y) :=
  ⟨m, by have q : (fun y => if y = a then some v else m y) = m := funext fun y => by by_cases e2 : y = a <;> simp [e2, e]
         rw [q]; exact F⟩
theorem apart_nil {l : Led} : ∀ q ∈ l, ∀ p ∈ ([] : Led), q.1 ≠ p.1 := fun _ _ _ h => nomatch h
theorem apart_app {l t1 t2 : Led} (h : ∀ q ∈ l, ∀ p ∈ t1, q.1 ≠ p.1) (k : ∀ q ∈ l, ∀ p ∈ t2, q.1 ≠ p.1) : ∀ q ∈ l, ∀ p ∈ t1 ++ t2, q.1 ≠ p.1 := fun q hq p hp => (List.mem_append.mp hp).elim (h q hq p) (k q hq p)
theorem apart_sub {l l' t : Led} (h : ∀ q ∈ l, ∀ p ∈ t, q.1 ≠ p.1) (hs : ∀ q ∈ l', q ∈ l) : ∀ q ∈ l', ∀ p ∈ t, q.1 ≠ p.1 := fun q hq => h q (hs q hq)
theorem led_mono {h₀ h : Heap} {L : Addr} {W tl : Led} (N : News h₀ L h (W ++ tl)) : ∃ W' : Led, (∀ q ∈ W, q ∈ W') ∧ (∀ q ∈ tl, q ∈ W') ∧ News h₀ L h W' := ⟨W ++ tl, fun q hq => List.mem_append.mpr (.inl hq), fun q hq => List.mem_append.mpr (.inr hq), N⟩
theorem news_snoc {h₀ h : Heap} {L : Addr} {q : Addr × Obj} {news : Led} (N : News h₀ L h (q :: news)) : News h₀ L h (news ++ [q]) := news_sub N fun x hx => (List.mem_append.mp hx).elim (List.mem_cons_of_mem _) fun hx => by rw [List.mem_singleton.mp hx]; exact List.mem_cons_self
theorem apart_new {news : Led} {q : Addr × Obj} (l : ∀ p ∈ news, p.1 < q.1) : ∀ p ∈ news, ∀ y ∈ [q], p.1 ≠ y.1 := fun p hp y hy => by rw [List.mem_singleton.mp hy]; exact Nat.ne_of_lt (l p hp)
inductive POne (news : Led) (vs : List Value) (P : Pat) : Prop
  | mk (x : Addr) (e : vs = [.ref x]) (hp : PatIn news (.ref x) P)
end PinText
section FitsText
set_option hygiene false

abbrev FD := Pat × Val
inductive FitRel (news : Led) (vs : List Value) (d : FD) : Prop
  | mk (p v : Value) (e : vs = [p, v]) (hp : PatIn news p d.1) (hv : ValIn news v d.2)
abbrev fitsT : ToldN FD where
  Rel := FitRel
  Ok := fun d => Okf d.1 d.2
  size := fun d => 4 * d.1.size + 20
  Tl := fun tl => tl = []
  Out := fun _ r d => r = .bool (fits d.1 d.2)
theorem ft1 {P : Pat} (V : Val) (c : oneOf [72, 99, 261] P = true) : fits P V = true := by cases P <;> first | (unfold fits; rfl) | exact Bool.noConfusion (show false = true from c)
inductive FT2 (P : Pat) (V : Val) : Prop
  | mk (q : Pat) (e : subP P = some q) (ef : fits P V = fits q V) (ok : Okf q V) (sz : q.size + 1 ≤ P.size)
theorem ft2 {P : Pat} {V : Val} (ok : Okf P V) (c : oneOf [234, 288] P = true) : FT2 P V := by
  cases P <;> first | exact Bool.noConfusion (show false = true from c) | exact ⟨_, rfl, by simp only [fits], by simpa only [Okf] using ok, Nat.le_refl _⟩
inductive FT3 (P : Pat) (V : Val) : Prop
  | mk (i j : Int) (e : litP P = some i) (ev : V = .int j) (ef : fits P V = decide (i = j))
theorem ft3 {P : Pat} {V : Val} (ok : Okf P V) (c : oneOf [126] P = true) : FT3 P V := by
  cases P <;> first | exact Bool.noConfusion (show false = true from c) | skip
  cases V with
  | int j => exact ⟨_, _, rfl, rfl, by simp only [fits]⟩
  | con _ _ => simp [Okf] at ok
inductive FT4 (P : Pat) (V : Val) : Prop
  | nil (m : Str) (xs : List Val) (ei : itemsP P = some []) (ev : V = .con m xs) (ef : fits P V = decide (m = Str.ofString "[]"))
  | cons (q : Pat) (ps : List Pat) (m : Str) (xs : List Val) (ep : P = .lst (q :: ps)) (ei : itemsP P = some (q :: ps)) (ev : V = .con m xs) (ok : m = Str.ofString ":" → ∃ y z, xs = [y, z] ∧ Okf q y ∧ OkL ps z)
theorem ft4 {P : Pat} {V : Val} (ok : Okf P V) (c : oneOf [207] P = true) : FT4 P V := by
  cases P <;> first | exact Bool.noConfusion (show false = true from c) | skip
  case lst ps =>
    cases V with
    | int j => cases ps <;> simp [Okf, OkL] at ok
    | con m xs =>
      cases ps with
      | nil => exact .nil m xs rfl rfl (by simp only [fits, fitsL])
      | cons q ps => exact .cons q ps m xs rfl rfl rfl (by simpa only [Okf, OkL] using ok)
def innP : Pat → Option (List Pat)
  | .tup ps => some ps | .con _ ps => some ps | _ => none
def tagB : Pat → Str → Bool
  | .con n _, m => n != m | _, _ => false
inductive FT5 (P : Pat) (V : Val) : Prop
  | mk (ps : List Pat) (m : Str) (xs : List Val) (ev : V = .con m xs) (ei : innP P = some ps) (ef : fits P V = (!tagB P m && fitsZ ps xs)) (ok : tagB P m = false → OkZ ps xs) (sz : Pat.sizes ps + 1 ≤ P.size)
theorem ft5 {P : Pat} {V : Val} (ok : Okf P V) (c1 : ¬ oneOf [72, 99, 261] P = true) (c2 : ¬ oneOf [234, 288] P = true) (c3 : ¬ oneOf [126] P = true) (c4 : ¬ oneOf [207] P = true) : FT5 P V := by
  cases P with
  | lit i => exact absurd rfl c3
  | lst ps => exact absurd rfl c4
  | tup ps =>
    cases V with
    | int j => simp [Okf] at ok
    | con m xs => exact ⟨ps, m, xs, rfl, rfl, by simp [fits, tagB], fun _ => by simpa only [Okf] using ok, by simp only [Pat.size]; omega⟩
  | con n ps =>
    cases V with
    | int j => simp [Okf] at ok
    | con m xs => exact ⟨ps, m, xs, rfl, rfl, by simp [fits, tagB, bne, Bool.beq_eq_decide_eq], fun h => by simp only [Okf] at ok; exact ok (by simpa [tagB] using h), by simp only [Pat.size]; omega⟩
  | wild => exact absurd rfl c1
  | var n => exact absurd rfl c1
  | lazy p => exact absurd rfl c1
  | as_ n p => exact absurd rfl c2
  | bang p => exact absurd rfl c2
theorem PatsIn.at {news : Led} : ∀ {vs ps} {i : Nat} {v : Value}, PatsIn news vs ps → vs[i]? = some v → ∃ p, ps[i]? = some p ∧ PatIn news v p
  | _, _, i, v, .nil, e => by simp at e
  | _, _, 0, v, .cons h1 h2, e => by simp at e; subst e; exact ⟨_, rfl, h1⟩
  | _, _, i + 1, v, .cons h1 h2, e => by simpa using PatsIn.at h2 (by simpa using e)
theorem ValsIn.at {news : Led} : ∀ {vs ps} {i : Nat} {v : Value}, ValsIn news vs ps → vs[i]? = some v → ∃ p, ps[i]? = some p ∧ ValIn news v p
  | _, _, i, v, .nil, e => by simp at e
  | _, _, 0, v, .cons h1 h2, e => by simp at e; subst e; exact ⟨_, rfl, h1⟩
  | _, _, i + 1, v, .cons h1 h2, e => by simpa using ValsIn.at h2 (by simpa using e)
theorem PatsIn.length {news : Led} {vs : List Value} {ps : List Pat} (h : PatsIn news vs ps) : vs.length = ps.length := by
  induction vs generalizing ps with
  | nil => cases h; rfl
  | cons x vs ih =>
    cases h with
    | cons h1 h2 => exact congrArg (· + 1) (ih h2)
theorem ValsIn.length {news : Led} {vs : List Value} {ps : List Val} (h : ValsIn news vs ps) : vs.length = ps.length := by
  induction vs generalizing ps with
  | nil => cases h; rfl
  | cons x vs ih =>
    cases h with
    | cons h1 h2 => exact congrArg (· + 1) (ih h2)
theorem sizes_at : ∀ {ps : List Pat} {i : Nat} {p : Pat}, ps[i]? = some p → p.size ≤ Pat.sizes ps
  | [], _, _, e => by simp at e
  | q :: ps, 0, p, e => by simp at e; subst e; simp only [Pat.sizes]; omega
  | q :: ps, i + 1, p, e => by
    have := sizes_at (ps := ps) (i := i) (by simpa using e)
    simp only [Pat.sizes]; omega
theorem sizes_len : ∀ ps : List Pat, ps.length ≤ Pat.sizes ps
  | [] => Nat.zero_le _
  | p :: ps => by have := sizes_len ps; simp only [Pat.sizes, List.length_cons]; omega
theorem list_of {h₀ h : Heap} {L a : Addr} {news : Led} {vs : List Value} {n : Nat} (N : News h₀ L h news) (hm : (a, lstO vs n) ∈ news) : h.IsList a vs.toArray := ⟨_, (N _ hm).1, rfl, _, rfl⟩
theorem fitsL_ne {p : Pat} {ps : List Pat} {m : Str} {vs : List Val} (h : ¬ m = Str.ofString ":") : fitsL (p :: ps) (.con m vs) = false := by
  match vs with
  | [] => rfl
  | [_] => rfl
  | _ :: _ :: _ => simp only [fitsL]; rw [decide_eq_false h]; rfl
theorem recLim : recursionLimit ≤ 1000 := by decide
theorem OkZ.at : ∀ {ps : List Pat} {xs : List Val} {i : Nat} {p : Pat} {x : Val}, OkZ ps xs → ps[i]? = some p → xs[i]? = some x → Okf p x
  | [], _, _, _, _, _, e, _ => by simp at e
  | _ :: _, [], _, _, _, _, _, e => by simp at e
  | p :: ps, x :: xs, 0, _, _, h, e1, e2 => by simp at e1 e2; subst e1 e2; simp only [OkZ] at h; exact h.1
  | p :: ps, x :: xs, i + 1, _, _, h, e1, e2 => by simp only [OkZ] at h; exact OkZ.at h.2 (by simpa using e1) (by simpa using e2)
theorem fitsZ_count : ∀ (ps : List Pat) (xs : List Val), fitsZ ps xs = decide ((List.range (min ps.length xs.length)).countP (fun i => !(fits (ps.getD i .wild) (xs.getD i (.int 0)))) = 0)
  | [], xs => by simp [fitsZ]
  | _ :: _, [] => by simp [fitsZ]
  | p :: ps, x :: xs => by
    rw [fitsZ, fitsZ_count ps xs]
    have : min (p :: ps).length (x :: xs).length = min ps.length xs.length + 1 := by simp only [List.length_cons]; omega
    rw [this, List.range_succ_eq_map, List.countP_cons, List.countP_map]
    simp only [List.getD_cons_zero]
    have e : ((fun i => !(fits ((p :: ps).getD i .wild) ((x :: xs).getD i (.int 0)))) ∘ Nat.succ) = fun i => !(fits (ps.getD i .wild) (xs.getD i (.int 0))) := by
      funext i; simp [List.getD_cons_succ]
    rw [e]
    cases fits p x <;> simp
inductive ItemsC (w : World) (news : Led) (x : Addr) (q : Pat) (ps : List Pat) : Prop
  | mk (l : Addr) (v : Value) (vs : List Value) (n : Nat) (hI : ItemsAt w news x l) (ml : (l, lstO (v :: vs) n) ∈ news) (hp : PatIn news v q) (hps : PatsIn news vs ps)
theorem items_cons {w : World} {news : Led} {x : Addr} {P q : Pat} {ps : List Pat} (hp : PatIn news (.ref x) P) (hs : itemsP P = some (q :: ps)) : ItemsC w news x q ps := by
  cases hp with
  | tup m1 m2 ml hq => (have e : _ := Option.some.inj hs); subst e; cases hq with | cons h1 h2 => exact ⟨_, _, _, _, ⟨_, _, _, _, m1, m2, ok180i w, rfl⟩, ml, h1, h2⟩
  | lst m1 m2 ml hq => (have e : _ := Option.some.inj hs); subst e; cases hq with | cons h1 h2 => exact ⟨_, _, _, _, ⟨_, _, _, _, m1, m2, ok207i w, rfl⟩, ml, h1, h2⟩
  | _ => exact absurd hs (fun h => nn h)
inductive ItemsN (w : World) (news : Led) (x : Addr) : Prop
  | mk (l : Addr) (n : Nat) (hI : ItemsAt w news x l) (ml : (l, lstO [] n) ∈ news)
theorem items_nil {w : World} {news : Led} {x : Addr} {P : Pat} (hp : PatIn news (.ref x) P) (hs : itemsP P = some []) : ItemsN w news x := by
  cases hp with
  | tup m1 m2 ml hq => (have e : _ := Option.some.inj hs); subst e; cases hq; exact ⟨_, _, ⟨_, _, _, _, m1, m2, ok180i w, rfl⟩, ml⟩
  | lst m1 m2 ml hq => (have e : _ := Option.some.inj hs); subst e; cases hq; exact ⟨_, _, ⟨_, _, _, _, m1, m2, ok207i w, rfl⟩, ml⟩
  | _ => exact absurd hs (fun h => nn h)
local macro_rules | `(tactic| walk_at "my pr") => `(tactic| with_reducible first | assumption | exact And.left (by assumption) | exact And.left (And.right (by assumption)) | exact And.left (And.right (And.right (by assumption))) | exact And.left (And.right (And.right (And.right (by assumption)))) | exact And.left (And.right (And.right (And.right (And.right (by assumption))))) | exact And.left (And.right (And.right (And.right (And.right (And.right (by assumption)))))))
local macro_rules | `(tactic| k_ne) => `(tactic| first | exact neN (Nat.ne_of_lt (by walk_at "my pr")) | exact neN (Nat.ne_of_gt (by walk_at "my pr")) | (refine neN ?_; (try dsimp only); omega))
local macro_rules | `(tactic| k_mem) => `(tactic| first | exact List.mem_cons_self | assumption | (refine List.mem_cons_of_mem _ ?_; k_mem))
local macro_rules | `(tactic| walk_at "eval ListComp") => `(tactic| (k_dflt (refine comp_setup (cl := []) (by with_unfolding_all rfl) (by decide) (by rfl) (by decide) ?_)))
theorem news_list {h₀ h : Heap} {L a : Addr} {news : Led} {its : Array Value} {n : Nat} (N : News h₀ L h news) (hm : (a, ({ cls := .type "list", data := .seq its n } : Obj)) ∈ news) : h.IsList a its := ⟨_, (N _ hm).1, rfl, _, rfl⟩
theorem slice_tail {prog : Program} {w : World} {A : Around} {E : Value → Shared → Prop} {s : Shared} {h₀ : Heap} {L l : Addr} {m : Str → Option Value} {news : Led} {value slice : PySem.Expr} {v : Value} {vs : List Value} {n : Nat} {t : Tok} {Q : Value → Shared → Prop}
    (F : Fr h₀ L s.heap m) (N : News h₀ L s.heap news) (hm : (l, lstO (v :: vs) n) ∈ news) (hz : vs.length ≤ 1000)
    (h : ∀ D h', Fr h₀ L h' m → News h₀ L h' ((D, lstO vs 0) :: news) → (∀ p ∈ news, p.1 < D) → Q (.ref D) { s with heap := h' })
    (hs : subscripted slice false (.ref l) (.ref s.heap.objs.size) = operate [.ref s.heap.objs.size, .ref l] (getItem (.ref l) (.ref s.heap.objs.size))) (ht : ∀ r, letTemporaryGo value (.ref l) r = pure ()) :
    wpAny (model prog w) A (subscriptTail value slice (.ref l) (.ref s.heap.objs.size)) Q E { s with heap := s.heap.push { cls := .type "slice", data := .fields #[.int 1 t, .none, .none] } } := by
  refine kmk_slice_lit (zs := vs) (lo := some 1) (hi := none) F N ⟨_, (N _ hm).1, rfl, _, rfl⟩ (by kmk_part) (by kmk_part) ?_ h hs ht (by rw [List.size_toArray, sizeLine_eq, List.length_cons]; omega)
  have := slicePick_from' (v :: vs).toArray 1
  rw [show ((1 : Nat) : Int) = 1 from rfl] at this
  rw [this]
  simp
local macro_rules | `(tactic| walk_at "subscriptTail Name Slice ref ref") => `(tactic| (k_dflt (refine slice_tail (by assumption) (by assumption) (by k_mem) (by assumption) ?_ (by with_unfolding_all rfl) (by kmk_pure)); intro D' h' F' N' l1; (try k_lt l1); (try k_sweep)))
theorem item_at {prog : Program} {w : World} {A : Around} {E : Value → Shared → Prop} {s : Shared} {h₀ : Heap} {L l : Addr} {news : Led} {value slice : PySem.Expr} {v : Value} {vs : List Value} {n : Nat} {k : Int} {t : Tok} {Q : Value → Shared → Prop}
    (N : News h₀ L s.heap news) (hm : (l, lstO vs n) ∈ news) (h0 : 0 ≤ k) (hhi : k < 2 ^ 63) (hx : vs[k.toNat]? = some v) (h : Q v s)
    (hs : subscripted slice false (.ref l) (.int k t) = operate [.ref l, .int k t] (getItem (.ref l) (.int k t))) :
    wpAny (model prog w) A (subscriptTail value slice (.ref l) (.int k t)) Q E s :=
  have hl : s.heap.IsList l vs.toArray := ⟨_, (N _ hm).1, rfl, _, rfl⟩
  tail_any hl.typeIs slot_list_getitem.lookup (wpAny_getItem_list hl h0 hhi (by simpa using hx) h) hs
theorem tup_at {prog : Program} {w : World} {A : Around} {E : Value → Shared → Prop} {s : Shared} {h₀ : Heap} {L l : Addr} {news : Led} {value slice : PySem.Expr} {v : Value} {vs : List Value} {n : Nat} {k : Int} {j : Nat} {t : Tok} {Q : Value → Shared → Prop}
    (N : News h₀ L s.heap news) (hm : (l, tupO vs n) ∈ news) (hlo : -(2 ^ 63) ≤ k) (hhi : k < 2 ^ 63) (hj : seqIndex? k vs.length = some j) (hx : vs[j]? = some v) (h : Q v s)
    (hs : subscripted slice false (.ref l) (.int k t) = operate [.ref l, .int k t] (getItem (.ref l) (.int k t))) :
    wpAny (model prog w) A (subscriptTail value slice (.ref l) (.int k t)) Q E s :=
  item_tupleT ⟨_, (N _ hm).1, rfl, _, rfl⟩ hlo hhi (by simpa using hj) (by simpa using hx) h hs
local macro_rules | `(tactic| walk_at "my item") => `(tactic| (k_dflt (first
  | refine item_at (by assumption) (by k_mem) (by decide) (by decide) (by exact rfl) ?_ (by with_unfolding_all rfl)
  | refine tup_at (by assumption) (by k_mem) (by decide) (by decide) (by exact rfl) (by exact rfl) ?_ (by with_unfolding_all rfl))))
local macro_rules | `(tactic| walk_at "subscriptTail Name Constant ref int") => `(tactic| (k_dflt (first
  | refine tup_at (by assumption) (by k_mem) (by decide) (by decide) (by exact rfl) (by exact rfl) ?_ (by with_unfolding_all rfl)
  | refine item_at (by assumption) (by k_mem) (by decide) (by decide) (by exact rfl) ?_ (by with_unfolding_all rfl))))
local macro_rules | `(tactic| walk_at "subscriptTail Attribute Name Constant ref int") => `(tactic| walk_at "my item")
local macro_rules | `(tactic| walk_at "subscriptTail Subscript Name Constant Constant ref int") => `(tactic| walk_at "my item")
theorem un3 {a n k : Nat} (h : a + 8 * (4 * n + 20) < k) : a + 3 < k := by omega
theorem eq_nil_at {prog : Program} {w : World} {A : Around} {E : Value → Shared → Prop} {s : Shared} {h₀ : Heap} {L D e : Addr} {news : Led} {ys : List Value} {n n2 : Nat} {b : Bool} {Q : Value → Shared → Prop} (N : News h₀ L s.heap news) (m1 : (D, lstO ys n) ∈ news) (m2 : (e, lstO [] n2) ∈ news) (hu : A.units < cLine) (hb : ys.isEmpty = b)
    (h : Q (.bool b) s) : wpAny (model prog w) A (compareOp .Eq (.ref D) (.ref e)) Q E s := by
  subst hb
  cases ys with
  | nil => exact PySem.SeqAt.eq_listAt (e := fun _ => true) (news_list N m1) (news_list N m2) rfl hu (fun j h1 _ => absurd h1 (by simp)) h
  | cons y ys => exact PySem.SeqAt.eq_list_lengthsAt (news_list N m1) (news_list N m2) (by simp) hu h
local macro_rules | `(tactic| walk_at "compareOp Eq ref ref") => `(tactic| (k_dflt (refine eq_nil_at (by k_asm) (by k_mem) (by k_mem) (by (try dsimp +zetaDelta only); simp only [Around.deeper_units]; exact un3 (by assumption)) (by first | exact (rfl : _ = false) | exact (rfl : _ = true) | assumption) ?_)))
local macro_rules | `(tactic| k_mem) => `(tactic| first | exact List.mem_cons_self | assumption | (refine List.mem_cons_of_mem _ ?_; k_mem) | (refine List.mem_append.mpr (.inr ?_); k_mem) | (refine List.mem_append.mpr (.inl ?_); k_mem))
local macro_rules | `(tactic| walk_at "my sub") => `(tactic| (intro q hq; first | exact hq | (simp only [List.mem_cons, List.mem_append, List.not_mem_nil, or_false, false_or] at hq ⊢; grind)))
local macro_rules | `(tactic| walk_at "my steps") => `(tactic| (repeat' (first | (k_unfold; (try dsimp only)) | (walk1 <;> (try (first | (with_reducible show wpAny _ _ (subscriptTail _ (PySem.Expr.Slice _ _ _ _) _ _) _ _ _) | dsimp only))))))
local macro_rules | `(tactic| walk_at "execs cons") => `(tactic| first | ((with_reducible show wpAny _ _ _ _ _ (PySem.Shared.mk _ _ _ (_ + 1 + 1) _)); refine gen_toks ?_; intro tk) | ((try ((with_reducible rename Fr _ _ _ _ => F8); refine fr_let F8 ?_; clear F8; intro m8 F8)); (with_reducible refine wpAny_execs_cons ?_); (try dsimp only); refine let_Q ?_; intro qk))
local macro_rules | `(tactic| walk_at "call ref cons nil") => `(tactic| refine Hold.it ?_)
local macro_rules | `(tactic| walk_at "exec If BoolOp") => `(tactic| refine Hold.it ?_)
local macro_rules | `(tactic| walk_at "eval IfExp Call Attribute") => `(tactic| refine Hold.it ?_)
local macro_rules | `(tactic| walk_at "eval IfExp Call Attribute Attribute") => `(tactic| refine Hold.it ?_)
local macro_rules | `(tactic| walk_at "ite") => `(tactic| first | (refine ite_neg (by first | with_reducible assumption | (simp only [decide_eq_true_eq, beq_iff_eq]; with_reducible assumption)) ?_) | (refine ite_pos (by first | with_reducible assumption | (simp only [decide_eq_true_eq, beq_iff_eq]; with_reducible assumption)) ?_) | (refine ite_neg (by decide) ?_) | (refine ite_pos (by decide) ?_) | refine Hold.it ?_)
local macro_rules | `(tactic| walk_at "my glo") => `(tactic| (refine ⟨?_, rfl, rfl⟩; with_reducible first | exact gn72 _ | exact gn99 _ | exact gn126 _ | exact gn153 _ | exact gn180 _ | exact gn207 _ | exact gn234 _ | exact gn261 _ | exact gn288 _))
local macro_rules | `(tactic| walk_at "my kit") => `(tactic| with_reducible first | exact (kitP _ _).k72 | exact (kitP _ _).k126 | exact (kitP _ _).k153 | exact (kitP _ _).k180 | exact (kitP _ _).k207 | exact (kitP _ _).k234 | exact (kitP _ _).k261 | exact (kitP _ _).k288 | exact (kitP _ _).kTL | exact (kitP _ _).kVA | exact (kitP _ _).kAB | exact (kitP _ _).kALB | exact (kitP _ _).kVWL)
local macro_rules | `(tactic| walk_at "my d") => `(tactic| (k_dflt (exact rfl)))
local macro_rules | `(tactic| walk_at "my j") => `(tactic| (k_whole; intro h' tk' F' N'; (try k_sweep)))
local macro_rules | `(tactic| walk_at "isTrue Call Name cons nil") => `(tactic| (first | ((with_reducible refine isP1 (by k_asm) (by k_asm) (by k_asm) (by k_asm) (by walk_at "my d") (by walk_at "my d") (by assumption) (by k_dflt (walk_at "my glo")) (by walk_at "my kit") (by walk_at "my d") (by walk_at "my d") (by walk_at "my d") (by walk_at "my d") ?_); walk_at "my j") | ((with_reducible refine isP2 (by k_asm) (by k_asm) (by k_asm) (by k_asm) (by walk_at "my d") (by walk_at "my d") (by assumption) (by k_dflt (walk_at "my glo")) (by k_dflt (walk_at "my glo")) (by walk_at "my kit") (by walk_at "my d") (by walk_at "my d") (by walk_at "my d") (by walk_at "my d") ?_); walk_at "my j") | ((with_reducible refine isP3 (by k_asm) (by k_asm) (by k_asm) (by k_asm) (by walk_at "my d") (by walk_at "my d") (by assumption) (by k_dflt (walk_at "my glo")) (by k_dflt (walk_at "my glo")) (by k_dflt (walk_at "my glo")) (by walk_at "my kit") (by walk_at "my d") (by walk_at "my d") (by walk_at "my d") (by walk_at "my d") ?_); walk_at "my j")))
local macro_rules | `(tactic| walk_at "my g") => `(tactic| first | exact fun _ h => h | assumption | (intro q hq; k_mem))
local macro_rules | `(tactic| walk_at "getAttr ref") => `(tactic| (k_dflt (first | ((with_reducible refine gat_pattern (by k_asm) (by k_asm) (by k_asm) (by assumption) (by walk_at "my g") (by assumption) ?_); intro y tk hq) | ((with_reducible refine gat_args (by k_asm) (by k_asm) (by k_asm) (by assumption) (by walk_at "my g") (by assumption) ?_); intro l vs n tk ml hq) | ((with_reducible refine gat_itemsAt (by k_asm) (by k_asm) (by k_asm) (by assumption) (by walk_at "my g") (by assumption) ?_); intro tk) | ((with_reducible refine gat_items (by k_asm) (by k_asm) (by k_asm) (by assumption) (by walk_at "my g") (by assumption) ?_); intro l vs n tk ml hq) | ((with_reducible refine gat_kind (by k_asm) (by k_asm) (by k_asm) (by assumption) (by walk_at "my g") (by assumption) ?_); intro t tk) | ((with_reducible refine gat_value (by k_asm) (by k_asm) (by k_asm) (by assumption) (by walk_at "my g") (by assumption) ?_); intro t tk) | ((with_reducible refine gat_name (by k_asm) (by k_asm) (by k_asm) (by assumption) (by walk_at "my g") (by assumption) ?_); intro t tk))))
local macro_rules | `(tactic| walk_at "my enter") => `(tactic| (refine' code_def ?k1 ?k2 ?k3 ?k4 ?k5 ?kA ?kF ?kK ?k6 ?k7 ?k8 ?k9 ?kB ?_ ?c2 ?c3 ?c4 ?c5; (case kA | kF => exact rfl); (case kK => first | exact rfl | assumption); (case k1 | k2 | k3 | k4 | k5 => k_asm); (case k6 | k7 => k_is); (case k8 => ktr_room); (case k9 => first | exact BindsTo.of_eq rfl | exact binds_K (by k_in) rfl (by k_is) rfl rfl rfl); (case c5 => decide); (case kB => exact locs rfl); (case c2 | c3 | c4 => exact rfl); k_whole; intro g' L' h' FG' F' N' B' X' T'; (try dsimp only); (try k_fold)))
set_option maxHeartbeats 1000000

theorem szL {P q : Pat} {ps : List Pat} (e : P = .lst (q :: ps)) : q.size + Pat.sizes ps + 1 ≤ P.size := by subst e; simp only [Pat.size, Pat.sizes]; omega
theorem szM {P q : Pat} {ps : List Pat} (e : P = .lst (q :: ps)) : (Pat.lst ps).size + 1 ≤ P.size := by subst e; simp only [Pat.size, Pat.sizes]; omega
theorem ftC {P q : Pat} {ps : List Pat} {mm : Str} {y z : Val} (e : P = .lst (q :: ps)) (hn : mm = Str.ofString ":") : fits P (.con mm [y, z]) = (fits q y && fits (.lst ps) z) := by subst e; subst hn; simp [fits, fitsL]
theorem ftN {P q : Pat} {ps : List Pat} {mm : Str} {xs : List Val} (e : P = .lst (q :: ps)) (hn : ¬ mm = Str.ofString ":") : fits P (.con mm xs) = false := by subst e; simp only [fits]; exact fitsL_ne hn
theorem sz1 {a b : Nat} (h : a + 1 ≤ b) : 4 * a + 20 < 4 * b + 20 := by omega
theorem sz2 {dp k a b : Nat} (h : dp + (4 * b + 20) < k) (h2 : a + 1 ≤ b) : dp + 1 + (4 * a + 20) < k := by omega
theorem sz3 {un k a b : Nat} (h : un + 8 * (4 * b + 20) < k) (h2 : a + 1 ≤ b) : un + 3 + 8 * (4 * a + 20) < k := by omega
theorem szq1 {a b c : Nat} (h : a + b + 1 ≤ c) : a + 1 ≤ c := by omega
theorem okL {ps : List Pat} {z : Val} (h : OkL ps z) : Okf (.lst ps) z := by simpa only [Okf] using h
inductive InnEnd (h₀ : Heap) (L : Addr) (m : Str → Option Value) (s : Shared) (R : Led) (ps : List Pat) (v : Value) (s' : Shared) : Prop
  | mk (l : Addr) (vs : List Value) (n : Nat) (h : Heap) (tk : Nat) (e : v = .ref l) (hl : (l, lstO vs n) ∈ R) (hp : PatsIn R vs ps) (es : s' = { s with heap := h, toks := tk }) (F : Fr h₀ L h m) (N : News h₀ L h R)
theorem inn_cut {prog : Program} {w : World} {A : Around} {E : Value → Shared → Prop} {s : Shared} {h₀ : Heap} {L : Addr} {m : Str → Option Value} {t : Sem Value} {R : Led} {Q : Value → Shared → Prop} (ps : List Pat) (_F : Fr h₀ L s.heap m) (_N : News h₀ L s.heap R)
    (h1 : wpAny (model prog w) A t (InnEnd h₀ L m s R ps) E s)
    (h2 : ∀ l vs n h tk, (l, lstO vs n) ∈ R → PatsIn R vs ps → Fr h₀ L h m → News h₀ L h R → Q (.ref l) { s with heap := h, toks := tk }) : wpAny (model prog w) A t Q E s := by
  refine wpAny_mono h1 (fun v s' hq => ?_) fun _ _ e => e
  obtain ⟨l, vs, n, h, tk, rfl, hl, hp, rfl, F, N⟩ := hq
  exact h2 l vs n h tk hl hp F N
inductive TagEnd (h₀ : Heap) (L : Addr) (m : Str → Option Value) (s : Shared) (R : Led) (b : Bool) (v : Bool) (s' : Shared) : Prop
  | mk (h : Heap) (tk : Nat) (e : v = b) (es : s' = { s with heap := h, toks := tk }) (F : Fr h₀ L h m) (N : News h₀ L h R)
theorem tag_cut {prog : Program} {w : World} {A : Around} {E : Value → Shared → Prop} {s : Shared} {h₀ : Heap} {L : Addr} {m : Str → Option Value} {t : Sem Bool} {R : Led} {Q : Bool → Shared → Prop} (b : Bool) (_F : Fr h₀ L s.heap m) (_N : News h₀ L s.heap R)
    (h1 : wpAny (model prog w) A t (TagEnd h₀ L m s R b) E s)
    (h2 : ∀ h tk, Fr h₀ L h m → News h₀ L h R → Q b { s with heap := h, toks := tk }) : wpAny (model prog w) A t Q E s := by
  refine wpAny_mono h1 (fun v s' hq => ?_) fun _ _ e => e
  obtain ⟨h, tk, rfl, rfl, F, N⟩ := hq
  exact h2 h tk F N
theorem inn_tup {P : Pat} {ps : List Pat} (c : oneOf [180] P = true) (e : innP P = some ps) : itemsP P = some ps := by
  cases P <;> first | exact Bool.noConfusion (show false = true from c) | exact e
theorem inn_con {P : Pat} {ps : List Pat} (c : ¬ oneOf [180] P = true) (e : innP P = some ps) : argsP P = some ps := by
  cases P <;> first | exact absurd rfl c | exact e
theorem tag_con {P : Pat} (c : oneOf [153] P = true) : ∃ nm, nameP P = some nm ∧ ∀ mm, tagB P mm = (nm != mm) := by
  cases P <;> first | exact Bool.noConfusion (show false = true from c) | exact ⟨_, rfl, fun _ => rfl⟩
theorem tag_no {P : Pat} (c : ¬ oneOf [153] P = true) (mm : Str) : tagB P mm = false := by
  cases P <;> first | exact absurd rfl c | rfl
theorem small_ps {dp n : Nat} {ps : List Pat} (h : dp + (4 * n + 20) < recursionLimit) (h2 : Pat.sizes ps ≤ n) : ps.length ≤ 1000 := by have := sizes_len ps; have := recLim; omega
theorem fr_form2 {g h : Heap} {L : Addr} {m : Str → Option Value} {a b : Str} {v u : Value} (F : Fr g L h m) (e : m a = some v) (e2 : m b = some u) : ∃ mf : Str → Option Value, Fr g L h (fun y => if y = a then some v else if y = b then some u else mf y) :=
  ⟨m, by have q : (fun y => if y = a then some v else if y = b then some u else m y) = m := funext fun y => by by_cases e3 : y = a <;> by_cases e4 : y = b <;> simp_all
         rw [q]; exact F⟩
set_option maxHeartbeats 4000000
theorem fits_tells (w : World) (loose mean mg mb) : ∀ d, TellsN PySem.Challenge.rw_og0007_01.row.prog w (hd.heap_39 w.params) hd.view_39 loose mean mg mb 472 fitsT d := by
  refine tellsN_of fun d IH => ?_
  obtain ⟨P, V⟩ := d
  w_on
  unfold TellsN
  k_fill
  intro dp un gd cn cs a ccd cl outer A₀ base h₀ L m news s vs Q E B F X N T hk hR hok hd hu hret
  obtain ⟨p, v, rfl, hp, hv⟩ := hR
  simp only at hp hv hret hd hu hok ⊢
  obtain ⟨x, _, _, rfl, _, _⟩ := hp.inst
  refine wpAny_call ?_
  k_dflt (walk_at "my enter")
  rename Fr _ _ _ fun y => _ => Fe
  obtain ⟨mf, Fe2⟩ := fr_form2 (a := Str.ofString "pattern_one") (b := Str.ofString "worth_one") (v := .ref x) (u := v) Fe rfl rfl
  clear Fe
  refine anyE fun E0 => ?_
  refine let_A ?_
  intro A9
  try (refine let_env ?_; intro e9)
  w_strict (walk_at "my steps")
  refine ⟨?_⟩
  by_cases c1 : oneOf [72, 99, 261] P = true
  · refine ite_pos c1 ?_
    w_strict (walk_at "my steps")
    exact hret _ [] _ _ (by k_asm) (by rw [List.append_nil]; k_asm) ktn_ord0 rfl (congrArg Value.bool (ft1 V c1).symm)
  refine ite_neg c1 ?_
  w_strict (walk_at "my steps")
  refine ⟨?_⟩
  by_cases c2 : oneOf [234, 288] P = true
  · refine ite_pos c2 ?_
    obtain ⟨q, eq, ef, ok, sz⟩ := ft2 hok c2
    w_strict (walk_at "my steps")
    refine ⟨?_⟩
    rename PatIn _ _ q => hq1
    refine tellsN_use (c := fitsT) (d := (q, V)) (by k_asm) (by k_asm) (by k_asm) (by k_asm) (by k_asm) rfl ⟨_, _, rfl, hq1, hv⟩ (IH _ ?lt) ?ok ?hd ?hu ?ret
    case ok => exact ok
    case lt => show 4 * q.size + 20 < 4 * P.size + 20; omega
    case hd => show dp + 1 + (4 * q.size + 20) < _; omega
    case hu => show un + 3 + 8 * (4 * q.size + 20) < _; omega
    case ret =>
    intro r9 tl9 h9 tk9 F9 N9 hl9 ht9 ho9
    obtain rfl : r9 = .bool (fits P V) := by rw [ef]; exact ho9
    obtain rfl : tl9 = [] := ht9
    rw [List.append_nil] at N9
    w_strict (walk_at "my steps")
    exact hret _ [] _ _ (by k_asm) (by rw [List.append_nil]; k_asm) ktn_ord0 rfl rfl
  refine ite_neg c2 ?_
  w_strict (walk_at "my steps")
  refine ⟨?_⟩
  by_cases c3 : oneOf [126] P = true
  · refine ite_pos c3 ?_
    obtain ⟨i, j, ei, rfl, ef⟩ := ft3 hok c3
    cases hv
    w_strict (walk_at "my steps")
    exact hret _ [] _ _ (by k_asm) (by rw [List.append_nil]; k_asm) ktn_ord0 rfl (congrArg Value.bool (by first | exact ef.symm | (rw [ef]; rfl)))
  refine ite_neg c3 ?_
  w_strict (walk_at "my steps")
  refine ⟨?_⟩
  by_cases c4 : oneOf [207] P = true
  · refine ite_pos c4 ?_
    cases ft4 hok c4 with
    | nil mm xs ei ev ef =>
      subst ev
      cases hv with
      | con ha hal hvs =>
      obtain ⟨l9, n9, hI9, ml9⟩ := items_nil (w := w) hp ei
      clear ei
      w_strict (walk_at "my steps")
      exact hret _ [] _ _ (by k_asm) (by rw [List.append_nil]; exact news_sub (by k_asm) fun q hq => by k_mem) ktn_ord0 rfl (congrArg Value.bool ef.symm)
    | cons q ps mm xs ep ei ev ok =>
      subst ev
      cases hv with
      | con ha hal hvs =>
      obtain ⟨l9, v9, vs9, n9, hI9, ml9, hp1, hps⟩ := items_cons (w := w) hp ei
      clear ei
      have szq := szL ep
      have hzz : vs9.length ≤ 1000 := Nat.le_trans (Nat.le_of_eq hps.length) (small_ps hd (Nat.le_trans (Nat.le_add_left _ _) (Nat.le_trans (Nat.le_succ _) szq)))
      w_strict (walk_at "my steps")
      refine ⟨?_⟩
      rename Addr => D2
      refine mk_plist w loose mean mg mb _ _ _ _ _ _ _ _ _ _ _ _ _ _ _ _ _ _ (by k_asm) (by k_asm) (by k_asm) (by k_asm) (by k_asm) rfl _ ?hin ?huu ?hmk
      case hin => show dp + 1 + 10 < _; omega
      case huu => show un + 3 + 64 < _; omega
      case hmk =>
      intro x1 d1 k1 t5 e1 t6 e2 g1 tk1 F1 N1 o1 o2
      w_strict (walk_at "my steps")
      refine ⟨?_⟩
      by_cases hn : mm = Str.ofString ":"
      · obtain ⟨y, z, rfl, hy, hz⟩ := ok hn
        refine ite_pos (beq_iff_eq.mpr hn) ?_
        cases hvs with
        | cons hv1 hvs =>
        cases hvs with
        | cons hv2 hvs =>
        cases hvs
        w_strict (walk_at "my steps")
        refine ⟨?_⟩
        refine tellsN_use (c := fitsT) (d := (q, y)) (by k_asm) (by k_asm) (by k_asm) (by k_asm) (by k_asm) rfl ⟨_, _, rfl, hp1.mono fun q hq => by k_mem, hv1.mono fun q hq => by k_mem⟩ (IH _ ?lt) ?ok ?hd ?hu ?ret
        case ok => exact hy
        case lt => exact sz1 (szq1 szq)
        case hd => exact sz2 hd (szq1 szq)
        case hu => exact sz3 hu (szq1 szq)
        case ret =>
        intro r9 tl9 h9 tk9 F9 N9 hl9 ht9 ho9
        obtain rfl : r9 = .bool (fits q y) := ho9
        obtain rfl : tl9 = [] := ht9
        rw [List.append_nil] at N9
        clear hl9
        w_strict (walk_at "my steps")
        refine ⟨?_⟩
        by_cases cf : fits q y = true
        · refine ite_pos cf ?_
          w_strict (walk_at "my steps")
          refine ⟨?_⟩
          refine tellsN_use (c := fitsT) (d := (.lst ps, z)) (by k_asm) (by k_asm) (by k_asm) (by k_asm) (by k_asm) rfl ⟨_, _, rfl, .lst (by k_mem) (by k_mem) (by k_mem) (hps.mono fun q hq => by k_mem), hv2.mono fun q hq => by k_mem⟩ (IH _ ?lt) ?ok ?hd ?hu ?ret
          case ok => exact okL hz
          case lt => exact sz1 (szM ep)
          case hd => exact sz2 hd (szM ep)
          case hu => exact sz3 hu (szM ep)
          case ret =>
          intro r8 tl8 h8 tk8 F8 N8 hl8 ht8 ho8
          obtain rfl : r8 = .bool (fits (.lst ps) z) := ho8
          obtain rfl : tl8 = [] := ht8
          rw [List.append_nil] at N8
          clear hl8
          w_strict (walk_at "my steps")
          exact hret _ [] _ _ (by k_asm) (by rw [List.append_nil]; exact news_sub (by k_asm) fun q hq => by k_mem) ktn_ord0 rfl (congrArg Value.bool (by rw [ftC ep hn, cf, Bool.true_and]))
        · refine ite_neg cf ?_
          w_strict (walk_at "my steps")
          exact hret _ [] _ _ (by k_asm) (by rw [List.append_nil]; exact news_sub (by k_asm) fun q hq => by k_mem) ktn_ord0 rfl (congrArg Value.bool (by rw [ftC ep hn, Bool.eq_false_iff.mpr cf, Bool.false_and]))
      · refine ite_neg (fun e => hn (beq_iff_eq.mp e)) ?_
        w_strict (walk_at "my steps")
        exact hret _ [] _ _ (by k_asm) (by rw [List.append_nil]; exact news_sub (by k_asm) fun q hq => by k_mem) ktn_ord0 rfl (congrArg Value.bool (by rw [ftN ep hn]; exact beq_eq_false_iff_ne.mpr hn))
  refine ite_neg c4 ?_
  obtain ⟨ps, mm, xs, rfl, ei, ef, ok, sz⟩ := ft5 hok c1 c2 c3 c4
  cases hv with
  | con ha hal hvs =>
  w_strict (walk_at "my steps")
  refine ⟨?_⟩
  refine inn_cut ps (by k_asm) (by k_asm) ?t ?g
  case t =>
    refine IfExp_ ?_
    w_strict (walk_at "my steps")
    refine ⟨?_⟩
    by_cases c5 : oneOf [180] P = true
    · refine ite_pos c5 ?_
      have ei5 := inn_tup c5 ei
      w_strict (walk_at "my steps")
      exact ⟨_, _, _, _, _, rfl, by assumption, by assumption, rfl, by k_asm, by k_asm⟩
    · refine ite_neg c5 ?_
      have ei5 := inn_con c5 ei
      w_strict (walk_at "my steps")
      exact ⟨_, _, _, _, _, rfl, by assumption, by assumption, rfl, by k_asm, by k_asm⟩
  case g =>
  intro l5 vs5 n5 h5 tk5 ml5 hps F5 N5
  w_strict (walk_at "my steps")
  refine ⟨?_⟩
  refine wpAny_If ?_
  refine tag_cut (tagB P mm) (by k_asm) (by k_asm) ?t ?g
  case t =>
    w_strict (walk_at "my steps")
    refine ⟨?_⟩
    by_cases c5 : oneOf [153] P = true
    · refine ite_pos c5 ?_
      obtain ⟨nm, en, et⟩ := tag_con c5
      w_strict (walk_at "my steps")
      refine ⟨?_⟩
      by_cases cm : (nm != mm) = true
      · refine ite_pos cm ?_
        w_strict (walk_at "my steps")
        exact ⟨_, _, by rw [et, cm], rfl, by k_asm, by k_asm⟩
      · refine ite_neg cm ?_
        w_strict (walk_at "my steps")
        exact ⟨_, _, by rw [et, Bool.eq_false_iff.mpr cm], rfl, by k_asm, by k_asm⟩
    · refine ite_neg c5 ?_
      w_strict (walk_at "my steps")
      exact ⟨_, _, (tag_no c5 mm).symm, rfl, by k_asm, by k_asm⟩
  case g =>
  intro h6 tk6 F6 N6
  by_cases ct : tagB P mm = true
  · refine ite_pos ct ?_
    w_strict (walk_at "my steps")
    exact hret _ [] _ _ (by k_asm) (by rw [List.append_nil]; k_asm) ktn_ord0 rfl (congrArg Value.bool (by rw [ef, ct]; rfl))
  refine ite_neg ct ?_
  have ct' : tagB P mm = false := Bool.eq_false_iff.mpr ct
  have okz := ok ct'
  rw [ct'] at ef
  w_strict (walk_at "my steps")
  refine comp_zip (b := fun i => !(fits (ps.getD i .wild) (xs.getD i (.int 0)))) rfl rfl rfl rfl (by decide) (by k_asm) (by k_asm) ml5 hal (by rw [hps.length]; exact small_ps hd (Nat.le_trans (Nat.le_succ _) sz)) ?stp ?dn
  case stp =>
    intro i v v' own C oC mC h tk E' e1 e2 hoC hx1 hx2 F' N'
    obtain ⟨q, eq, hq⟩ := hps.at e1
    obtain ⟨y, ey, hy⟩ := hvs.at e2
    have hsz := Nat.le_trans (Nat.succ_le_succ (sizes_at eq)) sz
    w_strict (walk_at "my steps")
    refine ⟨?_⟩
    refine tellsN_use (c := fitsT) (d := (q, y)) (by k_asm) (by k_asm) (by k_asm) (by k_asm) (by k_asm) rfl ⟨_, _, rfl, hq.mono fun q hq => by k_mem, hy.mono fun q hq => by k_mem⟩ (IH _ ?lt) ?ok ?hd ?hu ?ret
    case ok => exact okz.at eq ey
    case lt => exact sz1 hsz
    case hd => exact sz2 hd hsz
    case hu => exact sz3 hu hsz
    case ret =>
    intro r9 tl9 h9 tk9 F9 N9 hl9 ht9 ho9
    obtain rfl : r9 = .bool (fits q y) := ho9
    obtain rfl : tl9 = [] := ht9
    rw [List.append_nil] at N9
    clear hl9
    w_strict (walk_at "my steps")
    all_goals first | assumption | (simp only [List.getD, eq, ey, Option.getD_some]; done)
  case dn =>
    intro D ys k h tk F' N' hys hI
    rw [hps.length, hvs.length] at hys
    have hfz : ys.isEmpty = fitsZ ps xs := by rw [fitsZ_count, ← hys]; cases ys <;> simp
    w_strict (walk_at "my steps")
    exact hret _ [] _ _ (by k_asm) (by rw [List.append_nil]; exact news_sub (by k_asm) fun q hq => by k_mem) ktn_ord0 rfl (congrArg Value.bool (by rw [ef, Bool.not_false, Bool.true_and]))
end FitsText
section ParText
set_option hygiene false
def partsP : Pat → List Pat
  | .con _ ps => ps | .tup ps => ps | .lst ps => ps | .as_ _ p => [p] | .lazy p => [p] | .bang p => [p] | _ => []
inductive Pa1 (P : Pat) : Prop
  | mk (ps : List Pat) (e : argsP P = some ps) (e2 : partsP P = ps)
theorem pa1 {P : Pat} (c : oneOf [153] P = true) : Pa1 P := by
  cases P <;> first | exact Bool.noConfusion (show false = true from c) | exact ⟨_, rfl, rfl⟩
inductive Pa2 (P : Pat) : Prop
  | mk (ps : List Pat) (e : itemsP P = some ps) (e2 : partsP P = ps)
theorem pa2 {P : Pat} (c : oneOf [180, 207] P = true) : Pa2 P := by
  cases P <;> first | exact Bool.noConfusion (show false = true from c) | exact ⟨_, rfl, rfl⟩
inductive Pa3 (P : Pat) : Prop
  | mk (q : Pat) (e : subP P = some q) (e2 : partsP P = [q])
theorem pa3 {P : Pat} (c : oneOf [234, 261, 288] P = true) : Pa3 P := by
  cases P <;> first | exact Bool.noConfusion (show false = true from c) | exact ⟨_, rfl, rfl⟩
theorem pa4 {P : Pat} (c1 : ¬ oneOf [153] P = true) (c2 : ¬ oneOf [180, 207] P = true) (c3 : ¬ oneOf [234, 261, 288] P = true) : partsP P = [] := by
  cases P <;> first | rfl | exact absurd rfl c1 | exact absurd rfl c2 | exact absurd rfl c3
local macro_rules | `(tactic| walk_at "my pr") => `(tactic| with_reducible first | assumption | exact And.left (by assumption) | exact And.left (And.right (by assumption)) | exact And.left (And.right (And.right (by assumption))) | exact And.left (And.right (And.right (And.right (by assumption)))) | exact And.left (And.right (And.right (And.right (And.right (by assumption))))) | exact And.left (And.right (And.right (And.right (And.right (And.right (by assumption)))))))
local macro_rules | `(tactic| k_ne) => `(tactic| first | exact neN (Nat.ne_of_lt (by walk_at "my pr")) | exact neN (Nat.ne_of_gt (by walk_at "my pr")) | (refine neN ?_; (try dsimp only); omega))
local macro_rules | `(tactic| k_mem) => `(tactic| first | exact List.mem_cons_self | assumption | (refine List.mem_cons_of_mem _ ?_; k_mem) | (refine List.mem_append.mpr (.inr ?_); k_mem) | (refine List.mem_append.mpr (.inl ?_); k_mem))
local macro_rules | `(tactic| walk_at "my sub") => `(tactic| (intro q hq; first | exact hq | (simp only [List.mem_cons, List.mem_append, List.not_mem_nil, or_false, false_or] at hq ⊢; grind)))
local macro_rules | `(tactic| walk_at "my steps") => `(tactic| (repeat' (first | (k_unfold; (try dsimp only)) | (walk1 <;> (try dsimp only)))))
local macro_rules | `(tactic| walk_at "execs cons") => `(tactic| first | ((with_reducible show wpAny _ _ _ _ _ (PySem.Shared.mk _ _ _ (_ + 1 + 1) _)); refine gen_toks ?_; intro tk) | ((try ((with_reducible rename Fr _ _ _ _ => F8); refine fr_let F8 ?_; clear F8; intro m8 F8)); (with_reducible refine wpAny_execs_cons ?_); (try dsimp only); refine let_Q ?_; intro qk))
local macro_rules | `(tactic| walk_at "call ref cons nil") => `(tactic| refine Hold.it ?_)
local macro_rules | `(tactic| walk_at "ite") => `(tactic| first | (refine ite_neg (by first | with_reducible assumption | (simp only [decide_eq_true_eq, beq_iff_eq]; with_reducible assumption)) ?_) | (refine ite_pos (by first | with_reducible assumption | (simp only [decide_eq_true_eq, beq_iff_eq]; with_reducible assumption)) ?_) | (refine ite_neg (by decide) ?_) | (refine ite_pos (by decide) ?_) | refine Hold.it ?_)
local macro_rules | `(tactic| walk_at "my glo") => `(tactic| (refine ⟨?_, rfl, rfl⟩; with_reducible first | exact gn72 _ | exact gn99 _ | exact gn126 _ | exact gn153 _ | exact gn180 _ | exact gn207 _ | exact gn234 _ | exact gn261 _ | exact gn288 _))
local macro_rules | `(tactic| walk_at "my kit") => `(tactic| with_reducible first | exact (kitP _ _).k72 | exact (kitP _ _).k126 | exact (kitP _ _).k153 | exact (kitP _ _).k180 | exact (kitP _ _).k207 | exact (kitP _ _).k234 | exact (kitP _ _).k261 | exact (kitP _ _).k288 | exact (kitP _ _).kTL | exact (kitP _ _).kVA | exact (kitP _ _).kAB | exact (kitP _ _).kALB | exact (kitP _ _).kVWL)
local macro_rules | `(tactic| walk_at "my d") => `(tactic| (k_dflt (exact rfl)))
local macro_rules | `(tactic| walk_at "my j") => `(tactic| (k_whole; intro h' tk' F' N'; (try k_sweep)))
local macro_rules | `(tactic| walk_at "isTrue Call Name cons nil") => `(tactic| (first | ((with_reducible refine isP1 (by k_asm) (by k_asm) (by k_asm) (by k_asm) (by walk_at "my d") (by walk_at "my d") (by assumption) (by k_dflt (walk_at "my glo")) (by walk_at "my kit") (by walk_at "my d") (by walk_at "my d") (by walk_at "my d") (by walk_at "my d") ?_); walk_at "my j") | ((with_reducible refine isP2 (by k_asm) (by k_asm) (by k_asm) (by k_asm) (by walk_at "my d") (by walk_at "my d") (by assumption) (by k_dflt (walk_at "my glo")) (by k_dflt (walk_at "my glo")) (by walk_at "my kit") (by walk_at "my d") (by walk_at "my d") (by walk_at "my d") (by walk_at "my d") ?_); walk_at "my j") | ((with_reducible refine isP3 (by k_asm) (by k_asm) (by k_asm) (by k_asm) (by walk_at "my d") (by walk_at "my d") (by assumption) (by k_dflt (walk_at "my glo")) (by k_dflt (walk_at "my glo")) (by k_dflt (walk_at "my glo")) (by walk_at "my kit") (by walk_at "my d") (by walk_at "my d") (by walk_at "my d") (by walk_at "my d") ?_); walk_at "my j")))
local macro_rules | `(tactic| walk_at "my g") => `(tactic| first | exact fun _ h => h | assumption | (intro q hq; k_mem))
local macro_rules | `(tactic| walk_at "getAttr ref") => `(tactic| (k_dflt (first | ((with_reducible refine gat_pattern (by k_asm) (by k_asm) (by k_asm) (by assumption) (by walk_at "my g") (by assumption) ?_); intro y tk hq) | ((with_reducible refine gat_args (by k_asm) (by k_asm) (by k_asm) (by assumption) (by walk_at "my g") (by assumption) ?_); intro l vs n tk ml hq) | ((with_reducible refine gat_itemsAt (by k_asm) (by k_asm) (by k_asm) (by assumption) (by walk_at "my g") (by assumption) ?_); intro tk) | ((with_reducible refine gat_items (by k_asm) (by k_asm) (by k_asm) (by assumption) (by walk_at "my g") (by assumption) ?_); intro l vs n tk ml hq) | ((with_reducible refine gat_kind (by k_asm) (by k_asm) (by k_asm) (by assumption) (by walk_at "my g") (by assumption) ?_); intro t tk) | ((with_reducible refine gat_value (by k_asm) (by k_asm) (by k_asm) (by assumption) (by walk_at "my g") (by assumption) ?_); intro t tk) | ((with_reducible refine gat_name (by k_asm) (by k_asm) (by k_asm) (by assumption) (by walk_at "my g") (by assumption) ?_); intro t tk))))
local macro_rules | `(tactic| walk_at "my enter") => `(tactic| (refine' code_def ?k1 ?k2 ?k3 ?k4 ?k5 ?kA ?kF ?kK ?k6 ?k7 ?k8 ?k9 ?kB ?_ ?c2 ?c3 ?c4 ?c5; (case kA | kF => exact rfl); (case kK => first | exact rfl | assumption); (case k1 | k2 | k3 | k4 | k5 => k_asm); (case k6 | k7 => k_is); (case k8 => ktr_room); (case k9 => first | exact BindsTo.of_eq rfl | exact binds_K (by k_in) rfl (by k_is) rfl rfl rfl); (case c5 => decide); (case kB => exact locs rfl); (case c2 | c3 | c4 => exact rfl); k_whole; intro g' L' h' FG' F' N' B' X' T'; (try dsimp only); (try k_fold)))
set_option maxHeartbeats 1000000
theorem par_use (w : World) (loose mean mg mb) (dp un : Nat) (gd : Option (List Code)) (cn : Str) (cs : Scope) (a : Addr) (ccd : Value) (cl : List (Str × Addr)) (outer : List Env) (A₀ : Around) (base h₀ : Heap) (L : Addr) (m : Str → Option Value) (news : Led) (s : Shared) (Q E : Value → Shared → Prop)
    (B : Below A₀ base outer h₀) (F : Fr h₀ L s.heap m) (X : (hd.heap_39 w.params).In h₀) (N : News h₀ L s.heap news) (T : Top hd.view_39 loose mean mg mb h₀) (hk : cs.kind = .function) {x : Addr} {P : Pat} (hp : PatIn news (.ref x) P)
    (hin : dp + 10 < recursionLimit) (hu : un + 64 < cLine)
    (hret : ∀ l ws n tl h' tk', Fr h₀ L h' m → News h₀ L h' (news ++ tl) → (∀ q ∈ news, ∀ p ∈ tl, q.1 ≠ p.1) → (l, lstO ws n) ∈ news ++ tl → PatsIn (news ++ tl) ws (partsP P) → Q (.ref l) { s with heap := h', toks := tk' }) :
    wpAny (model PySem.Challenge.rw_og0007_01.row.prog w) (ktrTop dp un gd cn cs L a ccd cl outer) (call (.ref 333) [.ref x]) Q E s := by
  w_on
  revert X
  k_fill
  intro X
  refine wpAny_call ?_
  k_dflt (walk_at "my enter")
  rename Fr _ _ _ fun y => _ => Fe
  obtain ⟨mf, Fe2⟩ := fr_form1 (a := Str.ofString "pattern") (v := .ref x) Fe rfl
  clear Fe
  refine anyE fun E0 => ?_
  refine let_A ?_
  intro A9
  try (refine let_env ?_; intro e9)
  w_strict (walk_at "my steps")
  refine ⟨?_⟩
  by_cases c1 : oneOf [153] P = true
  · refine ite_pos c1 ?_
    obtain ⟨ps, ea, e2⟩ := pa1 c1
    w_strict (walk_at "my steps")
    rename PatsIn _ _ ps => hq
    rename (_, _) ∈ news => ml
    exact hret _ _ _ [] _ _ (by k_asm) (by rw [List.append_nil]; k_asm) apart_nil (by rw [List.append_nil]; exact ml) (by rw [List.append_nil, e2]; exact hq)
  refine ite_neg c1 ?_
  w_strict (walk_at "my steps")
  refine ⟨?_⟩
  by_cases c2 : oneOf [180, 207] P = true
  · refine ite_pos c2 ?_
    obtain ⟨ps, ea, e2⟩ := pa2 c2
    w_strict (walk_at "my steps")
    rename PatsIn _ _ ps => hq
    rename (_, _) ∈ news => ml
    exact hret _ _ _ [] _ _ (by k_asm) (by rw [List.append_nil]; k_asm) apart_nil (by rw [List.append_nil]; exact ml) (by rw [List.append_nil, e2]; exact hq)
  refine ite_neg c2 ?_
  w_strict (walk_at "my steps")
  refine ⟨?_⟩
  by_cases c3 : oneOf [234, 261, 288] P = true
  · refine ite_pos c3 ?_
    obtain ⟨q, ea, e2⟩ := pa3 c3
    w_strict (walk_at "my steps")
    rename PatIn _ _ q => hq
    rename ∀ p ∈ news, _ => hl
    exact hret _ [_] _ [_] _ _ (by k_asm) (news_snoc (by k_asm)) (apart_new hl) (List.mem_append.mpr (.inr List.mem_cons_self)) (by rw [e2]; exact .cons (hq.mono fun q hq => List.mem_append.mpr (.inl hq)) .nil)
  refine ite_neg c3 ?_
  w_strict (walk_at "my steps")
  rename ∀ p ∈ news, _ => hl
  exact hret _ [] _ [_] _ _ (by k_asm) (news_snoc (by k_asm)) (apart_new hl) (List.mem_append.mpr (.inr List.mem_cons_self)) (by rw [pa4 c1 c2 c3]; exact .nil)
end ParText
section VarsText
set_option hygiene false

mutual
def vars : Pat → List Str
  | .wild => [] | .var n => [n] | .lit _ => []
  | .con _ ps => varsZ ps | .tup ps => varsZ ps | .lst ps => varsZ ps
  | .as_ n p => n :: vars p | .lazy p => vars p | .bang p => vars p
def varsZ : List Pat → List Str
  | [] => []
  | p :: ps => vars p ++ varsZ ps
end
mutual
theorem vars_len : ∀ p : Pat, (vars p).length ≤ p.size
  | .wild => by simp [vars] | .var _ => by simp [vars, Pat.size] | .lit _ => by simp [vars]
  | .con _ ps => by have := varsZ_len ps; simp only [vars, Pat.size]; omega
  | .tup ps => by have := varsZ_len ps; simp only [vars, Pat.size]; omega
  | .lst ps => by have := varsZ_len ps; simp only [vars, Pat.size]; omega
  | .as_ _ p => by have := vars_len p; simp only [vars, Pat.size, List.length_cons]; omega
  | .lazy p => by have := vars_len p; simp only [vars, Pat.size]; omega
  | .bang p => by have := vars_len p; simp only [vars, Pat.size]; omega
theorem varsZ_len : ∀ ps : List Pat, (varsZ ps).length ≤ Pat.sizes ps
  | [] => by simp [varsZ]
  | p :: ps => by have := vars_len p; have := varsZ_len ps; simp only [varsZ, Pat.sizes, List.length_append]; omega
end
theorem varsZ_take : ∀ {ps : List Pat} {i : Nat} {p : Pat}, ps[i]? = some p → varsZ (ps.take (i + 1)) = varsZ (ps.take i) ++ vars p
  | [], _, _, e => by simp at e
  | q :: ps, 0, p, e => by simp at e; subst e; simp [varsZ]
  | q :: ps, i + 1, p, e => by
    have := varsZ_take (ps := ps) (i := i) (p := p) (by simpa using e)
    rw [List.take_succ_cons, List.take_succ_cons, varsZ, varsZ, this, List.append_assoc]
theorem varsZ_take_len : ∀ (ps : List Pat) (i : Nat), (varsZ (ps.take i)).length ≤ (varsZ ps).length
  | [], _ => by simp [varsZ]
  | q :: ps, 0 => by simp [varsZ]
  | q :: ps, i + 1 => by have := varsZ_take_len ps i; rw [List.take_succ_cons, varsZ, varsZ, List.length_append, List.length_append]; omega
theorem strs_app {a b : List Value} {x y : List Str} (h : StrsAre a x) (k : StrsAre b y) : StrsAre (a ++ b) (x ++ y) := by
  induction h with
  | nil => exact k
  | cons n t r ih => exact .cons n t ih
theorem strs_len {a : List Value} {x : List Str} (h : StrsAre a x) : a.length = x.length := by
  induction h with
  | nil => rfl
  | cons n t r ih => exact congrArg (· + 1) ih


inductive VOut (tl : Led) (r : Value) (P : Pat) : Prop
  | mk (l : Addr) (ws : List Value) (n : Nat) (e : r = .ref l) (m : (l, lstO ws n) ∈ tl) (hs : StrsAre ws (vars P))
abbrev varsT : Told Pat where
  Rel := POne
  size := fun d => 4 * d.size + 20
  Out := fun _ tl r d => VOut tl r d
def ownV : Pat → List Str
  | .var n => [n] | .as_ n _ => [n] | _ => []
theorem vars_parts (P : Pat) : vars P = ownV P ++ varsZ (partsP P) := by cases P <;> first | rfl | exact (List.append_nil _).symm | exact congrArg (List.cons _) (List.append_nil _).symm
inductive Va1 (P : Pat) : Prop
  | mk (n : Str) (e : nameP P = some n) (e2 : ownV P = [n])
theorem va1 {P : Pat} (c : oneOf [72, 234] P = true) : Va1 P := by
  cases P <;> first | exact Bool.noConfusion (show false = true from c) | exact ⟨_, rfl, rfl⟩
theorem va2 {P : Pat} (c : ¬ oneOf [72, 234] P = true) : ownV P = [] := by
  cases P <;> first | rfl | exact absurd rfl c
theorem parts_at {P q : Pat} {i : Nat} (e : (partsP P)[i]? = some q) : q.size + 1 ≤ P.size := by
  cases P <;> simp only [partsP] at e
  case con n ps => have := sizes_at e; simp only [Pat.size]; omega
  case tup ps => have := sizes_at e; simp only [Pat.size]; omega
  case lst ps => have := sizes_at e; simp only [Pat.size]; omega
  case as_ n p => match i, e with | 0, e => simp at e; subst e; exact Nat.le_refl _
  case lazy p => match i, e with | 0, e => simp at e; subst e; exact Nat.le_refl _
  case bang p => match i, e with | 0, e => simp at e; subst e; exact Nat.le_refl _
  all_goals simp at e
inductive VJ1 (news : Led) (P : Pat) (i : Nat) (m : Str → Option Value) (full : Led) : Prop
  | mk (lf : Addr) (wf : List Value) (nf : Nat) (mf : Str → Option Value) (e : m = fun y => if y = Str.ofString "found" then some (.ref lf) else mf y) (ml : (lf, lstO wf nf) ∈ full) (ap : ∀ q ∈ news, @Ne Nat q.1 lf) (hs : StrsAre wf (ownV P ++ varsZ ((partsP P).take i)))
theorem anyEP {α : Type} {M : Model} {A : Around} {env : Env} {t : Sem α} {Q : α → Shared → Prop} {E : Value → Shared → Prop} {s : Shared} (hE : PassesOwn M A env E) (h : ∀ E', PassesOwn M A env E' → wpAny M A t Q E' s) : wpAny M A t Q E s := h E hE
inductive ListEnd (h₀ : Heap) (L : Addr) (m : Str → Option Value) (news : Led) (s : Shared) (ns : List Str) (v : Value) (s' : Shared) : Prop
  | mk' (lf : Addr) (wf : List Value) (nf : Nat) (h : Heap) (tk : Nat) (e : v = .ref lf) (e2 : s' = { s with heap := h, toks := tk }) (F : Fr h₀ L h m) (N : News h₀ L h ((lf, lstO wf nf) :: news)) (l : ∀ q ∈ news, q.1 < lf) (hs : StrsAre wf ns)
theorem ListEnd.mk {h₀ h : Heap} {L lf : Addr} {m : Str → Option Value} {news : Led} {s : Shared} {ns : List Str} {wf : List Value} {nf tk : Nat} (F : Fr h₀ L h m) (N : News h₀ L h ((lf, lstO wf nf) :: news)) (l : ∀ q ∈ news, q.1 < lf) (hs : StrsAre wf ns) : ListEnd h₀ L m news s ns (.ref lf) { s with heap := h, toks := tk } := ⟨_, _, _, _, _, rfl, rfl, F, N, l, hs⟩
theorem list_cut {prog : Program} {w : World} {A : Around} {E : Value → Shared → Prop} {s : Shared} {h₀ : Heap} {L : Addr} {m : Str → Option Value} {t : Sem Value} {news : Led} {Q : Value → Shared → Prop} (_F : Fr h₀ L s.heap m) (_N : News h₀ L s.heap news) (ns : List Str)
    (h1 : wpAny (model prog w) A t (ListEnd h₀ L m news s ns) E s)
    (h2 : ∀ lf wf nf h tk, Fr h₀ L h m → News h₀ L h ((lf, lstO wf nf) :: news) → (∀ q ∈ news, q.1 < lf) → StrsAre wf ns → Q (.ref lf) { s with heap := h, toks := tk }) : wpAny (model prog w) A t Q E s := by
  refine wpAny_mono h1 (fun v s' hq => ?_) fun _ _ e => e
  obtain ⟨lf, wf, nf, h, tk, rfl, rfl, F, N, l, hs⟩ := hq
  exact h2 lf wf nf h tk F N l hs
theorem m_formF {m : Str → Option Value} {a : Str} {v : Value} (h1 : m a = some v) : ∃ mf : Str → Option Value, m = fun y => if y = a then some v else mf y :=
  ⟨m, funext fun y => by by_cases e : y = a <;> simp [e, h1]⟩
local macro_rules | `(tactic| walk_at "my pr") => `(tactic| with_reducible first | assumption | exact And.left (by assumption) | exact And.left (And.right (by assumption)) | exact And.left (And.right (And.right (by assumption))) | exact And.left (And.right (And.right (And.right (by assumption)))) | exact And.left (And.right (And.right (And.right (And.right (by assumption))))) | exact And.left (And.right (And.right (And.right (And.right (And.right (by assumption)))))))
local macro_rules | `(tactic| k_ne) => `(tactic| first | exact neN (Nat.ne_of_lt (by walk_at "my pr")) | exact neN (Nat.ne_of_gt (by walk_at "my pr")) | (refine neN ?_; (try dsimp only); omega))
local macro_rules | `(tactic| k_mem) => `(tactic| first | exact List.mem_cons_self | assumption | (refine List.mem_cons_of_mem _ ?_; k_mem) | (refine List.mem_append.mpr (.inr ?_); k_mem) | (refine List.mem_append.mpr (.inl ?_); k_mem))
local macro_rules | `(tactic| walk_at "my sub") => `(tactic| (intro q hq; first | exact hq | (simp only [List.mem_cons, List.mem_append, List.not_mem_nil, or_false, false_or] at hq ⊢; grind)))
local macro_rules | `(tactic| walk_at "my steps") => `(tactic| (repeat' (first | (k_unfold; (try dsimp only)) | (walk1 <;> (try dsimp only)))))
local macro_rules | `(tactic| walk_at "execs cons") => `(tactic| first | ((with_reducible show wpAny _ _ _ _ _ (PySem.Shared.mk _ _ _ (_ + 1 + 1) _)); refine gen_toks ?_; intro tk) | ((try ((with_reducible rename Fr _ _ _ _ => F8); refine fr_let F8 ?_; clear F8; intro m8 F8)); (with_reducible refine wpAny_execs_cons ?_); (try dsimp only); refine let_Q ?_; intro qk))
local macro_rules | `(tactic| walk_at "call ref cons nil") => `(tactic| refine Hold.it ?_)
local macro_rules | `(tactic| walk_at "ite") => `(tactic| first | (refine ite_neg (by first | with_reducible assumption | (simp only [decide_eq_true_eq, beq_iff_eq]; with_reducible assumption)) ?_) | (refine ite_pos (by first | with_reducible assumption | (simp only [decide_eq_true_eq, beq_iff_eq]; with_reducible assumption)) ?_) | (refine ite_neg (by decide) ?_) | (refine ite_pos (by decide) ?_) | refine Hold.it ?_)
local macro_rules | `(tactic| walk_at "my glo") => `(tactic| (refine ⟨?_, rfl, rfl⟩; with_reducible first | exact gn72 _ | exact gn99 _ | exact gn126 _ | exact gn153 _ | exact gn180 _ | exact gn207 _ | exact gn234 _ | exact gn261 _ | exact gn288 _))
local macro_rules | `(tactic| walk_at "my kit") => `(tactic| with_reducible first | exact (kitP _ _).k72 | exact (kitP _ _).k126 | exact (kitP _ _).k153 | exact (kitP _ _).k180 | exact (kitP _ _).k207 | exact (kitP _ _).k234 | exact (kitP _ _).k261 | exact (kitP _ _).k288 | exact (kitP _ _).kTL | exact (kitP _ _).kVA | exact (kitP _ _).kAB | exact (kitP _ _).kALB | exact (kitP _ _).kVWL)
local macro_rules | `(tactic| walk_at "my d") => `(tactic| (k_dflt (exact rfl)))
local macro_rules | `(tactic| walk_at "my j") => `(tactic| (k_whole; intro h' tk' F' N'; (try k_sweep)))
local macro_rules | `(tactic| walk_at "isTrue Call Name cons nil") => `(tactic| (first | ((with_reducible refine isP1 (by k_asm) (by k_asm) (by k_asm) (by k_asm) (by walk_at "my d") (by walk_at "my d") (by assumption) (by k_dflt (walk_at "my glo")) (by walk_at "my kit") (by walk_at "my d") (by walk_at "my d") (by walk_at "my d") (by walk_at "my d") ?_); walk_at "my j") | ((with_reducible refine isP2 (by k_asm) (by k_asm) (by k_asm) (by k_asm) (by walk_at "my d") (by walk_at "my d") (by assumption) (by k_dflt (walk_at "my glo")) (by k_dflt (walk_at "my glo")) (by walk_at "my kit") (by walk_at "my d") (by walk_at "my d") (by walk_at "my d") (by walk_at "my d") ?_); walk_at "my j") | ((with_reducible refine isP3 (by k_asm) (by k_asm) (by k_asm) (by k_asm) (by walk_at "my d") (by walk_at "my d") (by assumption) (by k_dflt (walk_at "my glo")) (by k_dflt (walk_at "my glo")) (by k_dflt (walk_at "my glo")) (by walk_at "my kit") (by walk_at "my d") (by walk_at "my d") (by walk_at "my d") (by walk_at "my d") ?_); walk_at "my j")))
local macro_rules | `(tactic| walk_at "my g") => `(tactic| first | exact fun _ h => h | assumption | (intro q hq; k_mem))
local macro_rules | `(tactic| walk_at "getAttr ref") => `(tactic| (k_dflt (first | ((with_reducible refine gat_pattern (by k_asm) (by k_asm) (by k_asm) (by assumption) (by walk_at "my g") (by assumption) ?_); intro y tk hq) | ((with_reducible refine gat_args (by k_asm) (by k_asm) (by k_asm) (by assumption) (by walk_at "my g") (by assumption) ?_); intro l vs n tk ml hq) | ((with_reducible refine gat_itemsAt (by k_asm) (by k_asm) (by k_asm) (by assumption) (by walk_at "my g") (by assumption) ?_); intro tk) | ((with_reducible refine gat_items (by k_asm) (by k_asm) (by k_asm) (by assumption) (by walk_at "my g") (by assumption) ?_); intro l vs n tk ml hq) | ((with_reducible refine gat_kind (by k_asm) (by k_asm) (by k_asm) (by assumption) (by walk_at "my g") (by assumption) ?_); intro t tk) | ((with_reducible refine gat_value (by k_asm) (by k_asm) (by k_asm) (by assumption) (by walk_at "my g") (by assumption) ?_); intro t tk) | ((with_reducible refine gat_name (by k_asm) (by k_asm) (by k_asm) (by assumption) (by walk_at "my g") (by assumption) ?_); intro t tk))))
local macro_rules | `(tactic| walk_at "my enter") => `(tactic| (refine' code_def ?k1 ?k2 ?k3 ?k4 ?k5 ?kA ?kF ?kK ?k6 ?k7 ?k8 ?k9 ?kB ?_ ?c2 ?c3 ?c4 ?c5; (case kA | kF => exact rfl); (case kK => first | exact rfl | assumption); (case k1 | k2 | k3 | k4 | k5 => k_asm); (case k6 | k7 => k_is); (case k8 => ktr_room); (case k9 => first | exact BindsTo.of_eq rfl | exact binds_K (by k_in) rfl (by k_is) rfl rfl rfl); (case c5 => decide); (case kB => exact locs rfl); (case c2 | c3 | c4 => exact rfl); k_whole; intro g' L' h' FG' F' N' B' X' T'; (try dsimp only); (try k_fold)))

local macro_rules | `(tactic| walk_at "exec For Name Call cons nil") => `(tactic| (k_dflt (refine For_turns (by assumption) ?_ (hE := by assumption))))
local macro_rules | `(tactic| walk_at "eval IfExp Call List") => `(tactic| refine Hold.it ?_)
local macro_rules | `(tactic| walk_at "pyIter ref") => `(tactic| refine Hold.it ?_)
local macro_rules | `(tactic| walk_at "binaryOp Add ref ref") => `(tactic| refine Hold.it ?_)
set_option maxHeartbeats 1000000
theorem vars_tells (w : World) (loose mean mg mb) : ∀ d, Tell PySem.Challenge.rw_og0007_01.row.prog w (hd.heap_39 w.params) hd.view_39 loose mean mg mb 340 varsT d := by
  refine tell_of fun P IH => ?_
  w_on
  unfold Tell
  k_fill
  intro dp un gd cn cs a ccd cl outer A₀ base h₀ L m news kept s vs Q E B F X N T hk hsub hR hd hu hret
  obtain ⟨x, rfl, hp⟩ := hR
  replace hp := hp.mono hsub
  simp only at hret hd hu ⊢
  have hsz : P.size ≤ 1000 := by have := recLim; omega
  have hvl := vars_len P
  refine wpAny_call ?_
  k_dflt (walk_at "my enter")
  refine let_A ?_
  intro A9
  try (refine let_env ?_; intro e9)
  rename Fr _ _ _ fun y => _ => Fe
  obtain ⟨mf, Fe2⟩ := fr_form1 (a := Str.ofString "pattern") (v := .ref x) Fe rfl
  clear Fe
  refine anyEP (by passes_own) fun E0 hE0 => ?_
  w_strict (walk_at "my steps")
  refine ⟨?_⟩
  refine list_cut (by k_asm) (by k_asm) (ownV P) ?own ?go
  case own =>
    refine IfExp_ ?_
    w_strict (walk_at "my steps")
    refine ⟨?_⟩
    by_cases c : oneOf [72, 234] P = true
    · refine ite_pos c ?_
      obtain ⟨nm, en, e2⟩ := va1 c
      w_strict (walk_at "my steps")
      rename ∀ p ∈ news, _ => hl
      exact ListEnd.mk (by k_asm) (by k_asm) hl (by rw [e2]; exact .cons _ _ .nil)
    refine ite_neg c ?_
    w_strict (walk_at "my steps")
    rename ∀ p ∈ news, _ => hl
    exact ListEnd.mk (by k_asm) (by k_asm) hl (by rw [va2 c]; exact .nil)
  case go =>
  try clear Fe2
  intro lf wf nf h2 tk2 F2 N2 l2 hs2
  w_strict (walk_at "my steps")
  refine ⟨?_⟩
  refine par_use w loose mean mg mb _ _ _ _ _ _ _ _ _ _ _ _ _ _ _ _ _ _ (by k_asm) (by k_asm) (by k_asm) (by k_asm) (by k_asm) rfl (hp.mono fun q hq => List.mem_cons_of_mem _ hq) ?hin ?huu ?ret
  case hin => show dp + 1 + 10 < _; omega
  case huu => show un + 3 + 64 < _; omega
  case ret =>
  intro lp wp np tl3 h3 tk3 F3 N3 ap3 ml3 hps3
  obtain ⟨W, hW, e3, N4⟩ : ∃ W : Led, (∀ q ∈ news, q ∈ W) ∧ ((lf, lstO wf nf) ∈ W ∧ (lp, lstO wp np) ∈ W ∧ PatsIn W wp (partsP P)) ∧ News _ _ h3 W := ⟨_, fun q hq => List.mem_append.mpr (.inl (List.mem_cons_of_mem _ hq)), ⟨List.mem_append.mpr (.inl List.mem_cons_self), ml3, hps3⟩, N3⟩
  obtain ⟨mlf, mlp, hps⟩ := e3
  clear N3 ap3 ml3 hps3 hp
  w_strict (walk_at "my steps")
  refine ⟨?_⟩
  refine for_list (by exact rfl) (by k_asm) (by k_asm) mlp (fun i m tl full => VJ1 news P i m full) ⟨lf, wf, nf, _, rfl, mlf, fun q hq => Nat.ne_of_lt (l2 q hq), by rw [List.take_zero]; simpa [varsZ] using hs2⟩ ?stp ?dn
  case stp =>
    intro i v I oI m₁ tl h5 tk5 hv hJ off hI F5 N5
    obtain ⟨lf, wf, nf, mf5, rfl, mlf, apf, hsf⟩ := hJ
    obtain ⟨q, eq, hq⟩ := hps.at hv
    have hsq := parts_at eq
    obtain ⟨xq, _, _, rfl, _, _⟩ := hq.inst
    w_strict (walk_at "my steps")
    refine ⟨?_⟩
    refine tell_use (c := varsT) (d := q) W (by k_asm) (by k_asm) (by k_asm) (by k_asm) (by k_asm) rfl (fun q hq => List.mem_cons_of_mem _ (List.mem_append.mpr (.inr hq))) ⟨_, rfl, hq⟩ (IH _ ?lt) ?hd ?hu ?ret
    case lt => show 4 * q.size + 20 < 4 * P.size + 20; omega
    case hd => show dp + 1 + (4 * q.size + 20) < _; omega
    case hu => show un + 3 + 8 * (4 * q.size + 20) < _; omega
    case ret =>
    intro r9 tl9 h9 tk9 F9 N9 ha9 ho9
    obtain ⟨l9, w9, n9, rfl, m9, hs9⟩ := ho9
    w_strict (walk_at "my steps")
    refine ⟨?_⟩
    have b1 : wf.length ≤ 1000 := by
      have h1 := varsZ_take_len (partsP P) i
      have h2 := hvl
      rw [vars_parts, List.length_append] at h2
      rw [strs_len hsf, List.length_append]; omega
    have b2 : w9.length ≤ 1000 := by rw [strs_len hs9]; have := vars_len q; omega
    refine cat_lists (by k_asm) (by k_asm) (List.mem_append.mpr (.inl (List.mem_cons_of_mem _ mlf))) (List.mem_append.mpr (.inr m9)) (by omega) ?_
    intro D h6 F6 N6 l6
    w_strict (walk_at "my steps")
    refine TurnEnd.mk ((D, lstO (wf ++ w9) 0) :: (tl9 ++ tl)) (by k_asm) (news_sub (by k_asm) (by walk_at "my sub")) (fun p hp => ?_) ⟨D, _, _, _, rfl, List.mem_cons_self, fun q hq => Nat.ne_of_lt (l6 q (List.mem_append.mpr (.inl (List.mem_cons_of_mem _ (List.mem_append.mpr (.inr (hW q hq))))))), by rw [varsZ_take eq, ← List.append_assoc]; exact strs_app hsf hs9⟩
    rcases List.mem_cons.mp hp with rfl | hp
    · exact Nat.ne_of_gt (l6 (I, oI) (List.mem_append.mpr (.inl List.mem_cons_self)))
    · rcases List.mem_append.mp hp with hp | hp
      · exact Ne.symm (ha9 (I, oI) List.mem_cons_self p hp)
      · exact off p (List.mem_append.mpr (.inl hp))
  case dn =>
    intro h5 tk5 m5 tl5 F5 N5 hJ
    obtain ⟨lf, wf, nf, mf5, rfl, mlf, apf, hsf⟩ := hJ
    w_strict (walk_at "my steps")
    refine hret _ [(lf, lstO wf nf)] _ _ (by k_asm) (news_sub (by k_asm) fun q hq => (List.mem_append.mp hq).elim (fun hq => List.mem_append.mpr (.inr (hW q hq))) fun hq => by rw [List.mem_singleton.mp hq]; exact mlf) (fun q hq y hy => by rw [List.mem_singleton.mp hy]; exact apf q hq) ⟨lf, wf, nf, rfl, List.mem_cons_self, ?_⟩
    rw [vars_parts]
    rw [hps.length, List.take_length] at hsf
    exact hsf
end VarsText
section RenText
open PyProof.Rows.LCg
set_option hygiene false

mutual
def ren (f : Str → Str) : Pat → Pat
  | .wild => .wild | .var n => .var (f n) | .lit i => .lit i
  | .con n ps => .con n (rens f ps) | .tup ps => .tup (rens f ps) | .lst ps => .lst (rens f ps)
  | .as_ n p => .as_ (f n) (ren f p) | .lazy p => .lazy (ren f p) | .bang p => .bang (ren f p)
def rens (f : Str → Str) : List Pat → List Pat
  | [] => []
  | p :: ps => ren f p :: rens f ps
end
theorem rens_take (f : Str → Str) : ∀ {ps : List Pat} {i : Nat} {p : Pat}, ps[i]? = some p → rens f (ps.take (i + 1)) = rens f (ps.take i) ++ [ren f p]
  | [], _, _, e => by simp at e
  | q :: ps, 0, p, e => by simp at e; subst e; simp [rens]
  | q :: ps, i + 1, p, e => by
    have := rens_take f (ps := ps) (i := i) (p := p) (by simpa using e)
    rw [List.take_succ_cons, List.take_succ_cons, rens, rens, this, List.cons_append]
theorem PatsIn.snoc {news : Led} {vs : List Value} {ps : List Pat} {v : Value} {p : Pat} (h : PatsIn news vs ps) (k : PatIn news v p) : PatsIn news (vs ++ [v]) (ps ++ [p]) := by
  induction vs generalizing ps with
  | nil => cases h; exact .cons k .nil
  | cons x vs ih =>
    cases h with
    | cons h1 h2 => exact .cons h1 (ih h2)
theorem vars_at : ∀ {ps : List Pat} {i : Nat} {p : Pat}, ps[i]? = some p → ∀ n ∈ vars p, n ∈ varsZ ps
  | [], _, _, e => by simp at e
  | q :: ps, 0, p, e => by simp at e; subst e; intro n hn; rw [varsZ]; exact List.mem_append.mpr (.inl hn)
  | q :: ps, i + 1, p, e => by intro n hn; rw [varsZ]; exact List.mem_append.mpr (.inr (vars_at (by simpa using e) n hn))

inductive RenRel (prog : Program) (w : World) (news : Led) (vs : List Value) (d : Pat × (Str → Str)) : Prop
  | mk (p : Value) (dn : Addr) (o : Obj) (kvs : List (Str × Value)) (e : vs = [p, .ref dn]) (hp : PatIn news p d.1) (m : (dn, o) ∈ news) (ho : o.IsDictOf (PySem.strKind prog w) kvs) (hk : ∀ n ∈ vars d.1, ∃ t, valueAt kvs n = some (.str (d.2 n) t))
abbrev renT (prog : Program) (w : World) : Told (Pat × (Str → Str)) where
  Rel := RenRel prog w
  size := fun d => 4 * d.1.size + 20
  Out := fun kept tl r d => PatIn (kept ++ tl) r (ren d.2 d.1)
theorem apart_two {l : Led} {d x : Addr} {od ox : Obj} (h : ∀ p ∈ l, p.1 < d) (k : @LT.lt Nat _ d x) : ∀ q ∈ l, ∀ p ∈ [(x, ox), (d, od)], q.1 ≠ p.1 := fun q hq p hp => by
  have := h q hq
  simp only [List.mem_cons, List.not_mem_nil, or_false] at hp
  rcases hp with rfl | rfl
  · exact Nat.ne_of_lt (Nat.lt_trans this k)
  · exact Nat.ne_of_lt this
theorem apart_one {l : Led} {d : Addr} {od : Obj} (h : ∀ p ∈ l, p.1 ≠ d) : ∀ q ∈ l, ∀ p ∈ [(d, od)], q.1 ≠ p.1 := fun q hq p hp => by
  rw [List.mem_singleton.mp hp]; exact h q hq

local macro_rules | `(tactic| walk_at "my pr") => `(tactic| with_reducible first | assumption | exact And.left (by assumption) | exact And.left (And.right (by assumption)) | exact And.left (And.right (And.right (by assumption))) | exact And.left (And.right (And.right (And.right (by assumption)))) | exact And.left (And.right (And.right (And.right (And.right (by assumption))))) | exact And.left (And.right (And.right (And.right (And.right (And.right (by assumption)))))))
local macro_rules | `(tactic| k_ne) => `(tactic| first | exact neN (Nat.ne_of_lt (by walk_at "my pr")) | exact neN (Nat.ne_of_gt (by walk_at "my pr")) | (refine neN ?_; (try dsimp only); omega))
local macro_rules | `(tactic| k_mem) => `(tactic| first | exact List.mem_cons_self | assumption | (refine List.mem_cons_of_mem _ ?_; k_mem) | (refine List.mem_append.mpr (.inr ?_); k_mem) | (refine List.mem_append.mpr (.inl ?_); k_mem))
local macro_rules | `(tactic| walk_at "my sub") => `(tactic| (intro q hq; first | exact hq | (simp only [List.mem_cons, List.mem_append, List.not_mem_nil, or_false, false_or] at hq ⊢; grind)))
local macro_rules | `(tactic| walk_at "my steps") => `(tactic| (repeat' (first | (k_unfold; (try dsimp only)) | (walk1 <;> (try dsimp only)))))
local macro_rules | `(tactic| walk_at "execs cons") => `(tactic| first | ((with_reducible show wpAny _ _ _ _ _ (PySem.Shared.mk _ _ _ (_ + 1 + 1) _)); refine gen_toks ?_; intro tk) | ((try ((with_reducible rename Fr _ _ _ _ => F8); refine fr_let F8 ?_; clear F8; intro m8 F8)); (with_reducible refine wpAny_execs_cons ?_); (try dsimp only); refine let_Q ?_; intro qk))
local macro_rules | `(tactic| walk_at "eval ListComp") => `(tactic| (k_dflt (refine LCg.ListComp_U (F₀ := by k_asm) (by with_unfolding_all rfl) (by decide) (by rfl) (by decide) (by rfl) ?_)))
local macro_rules | `(tactic| walk_at "call ref cons nil") => `(tactic| refine Hold.it ?_)
local macro_rules | `(tactic| walk_at "CompSrc Call cons ref") => `(tactic| refine Hold.it ?_)
local macro_rules | `(tactic| walk_at "ite") => `(tactic| first | (refine ite_neg (by first | with_reducible assumption | (simp only [decide_eq_true_eq, beq_iff_eq]; with_reducible assumption)) ?_) | (refine ite_pos (by first | with_reducible assumption | (simp only [decide_eq_true_eq, beq_iff_eq]; with_reducible assumption)) ?_) | (refine ite_neg (by decide) ?_) | (refine ite_pos (by decide) ?_) | refine Hold.it ?_)
local macro_rules | `(tactic| walk_at "my glo") => `(tactic| (refine ⟨?_, rfl, rfl⟩; with_reducible first | exact gn72 _ | exact gn99 _ | exact gn126 _ | exact gn153 _ | exact gn180 _ | exact gn207 _ | exact gn234 _ | exact gn261 _ | exact gn288 _))
local macro_rules | `(tactic| walk_at "my kit") => `(tactic| with_reducible first | exact (kitP _ _).k72 | exact (kitP _ _).k126 | exact (kitP _ _).k153 | exact (kitP _ _).k180 | exact (kitP _ _).k207 | exact (kitP _ _).k234 | exact (kitP _ _).k261 | exact (kitP _ _).k288 | exact (kitP _ _).kTL | exact (kitP _ _).kVA | exact (kitP _ _).kAB | exact (kitP _ _).kALB | exact (kitP _ _).kVWL)
local macro_rules | `(tactic| walk_at "my d") => `(tactic| (k_dflt (exact rfl)))
local macro_rules | `(tactic| walk_at "my j") => `(tactic| (k_whole; intro h' tk' F' N'; (try k_sweep)))
local macro_rules | `(tactic| walk_at "isTrue Call Name cons nil") => `(tactic| (first | ((with_reducible refine isP1 (by k_asm) (by k_asm) (by k_asm) (by k_asm) (by walk_at "my d") (by walk_at "my d") (by assumption) (by k_dflt (walk_at "my glo")) (by walk_at "my kit") (by walk_at "my d") (by walk_at "my d") (by walk_at "my d") (by walk_at "my d") ?_); walk_at "my j") | ((with_reducible refine isP2 (by k_asm) (by k_asm) (by k_asm) (by k_asm) (by walk_at "my d") (by walk_at "my d") (by assumption) (by k_dflt (walk_at "my glo")) (by k_dflt (walk_at "my glo")) (by walk_at "my kit") (by walk_at "my d") (by walk_at "my d") (by walk_at "my d") (by walk_at "my d") ?_); walk_at "my j") | ((with_reducible refine isP3 (by k_asm) (by k_asm) (by k_asm) (by k_asm) (by walk_at "my d") (by walk_at "my d") (by assumption) (by k_dflt (walk_at "my glo")) (by k_dflt (walk_at "my glo")) (by k_dflt (walk_at "my glo")) (by walk_at "my kit") (by walk_at "my d") (by walk_at "my d") (by walk_at "my d") (by walk_at "my d") ?_); walk_at "my j")))
local macro_rules | `(tactic| walk_at "my g") => `(tactic| first | exact fun _ h => h | assumption | (intro q hq; k_mem))
local macro_rules | `(tactic| walk_at "getAttr ref") => `(tactic| (k_dflt (first | ((with_reducible refine gat_pattern (by k_asm) (by k_asm) (by k_asm) (by assumption) (by walk_at "my g") (by assumption) ?_); intro y tk hq) | ((with_reducible refine gat_args (by k_asm) (by k_asm) (by k_asm) (by assumption) (by walk_at "my g") (by assumption) ?_); intro l vs n tk ml hq) | ((with_reducible refine gat_itemsAt (by k_asm) (by k_asm) (by k_asm) (by assumption) (by walk_at "my g") (by assumption) ?_); intro tk) | ((with_reducible refine gat_items (by k_asm) (by k_asm) (by k_asm) (by assumption) (by walk_at "my g") (by assumption) ?_); intro l vs n tk ml hq) | ((with_reducible refine gat_kind (by k_asm) (by k_asm) (by k_asm) (by assumption) (by walk_at "my g") (by assumption) ?_); intro t tk) | ((with_reducible refine gat_value (by k_asm) (by k_asm) (by k_asm) (by assumption) (by walk_at "my g") (by assumption) ?_); intro t tk) | ((with_reducible refine gat_name (by k_asm) (by k_asm) (by k_asm) (by assumption) (by walk_at "my g") (by assumption) ?_); intro t tk))))
local macro_rules | `(tactic| walk_at "subscriptTail Name Attribute ref str") => `(tactic| (k_dflt (refine kda_item (by assumption) (by k_mem) (by assumption) (beq_self_eq_true _) (by assumption) ?_)))
theorem rn1 {P : Pat} (c : oneOf [72] P = true) : ∃ n, P = .var n := by
  cases P <;> first | exact Bool.noConfusion (show false = true from c) | exact ⟨_, rfl⟩
theorem rn2 {P : Pat} (c : oneOf [234] P = true) : ∃ n q, P = .as_ n q := by
  cases P <;> first | exact Bool.noConfusion (show false = true from c) | exact ⟨_, _, rfl⟩
theorem rn3 {P : Pat} (c : oneOf [261] P = true) : ∃ q, P = .lazy q := by
  cases P <;> first | exact Bool.noConfusion (show false = true from c) | exact ⟨_, rfl⟩
theorem rn4 {P : Pat} (c : oneOf [288] P = true) : ∃ q, P = .bang q := by
  cases P <;> first | exact Bool.noConfusion (show false = true from c) | exact ⟨_, rfl⟩
theorem rn5 {P : Pat} (c : oneOf [153] P = true) : ∃ n ps, P = .con n ps := by
  cases P <;> first | exact Bool.noConfusion (show false = true from c) | exact ⟨_, _, rfl⟩
theorem rn6 {P : Pat} (c : oneOf [180] P = true) : ∃ ps, P = .tup ps := by
  cases P <;> first | exact Bool.noConfusion (show false = true from c) | exact ⟨_, rfl⟩
theorem rn7 {P : Pat} (c : oneOf [207] P = true) : ∃ ps, P = .lst ps := by
  cases P <;> first | exact Bool.noConfusion (show false = true from c) | exact ⟨_, rfl⟩
theorem rn8 {P : Pat} {f : Str → Str} (c1 : ¬ oneOf [72] P = true) (c2 : ¬ oneOf [234] P = true) (c3 : ¬ oneOf [261] P = true) (c4 : ¬ oneOf [288] P = true) (c5 : ¬ oneOf [153] P = true) (c6 : ¬ oneOf [180] P = true) (c7 : ¬ oneOf [207] P = true) : ren f P = P := by
  cases P <;> first | rfl | exact absurd rfl c1 | exact absurd rfl c2 | exact absurd rfl c3 | exact absurd rfl c4 | exact absurd rfl c5 | exact absurd rfl c6 | exact absurd rfl c7
/-- what the one part of a pattern brings -/
inductive Sub1 (f : Str → Str) (kvs : List (Str × Value)) (P q : Pat) : Prop
  | mk (e : subP P = some q) (hk : ∀ n ∈ vars q, ∃ t, valueAt kvs n = some (.str (f n) t)) (sz : q.size + 1 ≤ P.size)
theorem sub1 {f : Str → Str} {kvs : List (Str × Value)} {P q : Pat} (hk : ∀ n ∈ vars P, ∃ t, valueAt kvs n = some (.str (f n) t)) (e : subP P = some q) : Sub1 f kvs P q := by
  cases P with
  | as_ n p => (have e2 : p = q := Option.some.inj e); subst e2; exact ⟨rfl, fun n hn => hk n (by simp only [vars]; exact List.mem_cons_of_mem _ hn), Nat.le_refl _⟩
  | lazy p => (have e2 : p = q := Option.some.inj e); subst e2; exact ⟨rfl, fun n hn => hk n (by simpa only [vars] using hn), Nat.le_refl _⟩
  | bang p => (have e2 : p = q := Option.some.inj e); subst e2; exact ⟨rfl, fun n hn => hk n (by simpa only [vars] using hn), Nat.le_refl _⟩
  | _ => exact absurd e (fun h => nn h)
def psP : Pat → List Pat
  | .con _ ps => ps | .tup ps => ps | .lst ps => ps | _ => []
/-- what a turn of a comprehension over the parts brings -/
inductive SubN (f : Str → Str) (kvs : List (Str × Value)) (P q : Pat) : Prop
  | mk (hk : ∀ n ∈ vars q, ∃ t, valueAt kvs n = some (.str (f n) t)) (sz : q.size + 1 ≤ P.size)
theorem subN {f : Str → Str} {kvs : List (Str × Value)} {P : Pat} (hk : ∀ n ∈ vars P, ∃ t, valueAt kvs n = some (.str (f n) t)) {i : Nat} {q : Pat} (e : (psP P)[i]? = some q) : SubN f kvs P q := by
  cases P with
  | con nm ps => exact ⟨fun n hn => hk n (by rw [vars]; exact vars_at e n hn), by have := sizes_at (ps := ps) e; simp only [Pat.size]; omega⟩
  | tup ps => exact ⟨fun n hn => hk n (by rw [vars]; exact vars_at e n hn), by have := sizes_at (ps := ps) e; simp only [Pat.size]; omega⟩
  | lst ps => exact ⟨fun n hn => hk n (by rw [vars]; exact vars_at e n hn), by have := sizes_at (ps := ps) e; simp only [Pat.size]; omega⟩
  | _ => exact (nn e).elim
theorem psP_len {P : Pat} {dp : Nat} (h : dp + (4 * P.size + 20) < recursionLimit) : (psP P).length ≤ 100000 := by
  have h2 := recLim
  have : (psP P).length ≤ P.size := by
    cases P <;> simp only [psP, List.length_nil, Nat.zero_le, Pat.size]
    all_goals (rename_i ps; have := sizes_len ps; omega)
  omega
theorem rz1 {a b : Nat} (h : a + 1 ≤ b) : 4 * a + 20 < 4 * b + 20 := by omega
theorem rz2 {dp k a b : Nat} (h : dp + (4 * b + 20) < k) (h2 : a + 1 ≤ b) : dp + 1 + (4 * a + 20) < k := by omega
theorem rz3 {un k a b : Nat} (h : un + 8 * (4 * b + 20) < k) (h2 : a + 1 ≤ b) : un + 3 + 8 * (4 * a + 20) < k := by omega
theorem rz4 {dp k b : Nat} (h : dp + (4 * b + 20) < k) : dp + 1 + 10 < k := by omega
theorem rz5 {un k b : Nat} (h : un + 8 * (4 * b + 20) < k) : un + 3 + 64 < k := by omega
theorem ro_var {f : Str → Str} {P : Pat} {W : Led} {r : Value} {n : Str} (e : P = .var n) (h : PatIn W r (.var (f n))) : PatIn W r (ren f P) := by rw [e]; simpa only [ren] using h
theorem ro_as {f : Str → Str} {P q : Pat} {W : Led} {r : Value} {n : Str} (e : P = .as_ n q) (h : PatIn W r (.as_ (f n) (ren f q))) : PatIn W r (ren f P) := by rw [e]; simpa only [ren] using h
theorem ro_lazy {f : Str → Str} {P q : Pat} {W : Led} {r : Value} (e : P = .lazy q) (h : PatIn W r (.lazy (ren f q))) : PatIn W r (ren f P) := by rw [e]; simpa only [ren] using h
theorem ro_bang {f : Str → Str} {P q : Pat} {W : Led} {r : Value} (e : P = .bang q) (h : PatIn W r (.bang (ren f q))) : PatIn W r (ren f P) := by rw [e]; simpa only [ren] using h
theorem ro_con {f : Str → Str} {P : Pat} {W : Led} {r : Value} {n : Str} {ps : List Pat} (e : P = .con n ps) (h : PatIn W r (.con n (rens f ps))) : PatIn W r (ren f P) := by rw [e]; simpa only [ren] using h
theorem ro_tup {f : Str → Str} {P : Pat} {W : Led} {r : Value} {ps : List Pat} (e : P = .tup ps) (h : PatIn W r (.tup (rens f ps))) : PatIn W r (ren f P) := by rw [e]; simpa only [ren] using h
theorem ro_lst {f : Str → Str} {P : Pat} {W : Led} {r : Value} {ps : List Pat} (e : P = .lst ps) (h : PatIn W r (.lst (rens f ps))) : PatIn W r (ren f P) := by rw [e]; simpa only [ren] using h
theorem rl1 {h₀ h : Heap} {L : Addr} {A W tl news : Led} (N : News h₀ L h (A ++ (W ++ tl))) (hW : ∀ q ∈ news, q ∈ W) : News h₀ L h (news ++ (A ++ tl)) := fun q hq => N q (by
  rcases List.mem_append.mp hq with h | h
  · exact List.mem_append.mpr (.inr (List.mem_append.mpr (.inl (hW q h))))
  · rcases List.mem_append.mp h with h | h
    · exact List.mem_append.mpr (.inl h)
    · exact List.mem_append.mpr (.inr (List.mem_append.mpr (.inr h))))
theorem rl2 {h₀ h : Heap} {L : Addr} {A W tl news : Led} (N : News h₀ L h (A ++ (tl ++ W))) (hW : ∀ q ∈ news, q ∈ W) : News h₀ L h (news ++ (A ++ tl)) := fun q hq => N q (by
  rcases List.mem_append.mp hq with h | h
  · exact List.mem_append.mpr (.inr (List.mem_append.mpr (.inr (hW q h))))
  · rcases List.mem_append.mp h with h | h
    · exact List.mem_append.mpr (.inl h)
    · exact List.mem_append.mpr (.inr (List.mem_append.mpr (.inl h))))
theorem rl0 {h₀ h : Heap} {L : Addr} {A W news : Led} (N : News h₀ L h (A ++ W)) (hW : ∀ q ∈ news, q ∈ W) : News h₀ L h (news ++ A) := fun q hq => N q (by
  rcases List.mem_append.mp hq with h | h
  · exact List.mem_append.mpr (.inr (hW q h))
  · exact List.mem_append.mpr (.inl h))
/-- the turns of the comprehension over the parts -/
inductive RJ (f : Str → Str) (kept W : Led) (ps : List Pat) (i : Nat) (ys : List Value) (tl : Led) : Prop
  | mk (h1 : PatsIn (kept ++ tl) ys (rens f (ps.take i))) (h2 : ∀ q ∈ W, ∀ p ∈ tl, q.1 ≠ p.1)
theorem RJ.zero {f : Str → Str} {kept W : Led} {ps : List Pat} : RJ f kept W ps 0 [] [] := ⟨by rw [List.take_zero]; exact .nil, apart_nil⟩
theorem RJ.snoc {f : Str → Str} {kept W : Led} {ps : List Pat} {i : Nat} {ys : List Value} {tl tl9 : Led} {q : Pat} {r : Value} (h : RJ f kept W ps i ys tl) (e : ps[i]? = some q) (ho : PatIn (kept ++ tl9) r (ren f q)) (ha : ∀ q ∈ W, ∀ p ∈ tl9, q.1 ≠ p.1) : RJ f kept W ps (i + 1) (ys ++ [r]) (tl ++ tl9) := by
  obtain ⟨h1, h2⟩ := h
  refine ⟨?_, apart_app h2 ha⟩
  rw [rens_take f e]
  exact PatsIn.snoc (PatsIn.mono (fun q hq => (List.mem_append.mp hq).elim (fun h => List.mem_append.mpr (.inl h)) fun h => List.mem_append.mpr (.inr (List.mem_append.mpr (.inl h)))) h1) (PatIn.mono (fun q hq => (List.mem_append.mp hq).elim (fun h => List.mem_append.mpr (.inl h)) fun h => List.mem_append.mpr (.inr (List.mem_append.mpr (.inr h)))) ho)
theorem RJ.full {f : Str → Str} {kept W : Led} {ps : List Pat} {i : Nat} {ys : List Value} {tl A : Led} (h : RJ f kept W ps i ys tl) (e : i = ps.length) : PatsIn (kept ++ (A ++ tl)) ys (rens f ps) := by
  obtain ⟨h1, _⟩ := h
  rw [e, List.take_length] at h1
  exact PatsIn.mono (fun q hq => (List.mem_append.mp hq).elim (fun h => List.mem_append.mpr (.inl h)) fun h => List.mem_append.mpr (.inr (List.mem_append.mpr (.inr h)))) h1
theorem ap_two {W news tl : Led} {d x : Addr} {od ox : Obj} (o : ∀ p ∈ W, p.1 < d) (k : @LT.lt Nat _ d x) (hW : ∀ q ∈ news, q ∈ W) (ha : ∀ q ∈ news, ∀ p ∈ tl, q.1 ≠ p.1) : ∀ q ∈ news, ∀ p ∈ [(x, ox), (d, od)] ++ tl, q.1 ≠ p.1 := apart_app (apart_sub (apart_two o k) hW) ha
theorem ap_three {W news tl : Led} {d x D : Addr} {od ox oD : Obj} (o : ∀ p ∈ W, p.1 < d) (k : @LT.lt Nat _ d x) (hW : ∀ q ∈ news, q ∈ W) (hD : ∀ q ∈ news, q.1 ≠ D) (ha : ∀ q ∈ news, ∀ p ∈ tl, q.1 ≠ p.1) : ∀ q ∈ news, ∀ p ∈ [(x, ox), (d, od), (D, oD)] ++ tl, q.1 ≠ p.1 := apart_app (t1 := [(x, ox), (d, od), (D, oD)]) (apart_app (t1 := [(x, ox), (d, od)]) (t2 := [(D, oD)]) (apart_sub (apart_two o k) hW) (apart_one hD)) ha
set_option maxHeartbeats 4000000
theorem ren_tells (w : World) (loose mean mg mb) : ∀ d, Tell PySem.Challenge.rw_og0007_01.row.prog w (hd.heap_39 w.params) hd.view_39 loose mean mg mb 345 (renT PySem.Challenge.rw_og0007_01.row.prog w) d := by
  refine tell_of fun d IH => ?_
  obtain ⟨P, f⟩ := d
  w_on
  unfold Tell
  k_fill
  intro dp un gd cn cs a ccd cl outer A₀ base h₀ L m news kept s vs Q E B F X N T hk hsub hR hd hu hret
  obtain ⟨p, dn, o, kvs, rfl, hp, hdnk, hdo, hkv⟩ := hR
  simp only at hp hret hd hu hkv ⊢
  obtain ⟨x, _, _, rfl, _, _⟩ := hp.inst
  refine wpAny_call ?_
  refine' code_defC ?k1 ?k2 ?k3 ?k4 ?k5 ?kA ?kF ?kK ?k6 ?k7 ?k8 ?k9 ?kB ?kD ?_ ?c2 ?c3 ?c4
  (case kA => exact rfl)
  (case kF => exact rfl)
  (case kK => first | exact rfl | assumption)
  (case k1 => k_asm)
  (case k2 => k_asm)
  (case k3 => k_asm)
  (case k4 => k_asm)
  (case k5 => k_asm)
  (case k6 => k_is)
  (case k7 => k_is)
  (case k8 => ktr_room)
  (case k9 => exact BindsTo.of_eq rfl)
  (case kB => exact rfl)
  (case kD => decide +kernel)
  (case c2 => exact rfl)
  (case c3 => exact rfl)
  (case c4 => exact rfl)
  k_whole
  intro g1 L1 h1 tk1 cells1 FG1 F1 N1 Y1 B1 X1 T1 l1
  obtain ⟨oc, hE, ec⟩ := CellsAre.one Y1
  subst hE
  replace ec : oc.data = .cell (some (.ref dn)) := ec
  obtain ⟨mf, Fe⟩ := fr_form1 (a := Str.ofString "pattern") (v := .ref x) F1 rfl
  obtain ⟨W, hWn, mc, mdn, N2⟩ : ∃ W : Led, (∀ q ∈ news, q ∈ W) ∧ (L1 + 1, oc) ∈ W ∧ (dn, o) ∈ W ∧ News g1 L1 h1 W :=
    ⟨_, fun q hq => List.mem_append.mpr (.inr hq), List.mem_append.mpr (.inl List.mem_cons_self), List.mem_append.mpr (.inr (hsub _ hdnk)), N1⟩
  have hKW : ∀ q ∈ kept, q ∈ W := fun q hq => hWn q (hsub q hq)
  have hpW : PatIn W (.ref x) P := hp.mono hKW
  replace hp := hp
  clear F1 N1 Y1 l1 N F
  try dsimp only
  refine anyE fun E0 => ?_
  refine let_A ?_
  intro A9
  try (refine let_env ?_; intro e9)
  try k_fold
  w_strict (walk_at "my steps")
  refine ⟨?_⟩
  by_cases c1 : oneOf [72] P = true
  · refine ite_pos c1 ?_
    obtain ⟨n, eP⟩ := rn1 c1
    have en : nameP P = some n := by rw [eP]; rfl
    obtain ⟨t0, ht0⟩ := hkv n (by rw [eP]; simp [vars])
    w_strict (walk_at "my steps")
    refine ⟨?_⟩
    refine mk_pvar w loose mean mg mb _ _ _ _ _ _ _ _ _ _ _ _ _ _ _ _ _ _ (by k_asm) (by k_asm) (by k_asm) (by k_asm) (by k_asm) rfl _ ?hin ?huu ?hmk
    case hin => exact rz4 hd
    case huu => exact rz5 hu
    case hmk =>
    intro x1 d1 k1 t0m h0m t1m h1m g3 tk3 F3 N3 o3 p3
    w_strict (walk_at "my steps")
    exact hret _ ([_, _] ++ []) _ _ (by k_asm) (rl1 (A := [_, _]) (tl := []) (by rw [List.append_nil]; k_asm) hWn) (ap_two o3 p3 hWn apart_nil) (ro_var eP (.var (by k_mem) (by k_mem)))
  refine ite_neg c1 ?_
  w_strict (walk_at "my steps")
  refine ⟨?_⟩
  by_cases c2 : oneOf [234] P = true
  · refine ite_pos c2 ?_
    obtain ⟨n, q, eP⟩ := rn2 c2
    have en : nameP P = some n := by rw [eP]; rfl
    obtain ⟨t0, ht0⟩ := hkv n (by rw [eP]; simp [vars])
    obtain ⟨eq, hkq, sz⟩ := sub1 (q := q) hkv (by rw [eP]; rfl)
    w_strict (walk_at "my steps")
    refine ⟨?_⟩
    rename PatIn _ _ q => hq1
    refine tell_use (c := renT PG w) (d := (q, f)) kept (by k_asm) (by k_asm) (by k_asm) (by k_asm) (by k_asm) rfl hKW ⟨_, dn, o, kvs, rfl, hq1, hdnk, hdo, hkq⟩ (IH _ ?lt) ?hd ?hu ?ret
    case lt => exact rz1 sz
    case hd => exact rz2 hd sz
    case hu => exact rz3 hu sz
    case ret =>
    intro r9 tl9 h9 tk9 F9 N9 ha9 ho9
    w_strict (walk_at "my steps")
    refine ⟨?_⟩
    refine mk_pas w loose mean mg mb _ _ _ _ _ _ _ _ _ _ _ _ _ _ _ _ _ _ (by k_asm) (by k_asm) (by k_asm) (by k_asm) (by k_asm) rfl _ _ ?hin ?huu ?hmk
    case hin => exact rz4 hd
    case huu => exact rz5 hu
    case hmk =>
    intro x1 d1 k1 t0m h0m t1m h1m t2m h2m g3 tk3 F3 N3 o3 p3
    w_strict (walk_at "my steps")
    exact hret _ ([_, _] ++ tl9) _ _ (by k_asm) (rl1 (A := [_, _]) (by k_asm) hWn) (ap_two o3 p3 (fun q hq => List.mem_append.mpr (.inl (hWn q hq))) (apart_sub ha9 hWn)) (ro_as eP (.as_ (by k_mem) (by k_mem) (ho9.mono fun q hq => by rcases List.mem_append.mp hq with h | h <;> k_mem)))
  refine ite_neg c2 ?_
  w_strict (walk_at "my steps")
  refine ⟨?_⟩
  by_cases c3 : oneOf [261] P = true
  · refine ite_pos c3 ?_
    obtain ⟨q, eP⟩ := rn3 c3
    obtain ⟨eq, hkq, sz⟩ := sub1 (q := q) hkv (by rw [eP]; rfl)
    w_strict (walk_at "my steps")
    refine ⟨?_⟩
    rename PatIn _ _ q => hq1
    refine tell_use (c := renT PG w) (d := (q, f)) kept (by k_asm) (by k_asm) (by k_asm) (by k_asm) (by k_asm) rfl hKW ⟨_, dn, o, kvs, rfl, hq1, hdnk, hdo, hkq⟩ (IH _ ?lt) ?hd ?hu ?ret
    case lt => exact rz1 sz
    case hd => exact rz2 hd sz
    case hu => exact rz3 hu sz
    case ret =>
    intro r9 tl9 h9 tk9 F9 N9 ha9 ho9
    w_strict (walk_at "my steps")
    refine ⟨?_⟩
    refine mk_plazy w loose mean mg mb _ _ _ _ _ _ _ _ _ _ _ _ _ _ _ _ _ _ (by k_asm) (by k_asm) (by k_asm) (by k_asm) (by k_asm) rfl _ ?hin ?huu ?hmk
    case hin => exact rz4 hd
    case huu => exact rz5 hu
    case hmk =>
    intro x1 d1 k1 t0m h0m t1m h1m g3 tk3 F3 N3 o3 p3
    w_strict (walk_at "my steps")
    exact hret _ ([_, _] ++ tl9) _ _ (by k_asm) (rl1 (A := [_, _]) (by k_asm) hWn) (ap_two o3 p3 (fun q hq => List.mem_append.mpr (.inl (hWn q hq))) (apart_sub ha9 hWn)) (ro_lazy eP (.lazy (by k_mem) (by k_mem) (ho9.mono fun q hq => by rcases List.mem_append.mp hq with h | h <;> k_mem)))
  refine ite_neg c3 ?_
  w_strict (walk_at "my steps")
  refine ⟨?_⟩
  by_cases c4 : oneOf [288] P = true
  · refine ite_pos c4 ?_
    obtain ⟨q, eP⟩ := rn4 c4
    obtain ⟨eq, hkq, sz⟩ := sub1 (q := q) hkv (by rw [eP]; rfl)
    w_strict (walk_at "my steps")
    refine ⟨?_⟩
    rename PatIn _ _ q => hq1
    refine tell_use (c := renT PG w) (d := (q, f)) kept (by k_asm) (by k_asm) (by k_asm) (by k_asm) (by k_asm) rfl hKW ⟨_, dn, o, kvs, rfl, hq1, hdnk, hdo, hkq⟩ (IH _ ?lt) ?hd ?hu ?ret
    case lt => exact rz1 sz
    case hd => exact rz2 hd sz
    case hu => exact rz3 hu sz
    case ret =>
    intro r9 tl9 h9 tk9 F9 N9 ha9 ho9
    w_strict (walk_at "my steps")
    refine ⟨?_⟩
    refine mk_pbang w loose mean mg mb _ _ _ _ _ _ _ _ _ _ _ _ _ _ _ _ _ _ (by k_asm) (by k_asm) (by k_asm) (by k_asm) (by k_asm) rfl _ ?hin ?huu ?hmk
    case hin => exact rz4 hd
    case huu => exact rz5 hu
    case hmk =>
    intro x1 d1 k1 t0m h0m t1m h1m g3 tk3 F3 N3 o3 p3
    w_strict (walk_at "my steps")
    exact hret _ ([_, _] ++ tl9) _ _ (by k_asm) (rl1 (A := [_, _]) (by k_asm) hWn) (ap_two o3 p3 (fun q hq => List.mem_append.mpr (.inl (hWn q hq))) (apart_sub ha9 hWn)) (ro_bang eP (.bang (by k_mem) (by k_mem) (ho9.mono fun q hq => by rcases List.mem_append.mp hq with h | h <;> k_mem)))
  refine ite_neg c4 ?_
  w_strict (walk_at "my steps")
  refine ⟨?_⟩
  by_cases c5 : oneOf [153] P = true
  · refine ite_pos c5 ?_
    obtain ⟨nm, ps, eP⟩ := rn5 c5
    have en : nameP P = some nm := by rw [eP]; rfl
    have ea : argsP P = some ps := by rw [eP]; rfl
    have ez : psP P = ps := by rw [eP]; rfl
    w_strict (walk_at "my steps")
    refine ⟨?_⟩
    rename PatsIn _ _ ps => hps
    rename (_, _) ∈ kept => ml8
    refine comp_mapB rfl (by k_asm) (by k_asm) (hKW _ ml8) (by rw [hps.length, ← ez]; exact psP_len hd) (fun i ys tl => RJ f kept W ps i ys tl) .zero ?hst ?hdn
    case hst =>
      intro i v I oI C oC D m₂ ys tl h tk E' hv hoC hx2 hJ F2 N2 off hne
      obtain ⟨p1, e1, hp1⟩ := hps.at hv
      obtain ⟨hk1, sz⟩ := subN hkv (by rw [ez]; exact e1)
      w_strict (walk_at "my steps")
      refine ⟨?_⟩
      refine tell_use (c := renT PG w) (d := (p1, f)) kept (by k_asm) (by k_asm) (by k_asm) (by k_asm) (by k_asm) rfl (fun q hq => by have := hKW q hq; k_mem) ⟨_, dn, o, kvs, rfl, hp1, hdnk, hdo, hk1⟩ (IH _ ?lt) ?hd ?hu ?ret
      case lt => exact rz1 sz
      case hd => exact rz2 hd sz
      case hu => exact rz3 hu sz
      case ret =>
      intro r9 tl9 h9 tk9 F9 N9 ha9 ho9
      w_strict (walk_at "my steps")
      refine MapEnd.mk ((tl ++ tl9) ++ W) (by k_asm) (news_sub (by k_asm) (by walk_at "my sub")) (apart_all off ha9) ⟨tl ++ tl9, rfl, hJ.snoc e1 ho9 (apart_sub ha9 fun q hq => by k_mem)⟩
    case hdn =>
    intro D ys tl h tk F2 N2 off hJ
    w_strict (walk_at "my steps")
    refine ⟨?_⟩
    refine mk_pcon w loose mean mg mb _ _ _ _ _ _ _ _ _ _ _ _ _ _ _ _ _ _ (by k_asm) (by k_asm) (by k_asm) (by k_asm) (by k_asm) rfl _ _ ?hin ?huu ?hmk
    case hin => exact rz4 hd
    case huu => exact rz5 hu
    case hmk =>
    intro x1 d1 k1 t0m h0m t1m h1m t2m h2m g3 tk3 F3 N3 o3 p3
    w_strict (walk_at "my steps")
    exact hret _ ([_, _, _] ++ tl) _ _ (by k_asm) (rl2 (A := [_, _, _]) (by k_asm) hWn) (ap_three o3 p3 (fun q hq => by have := hWn q hq; k_mem) (fun q hq => off q (by have := hWn q hq; k_mem)) (apart_sub hJ.2 hWn)) (ro_con eP (.con (by k_mem) (by k_mem) (by k_mem) (hJ.full hps.length)))
  refine ite_neg c5 ?_
  w_strict (walk_at "my steps")
  refine ⟨?_⟩
  by_cases c6 : oneOf [180] P = true
  · refine ite_pos c6 ?_
    obtain ⟨ps, eP⟩ := rn6 c6
    have ea : itemsP P = some ps := by rw [eP]; rfl
    have ez : psP P = ps := by rw [eP]; rfl
    w_strict (walk_at "my steps")
    refine ⟨?_⟩
    rename PatsIn _ _ ps => hps
    rename (_, _) ∈ kept => ml8
    refine comp_mapB rfl (by k_asm) (by k_asm) (hKW _ ml8) (by rw [hps.length, ← ez]; exact psP_len hd) (fun i ys tl => RJ f kept W ps i ys tl) .zero ?hst ?hdn
    case hst =>
      intro i v I oI C oC D m₂ ys tl h tk E' hv hoC hx2 hJ F2 N2 off hne
      obtain ⟨p1, e1, hp1⟩ := hps.at hv
      obtain ⟨hk1, sz⟩ := subN hkv (by rw [ez]; exact e1)
      w_strict (walk_at "my steps")
      refine ⟨?_⟩
      refine tell_use (c := renT PG w) (d := (p1, f)) kept (by k_asm) (by k_asm) (by k_asm) (by k_asm) (by k_asm) rfl (fun q hq => by have := hKW q hq; k_mem) ⟨_, dn, o, kvs, rfl, hp1, hdnk, hdo, hk1⟩ (IH _ ?lt) ?hd ?hu ?ret
      case lt => exact rz1 sz
      case hd => exact rz2 hd sz
      case hu => exact rz3 hu sz
      case ret =>
      intro r9 tl9 h9 tk9 F9 N9 ha9 ho9
      w_strict (walk_at "my steps")
      refine MapEnd.mk ((tl ++ tl9) ++ W) (by k_asm) (news_sub (by k_asm) (by walk_at "my sub")) (apart_all off ha9) ⟨tl ++ tl9, rfl, hJ.snoc e1 ho9 (apart_sub ha9 fun q hq => by k_mem)⟩
    case hdn =>
    intro D ys tl h tk F2 N2 off hJ
    w_strict (walk_at "my steps")
    refine ⟨?_⟩
    refine mk_ptuple w loose mean mg mb _ _ _ _ _ _ _ _ _ _ _ _ _ _ _ _ _ _ (by k_asm) (by k_asm) (by k_asm) (by k_asm) (by k_asm) rfl _ ?hin ?huu ?hmk
    case hin => exact rz4 hd
    case huu => exact rz5 hu
    case hmk =>
    intro x1 d1 k1 t0m h0m t1m h1m g3 tk3 F3 N3 o3 p3
    w_strict (walk_at "my steps")
    exact hret _ ([_, _, _] ++ tl) _ _ (by k_asm) (rl2 (A := [_, _, _]) (by k_asm) hWn) (ap_three o3 p3 (fun q hq => by have := hWn q hq; k_mem) (fun q hq => off q (by have := hWn q hq; k_mem)) (apart_sub hJ.2 hWn)) (ro_tup eP (.tup (by k_mem) (by k_mem) (by k_mem) (hJ.full hps.length)))
  refine ite_neg c6 ?_
  w_strict (walk_at "my steps")
  refine ⟨?_⟩
  by_cases c7 : oneOf [207] P = true
  · refine ite_pos c7 ?_
    obtain ⟨ps, eP⟩ := rn7 c7
    have ea : itemsP P = some ps := by rw [eP]; rfl
    have ez : psP P = ps := by rw [eP]; rfl
    w_strict (walk_at "my steps")
    refine ⟨?_⟩
    rename PatsIn _ _ ps => hps
    rename (_, _) ∈ kept => ml8
    refine comp_mapB rfl (by k_asm) (by k_asm) (hKW _ ml8) (by rw [hps.length, ← ez]; exact psP_len hd) (fun i ys tl => RJ f kept W ps i ys tl) .zero ?hst ?hdn
    case hst =>
      intro i v I oI C oC D m₂ ys tl h tk E' hv hoC hx2 hJ F2 N2 off hne
      obtain ⟨p1, e1, hp1⟩ := hps.at hv
      obtain ⟨hk1, sz⟩ := subN hkv (by rw [ez]; exact e1)
      w_strict (walk_at "my steps")
      refine ⟨?_⟩
      refine tell_use (c := renT PG w) (d := (p1, f)) kept (by k_asm) (by k_asm) (by k_asm) (by k_asm) (by k_asm) rfl (fun q hq => by have := hKW q hq; k_mem) ⟨_, dn, o, kvs, rfl, hp1, hdnk, hdo, hk1⟩ (IH _ ?lt) ?hd ?hu ?ret
      case lt => exact rz1 sz
      case hd => exact rz2 hd sz
      case hu => exact rz3 hu sz
      case ret =>
      intro r9 tl9 h9 tk9 F9 N9 ha9 ho9
      w_strict (walk_at "my steps")
      refine MapEnd.mk ((tl ++ tl9) ++ W) (by k_asm) (news_sub (by k_asm) (by walk_at "my sub")) (apart_all off ha9) ⟨tl ++ tl9, rfl, hJ.snoc e1 ho9 (apart_sub ha9 fun q hq => by k_mem)⟩
    case hdn =>
    intro D ys tl h tk F2 N2 off hJ
    w_strict (walk_at "my steps")
    refine ⟨?_⟩
    refine mk_plist w loose mean mg mb _ _ _ _ _ _ _ _ _ _ _ _ _ _ _ _ _ _ (by k_asm) (by k_asm) (by k_asm) (by k_asm) (by k_asm) rfl _ ?hin ?huu ?hmk
    case hin => exact rz4 hd
    case huu => exact rz5 hu
    case hmk =>
    intro x1 d1 k1 t0m h0m t1m h1m g3 tk3 F3 N3 o3 p3
    w_strict (walk_at "my steps")
    exact hret _ ([_, _, _] ++ tl) _ _ (by k_asm) (rl2 (A := [_, _, _]) (by k_asm) hWn) (ap_three o3 p3 (fun q hq => by have := hWn q hq; k_mem) (fun q hq => off q (by have := hWn q hq; k_mem)) (apart_sub hJ.2 hWn)) (ro_lst eP (.lst (by k_mem) (by k_mem) (by k_mem) (hJ.full hps.length)))
  refine ite_neg c7 ?_
  w_strict (walk_at "my steps")
  exact hret _ [] _ _ (by k_asm) (by rw [List.append_nil]; exact news_sub (by k_asm) hWn) apart_nil (by rw [List.append_nil, rn8 c1 c2 c3 c4 c5 c6 c7]; exact hp)
end RenText
section SrtText
theorem len_one {α : Type} {l : List α} (h : l.length = 1) : ∃ a, l = [a] := List.length_eq_one_iff.mp h
theorem len_two {α : Type} {l : List α} (h : l.length = 2) : ∃ a b, l = [a, b] := by
  cases l with
  | nil => cases h
  | cons a l => obtain ⟨b, rfl⟩ := len_one (Nat.succ.inj h); exact ⟨a, b, rfl⟩
section
variable {prog : Program} {w : World} {A : Around} {E : Value → Shared → Prop} {s : Shared} {h₀ : Heap} {L d : Addr} {m : Str → Option Value} {news : Led} {o : Obj} {a b : Value} {kvs : List (Int × Value)} {Q : Value → Shared → Prop}
theorem sorted_two (hh : A.handled = none) (F : Fr h₀ L s.heap m) (N : News h₀ L s.heap news) (hm : (d, o) ∈ news) (hd : o.IsDictOf (PySem.intKind prog w) kvs) (lo : (d == sysModules) = false) (hk : kvs = [(0, a), (1, b)])
    (h : ∀ D h' tk t0 t1, Fr h₀ L h' m → News h₀ L h' ((D, lstO [.int 0 t0, .int 1 t1] 0) :: news) → (∀ q ∈ news, q.1 < D) → wpAny (model prog w) A.in1 (call (.builtin "list.sort") [.ref D]) (fun _ s' => Q (.ref D) s') E { s with heap := h', toks := tk }) :
    wpAny (model prog w) A (call (.builtin "sorted") [.ref d]) Q E s := by
  subst hk
  obtain ⟨ep, hat⟩ := (kda_dict N hm hd).dictAt
  refine kdu_sorted (kdl_dict (knd := PySem.intKind prog w) (ep := ep) lo) hh F N hat (kdl_size (by simp)) fun D h' tk vs F' N' l1 hl hv => ?_
  obtain ⟨v0, v1, rfl⟩ := len_two (l := vs) (by simpa using hl)
  obtain ⟨k0, x0, e0, i0⟩ := hv 0 v0 rfl
  obtain ⟨k1, x1, e1, i1⟩ := hv 1 v1 rfl
  simp at e0 e1
  obtain ⟨rfl, _⟩ := e0
  obtain ⟨rfl, _⟩ := e1
  obtain ⟨t0, rfl⟩ := Value.isInt_shape i0
  obtain ⟨t1, rfl⟩ := Value.isInt_shape i1
  exact h D h' tk t0 t1 F' N' l1
theorem sorted_one (hh : A.handled = none) (F : Fr h₀ L s.heap m) (N : News h₀ L s.heap news) (hm : (d, o) ∈ news) (hd : o.IsDictOf (PySem.intKind prog w) kvs) (lo : (d == sysModules) = false) (hk : kvs = [(0, a)])
    (h : ∀ D h' tk t0, Fr h₀ L h' m → News h₀ L h' ((D, lstO [.int 0 t0] 0) :: news) → (∀ q ∈ news, q.1 < D) → wpAny (model prog w) A.in1 (call (.builtin "list.sort") [.ref D]) (fun _ s' => Q (.ref D) s') E { s with heap := h', toks := tk }) :
    wpAny (model prog w) A (call (.builtin "sorted") [.ref d]) Q E s := by
  subst hk
  obtain ⟨ep, hat⟩ := (kda_dict N hm hd).dictAt
  refine kdu_sorted (kdl_dict (knd := PySem.intKind prog w) (ep := ep) lo) hh F N hat (kdl_size (by simp)) fun D h' tk vs F' N' l1 hl hv => ?_
  obtain ⟨v0, rfl⟩ := len_one (l := vs) (by simpa using hl)
  obtain ⟨k0, x0, e0, i0⟩ := hv 0 v0 rfl
  simp at e0
  obtain ⟨rfl, _⟩ := e0
  obtain ⟨t0, rfl⟩ := Value.isInt_shape i0
  exact h D h' tk t0 F' N' l1
end
end SrtText
section SibText
open PyProof.Rows.LCg
set_option hygiene false
/-- a ConInfo in the ledger -/
inductive InfoIn (news : Led) (i : Addr) (tag : Int) (tn : Str) : Prop
  | mk (d : Addr) (es : List DictEntry) (n : Nat) (u1 u4 : Tok) (m1 : (i, instObj 414 d) ∈ news) (m2 : (d, dictOf es n) ∈ news) (g1 : getL (Str.ofString "tag") es = some (some (.int tag u1))) (g2 : getL (Str.ofString "type_name") es = some (some (.str tn u4)))
theorem InfoIn.mono {news news' : Led} (hs : ∀ p ∈ news, p ∈ news') {i : Addr} {tag : Int} {tn : Str} : InfoIn news i tag tn → InfoIn news' i tag tn
  | ⟨d, es, n, u1, u4, a, b, c, e⟩ => ⟨d, es, n, u1, u4, hs _ a, hs _ b, c, e⟩
theorem InfoIn.of {news : Led} {i d : Addr} {tag : Int} {tn : Str} {es : List DictEntry} {n : Nat} {u1 u4 : Tok} {od : Obj} (ho : dictOf es n = od) (m1 : (i, instObj 414 d) ∈ news) (m2 : (d, od) ∈ news) (g1 : getL (Str.ofString "tag") es = some (some (.int tag u1))) (g2 : getL (Str.ofString "type_name") es = some (some (.str tn u4))) : InfoIn news i tag tn := ⟨d, es, n, u1, u4, m1, ho ▸ m2, g1, g2⟩
theorem fill_sib (w : World) : PySem.Challenge.rw_og0007_01.row.prog = PySem.Challenge.rw_og0007_01.row.prog ∧ hd.heap_39 w.params = hd.heap_39 w.params := by
  k_fill
  exact ⟨rfl, rfl⟩
theorem ok414t (w : World) : AttrOk (hd.heap_39 w.params) 414 (Str.ofString "tag") := by w_on; constructor <;> k_is
theorem ok414n (w : World) : AttrOk (hd.heap_39 w.params) 414 (Str.ofString "type_name") := by w_on; constructor <;> k_is
inductive KnownIn (prog : Program) (w : World) (news : Led) (cd : Addr) : Prop
  | mk (od : Obj) (i1 i2 i3 : Addr) (m : (cd, od) ∈ news) (h : od.IsDictOf (PySem.strKind prog w) [(Str.ofString "M.A", .ref i1), (Str.ofString "M.B", .ref i2), (Str.ofString "M.N", .ref i3)]) (hs : (cd == sysModules) = false)
    (j1 : InfoIn news i1 0 (Str.ofString "T")) (j2 : InfoIn news i2 1 (Str.ofString "T")) (j3 : InfoIn news i3 0 (Str.ofString "N"))
def sibN (nm : Str) : Nat := if nm = Str.ofString "M.N" ∨ nm = Str.ofString "(,)" then 1 else 2
def sibNames : List Str := [Str.ofString "M.A", Str.ofString "M.B", Str.ofString "M.N", Str.ofString "[]", Str.ofString ":", Str.ofString "(,)"]
inductive SibRel (prog : Program) (w : World) (news : Led) (vs : List Value) (nm : Str) : Prop
  | mk (hn : nm ∈ sibNames) (k kd : Addr) (n : Nat) (tc : Tok) (hc : Int) (cd : Addr) (tn : Tok) (e : vs = [.ref k, .str nm tn]) (m1 : (k, instObj 381 kd) ∈ news) (m2 : (kd, dictOf [ent "cons" tc hc (.ref cd)] n) ∈ news) (hk : KnownIn prog w news cd)
abbrev sibT (prog : Program) (w : World) : Told Str where
  Rel := SibRel prog w
  size := fun _ => 20
  Out := fun _ tl r nm => ∃ l ws n, r = .ref l ∧ (l, lstO ws n) ∈ tl ∧ ws.length = sibN nm

theorem dict_at {prog : Program} {w : World} {K : Type} [DecidableEq K] {knd : PySem.KeyKind prog w K} {A : Around} {E : Value → Shared → Prop} {s : Shared} {h₀ : Heap} {L d : Addr} {news : Led} {o : Obj} {kvs : List (K × Value)} {k : K} {key v : Value} {value slice : PySem.Expr} {Q : Value → Shared → Prop} (N : News h₀ L s.heap news) (hp : (d, o) ∈ news) (hd : o.IsDictOf knd kvs) (hkey : knd.is k key = true) (hl : valueAt kvs k = some v) (h : Q v { s with toks := s.toks + 1 })
    (hs : subscripted slice false (.ref d) key = operate [.ref d, key] (getItem (.ref d) key) := by with_unfolding_all rfl) :
    wpAny (model prog w) A (subscriptTail value slice (.ref d) key) Q E s :=
  have hD := kda_dict N hp hd
  tail_any hD.typeIs PySem.F.slot_dict_getitem.lookup (wpAny_getItem_of hkey hD.mapOf hl h) hs
theorem comp_mapH {prog : Program} {w : World} {A : Around} {s : Shared} {env : Env} {h₀ : Heap} {L : Addr} {m : Str → Option Value} {elt : Expr} {x : Str} {scope : Scope} {cl : List (Str × Addr)} {news : Led} {ax : Addr} {vs : List Value} {k : Nat} {Q : Value → Shared → Prop}
    (hh : A.handled = none) (F : Fr h₀ L s.heap m) (N : News h₀ L s.heap news) (hm : (ax, lstO vs k) ∈ news) (hsz : vs.length ≤ 100000)
    (J : Nat → List Value → Led → Prop) (h0 : J 0 [] [])
    (step : Hold (∀ i v I oI C oC D m₂ ys tl h tk (E' : Value → Shared → Prop), vs[i]? = some v → NsObj oC m₂ → m₂ x = some v → J i ys tl → Fr h₀ L h m → News h₀ L h ((I, oI) :: (C, oC) :: (D, lst ys) :: (tl ++ news)) → ApartAll I C D (tl ++ news) → ((@Ne Nat I C) ∧ (@Ne Nat I D) ∧ (@Ne Nat C D)) →
      wpAny (model prog w) A (eval elt (compEnvC scope cl C env)) (MapEnd h₀ L m { s with heap := h, toks := tk } I oI C oC D ys fun y full' => ∃ tl', full' = tl' ++ news ∧ J (i + 1) (ys ++ [y]) tl') E' { s with heap := h, toks := tk }))
    (done : Hold (∀ D ys tl h tk, Fr h₀ L h m → News h₀ L h ((D, lst ys) :: (tl ++ news)) → (∀ p ∈ tl ++ news, p.1 ≠ D) → J vs.length ys tl → Q (.ref D) { s with heap := h, toks := tk })) :
    CompSrc prog w A h₀ L m env elt x scope cl (fun s₂ => FinE h₀ L m s₂ Q) (.ref ax) s := comp_mapB hh F N hm hsz J h0 step.it done.it
theorem st2 {a b : Value} {kk : List (Int × Value)} (e : kk = stored (stored [] 0 a) 1 b) {i : Nat} {t0 t1 : Tok} {v : Value} (hv : ([.int 0 t0, .int 1 t1] : List Value)[i]? = some v) : ∃ j t x, v = .int j t ∧ valueAt kk j = some x := by
  subst e
  match i, hv with
  | 0, hv => simp only [List.getElem?_cons_zero, Option.some.injEq] at hv; exact ⟨0, t0, a, hv.symm, rfl⟩
  | 1, hv => simp only [List.getElem?_cons_succ, List.getElem?_cons_zero, Option.some.injEq] at hv; exact ⟨1, t1, b, hv.symm, rfl⟩
  | i + 2, hv => simp at hv
theorem st1 {a : Value} {kk : List (Int × Value)} (e : kk = stored [] 0 a) {i : Nat} {t0 : Tok} {v : Value} (hv : ([.int 0 t0] : List Value)[i]? = some v) : ∃ j t x, v = .int j t ∧ valueAt kk j = some x := by
  subst e
  match i, hv with
  | 0, hv => simp only [List.getElem?_cons_zero, Option.some.injEq] at hv; exact ⟨0, t0, a, hv.symm, rfl⟩
  | i + 1, hv => simp at hv

local macro_rules | `(tactic| walk_at "my pr") => `(tactic| with_reducible first | assumption | exact And.left (by assumption) | exact And.left (And.right (by assumption)) | exact And.left (And.right (And.right (by assumption))) | exact And.left (And.right (And.right (And.right (by assumption)))) | exact And.left (And.right (And.right (And.right (And.right (by assumption))))) | exact And.left (And.right (And.right (And.right (And.right (And.right (by assumption)))))))
local macro_rules | `(tactic| k_ne) => `(tactic| first | exact neN (Nat.ne_of_lt (by walk_at "my pr")) | exact neN (Nat.ne_of_gt (by walk_at "my pr")) | (refine neN ?_; (try dsimp only); omega))
local macro_rules | `(tactic| walk_at "my steps") => `(tactic| (repeat' (first | (k_unfold; (try dsimp only)) | (walk1 <;> (try dsimp only)))))
local macro_rules | `(tactic| walk_at "execs cons") => `(tactic| first | ((with_reducible show wpAny _ _ _ _ _ (PySem.Shared.mk _ _ _ (_ + 1 + 1) _)); refine gen_toks ?_; intro tk) | ((try ((with_reducible rename Fr _ _ _ _ => F8); refine fr_let F8 ?_; clear F8; intro m8 F8)); (with_reducible refine wpAny_execs_cons ?_); (try dsimp only); refine let_Q ?_; intro qk))
local macro_rules | `(tactic| k_mem) => `(tactic| first | exact List.mem_cons_self | assumption | (refine List.mem_cons_of_mem _ ?_; k_mem) | (refine List.mem_append.mpr (.inr ?_); k_mem) | (refine List.mem_append.mpr (.inl ?_); k_mem))
local macro_rules | `(tactic| walk_at "my sub") => `(tactic| (intro q hq; first | exact hq | (simp only [List.mem_cons, List.mem_append, List.not_mem_nil, or_false, false_or] at hq ⊢; grind)))
local macro_rules | `(tactic| walk_at "my enterC") => `(tactic| (refine' code_defC ?k1 ?k2 ?k3 ?k4 ?k5 ?kA ?kF ?kK ?k6 ?k7 ?k8 ?k9 ?kB ?kD ?_ ?c2 ?c3 ?c4; (case kA | kF => exact rfl); (case kK => first | exact rfl | assumption); (case k1 | k2 | k3 | k4 | k5 => k_asm); (case k6 | k7 => k_is); (case k8 => ktr_room); (case k9 => exact BindsTo.of_eq rfl); (case kB => exact rfl); (case kD => decide +kernel); (case c2 | c3 | c4 => exact rfl); k_whole; intro g' L' h' tk' cells' FG' F' N' Y' B' X' T' l1; (try k_lt l1); k_cells Y'; (try simp only [List.cons_append, List.nil_append] at N'); (try dsimp only); (try k_fold)))
local macro_rules | `(tactic| walk_at "my all") => `(tactic| (first | k_all | exact fun p hp => Nat.ne_of_lt (ktn_ltOf (by assumption) p hp) | exact fun p hp => Nat.ne_of_lt (Nat.lt_succ_of_lt (ktn_ltOf (by assumption) p hp))))
local macro_rules | `(tactic| walk_at "my upd") => `(tactic| (first | (refine' UpdF.head ?a; (case a => walk_at "my all")) | (refine' UpdF.tail ?a ?b; (case a => k_ne); (case b => walk_at "my upd"))))
local macro_rules | `(tactic| walk_at "storeName") => `(tactic| (k_here; k_dflt (refine' storeX_C ?sF ?sN ?sc ?sU ?sd ?_ ?sa ?sb; (case sa | sb => rfl); (case sF | sN => k_asm); (case sc => rfl); (case sU => walk_at "my upd"); (case sd => k_asm); k_whole; intro h' o' F' N' d'; (try dsimp only at N'); (try k_sweep))))
local macro_rules | `(tactic| walk_at "exec For Name Attribute cons nil") => `(tactic| (k_dflt (refine For_turns (by assumption) ?_)))
local macro_rules | `(tactic| walk_at "pyIter ref") => `(tactic| (with_unfolding_all refine kta_keys (knd := PySem.strKind _ _) (enc := PyData.str) (by rfl) (by k_asm) (by k_asm) (by k_mem) (by assumption) (by assumption) (fun _ _ h => Value.isStrOf_shape h) (by assumption) ?_; intro i' l1; (try k_lt l1)))
local macro_rules | `(tactic| walk_at "subscriptTail Attribute Name Name ref str") => `(tactic| (k_dflt (refine dict_at (knd := PySem.strKind _ _) (by assumption) (by k_mem) (by assumption) (beq_self_eq_true _) (by assumption) ?_)))
local macro_rules | `(tactic| walk_at "compareOp NotIn str ref") => `(tactic| (k_dflt (refine kdg_notin (by assumption) (by k_mem) (by assumption) (by assumption) (beq_self_eq_true _) _ (by assumption) ?_)))
local macro_rules | `(tactic| walk_at "UnrEndW") => `(tactic| (k_dflt (refine ⟨_, _, _, _, rfl, by assumption, by assumption, fun p hp q hq => by rw [List.mem_singleton.mp hq]; exact Nat.ne_of_lt (ktn_ltOf (by assumption) p hp), ⟨⟨by k_mem, trivial⟩, ?_⟩⟩)))
local macro_rules | `(tactic| walk_at "subscriptTail Name Name ref int") => `(tactic| (k_dflt (refine dict_at (knd := PySem.intKind _ _) (by assumption) (by k_mem) (by assumption) (intKind_is _ _ _ _) (by assumption) ?_)))
local macro_rules | `(tactic| walk_at "eval ListComp") => `(tactic| (k_dflt (refine LCg.ListComp_U (F₀ := by k_asm) (by with_unfolding_all rfl) (by decide) (by rfl) (by decide) (by rfl) ?_)))
local macro_rules | `(tactic| walk_at "setItem ref int") => `(tactic| (k_dflt (refine' kda_set (knd := PySem.intKind _ _) ?F ?N ?U ?d (intKind_is _ _ _ _) ?z ?_; (case F | N => k_asm); (case U => walk_at "my upd"); (case d => k_asm); (case z => rw [sizeLine_eq]; exact Nat.le_of_ble_eq_true (by with_unfolding_all rfl))); intro h' o' F' N' hd'; (try dsimp only at N')))
local macro_rules | `(tactic| walk_at "call builtin:sorted cons nil") => `(tactic| first | (k_dflt (refine sorted_two (by exact rfl) (by k_asm) (by k_asm) (by k_mem) (by assumption) (by assumption) (by exact rfl) ?_); intro D' h' tk' t0' t1' F' N' l1; (try k_lt l1)) | (k_dflt (refine sorted_one (by exact rfl) (by k_asm) (by k_asm) (by k_mem) (by assumption) (by assumption) (by exact rfl) ?_); intro D' h' tk' t0' F' N' l1; (try k_lt l1)))
local macro_rules | `(tactic| walk_at "CompSrc Subscript cons ref") => `(tactic| (k_dflt (refine comp_mapH rfl (by k_asm) (by k_asm) (by k_mem) (by exact Nat.le_of_ble_eq_true rfl) (fun i ys tl => ys.length = i ∧ tl = []) ⟨rfl, rfl⟩ ?_ ?_)))
local macro_rules | `(tactic| walk_at "getAttr ref") => `(tactic| (k_dflt (first | ((with_reducible show wpAny _ _ (getAttr (Value.ref _) (PySem.Str.ofString "type_name") _) _ _ _); refine gat (by k_asm) (by k_asm) (by k_asm) (by k_mem) (by k_mem) (ok414n _) (by assumption) rfl ?_; intro tk') | ((with_reducible show wpAny _ _ (getAttr (Value.ref _) (PySem.Str.ofString "tag") _) _ _ _); refine gat (by k_asm) (by k_asm) (by k_asm) (by k_mem) (by k_mem) (ok414t _) (by assumption) rfl ?_; intro tk'))))
set_option maxHeartbeats 1000000
theorem sib_T (w : World) (loose mean mg mb) (dp un : Nat) (gd : Option (List Code)) (cn : Str) (cs : Scope) (a : Addr) (ccd : Value) (cl : List (Str × Addr)) (outer : List Env) (A₀ : Around) (base h₀ : Heap) (L : Addr) (m : Str → Option Value) (news : Led) (s : Shared) (Q E : Value → Shared → Prop)
    (k kd cd i1 i2 i3 ix : Addr) (od : Obj) (n : Nat) (tc tn : Tok) (hc : Int) (kvs : List (Str × Value)) (nm : Str) (gt : Int)
    (B : Below A₀ base outer h₀) (F : Fr h₀ L s.heap m) (X : (hd.heap_39 w.params).In h₀)
    (hod : od.IsDictOf (PySem.strKind PySem.Challenge.rw_og0007_01.row.prog w) kvs) (hcd : (cd == sysModules) = false)
    (hx : kvs.map (fun p => Itm.tok (kyVal (PyData.str p.1))) = [.tok (fun t => .str (Str.ofString "M.A") t), .tok (fun t => .str (Str.ofString "M.B") t), .tok (fun t => .str (Str.ofString "M.N") t)])
    (hA : valueAt kvs (Str.ofString "M.A") = some (.ref i1)) (hB : valueAt kvs (Str.ofString "M.B") = some (.ref i2)) (hN : valueAt kvs (Str.ofString "M.N") = some (.ref i3)) (hnm : valueAt kvs nm = some (.ref ix)) (hns : (valueAt kvs nm).isSome = true)
    (N : News h₀ L s.heap ((cd, od) :: news)) (m1 : (k, instObj 381 kd) ∈ news) (m2 : (kd, dictOf [ent "cons" tc hc (.ref cd)] n) ∈ news) (m3 : (cd, od) ∈ news)
    (j1 : InfoIn news i1 0 (Str.ofString "T")) (j2 : InfoIn news i2 1 (Str.ofString "T")) (j3 : InfoIn news i3 0 (Str.ofString "N")) (jx : InfoIn news ix gt (Str.ofString "T"))
    (T : Top hd.view_39 loose mean mg mb h₀) (hk : cs.kind = .function) (hin : dp + 20 < recursionLimit) (hu : un + 100 < cLine)
    (hret : ∀ l ws n h' tk', Fr h₀ L h' m → News h₀ L h' ((l, lstO ws n) :: news) → (∀ p ∈ news, p.1 ≠ l) → ws.length = 2 → Q (.ref l) { s with heap := h', toks := tk' }) :
    wpAny (model PySem.Challenge.rw_og0007_01.row.prog w) (ktrTop dp un gd cn cs L a ccd cl outer) (call (.ref 378) [.ref k, .str nm tn]) Q E s := by
  obtain ⟨d1, es1, n1, u11, u14, m4, m5, ga1, gb1⟩ := j1
  obtain ⟨d2, es2, n2, u21, u24, m6, m7, ga2, gb2⟩ := j2
  obtain ⟨d3, es3, n3, u31, u34, m8, m9, ga3, gb3⟩ := j3
  obtain ⟨dx, es4, n4, u41, u44, ma, mb', ga4, gb4⟩ := jx
  w_on
  revert X
  k_fill
  intro X
  refine wpAny_call ?_
  k_dflt (walk_at "my enterC")
  refine let_A ?_
  intro A9
  try (refine let_env ?_; intro e9)
  w_strict (walk_at "my steps")
  · refine ⟨?_⟩
    rename Obj.IsDictOf _ _ (stored (stored _ _ _) _ _) => hdd
    generalize hkk : stored (stored ([] : List (Int × Value)) _ _) _ _ = kk at hdd
    intro i v I oI C oC D m₂ ys tl h tk E' hv hoC hx2 hJ F2 N2 off hne
    obtain ⟨hJ1, rfl⟩ := hJ
    rw [List.nil_append] at N2 off
    obtain ⟨j, t, x, rfl, hjx⟩ := st2 hkk.symm hv
    w_strict (walk_at "my steps")
    exact MapEnd.mk _ (by assumption) (by assumption) off ⟨[], rfl, by rw [List.length_append, hJ1]; rfl, rfl⟩
  · refine ⟨?_⟩
    intro D ys tl h tk F2 N2 off hJ
    obtain ⟨hJ1, rfl⟩ := hJ
    rw [List.nil_append] at N2 off
    w_strict (walk_at "my steps")
    refine hret D ys ys.length _ _ (by assumption) (news_sub (by assumption) ?s1) ?s2 hJ1
    case s1 => walk_at "my sub"
    case s2 => exact fun p hp => off p (by k_mem)
theorem sib_N (w : World) (loose mean mg mb) (dp un : Nat) (gd : Option (List Code)) (cn : Str) (cs : Scope) (a : Addr) (ccd : Value) (cl : List (Str × Addr)) (outer : List Env) (A₀ : Around) (base h₀ : Heap) (L : Addr) (m : Str → Option Value) (news : Led) (s : Shared) (Q E : Value → Shared → Prop)
    (k kd cd i1 i2 i3 ix : Addr) (od : Obj) (n : Nat) (tc tn : Tok) (hc : Int) (kvs : List (Str × Value)) (nm : Str)
    (B : Below A₀ base outer h₀) (F : Fr h₀ L s.heap m) (X : (hd.heap_39 w.params).In h₀)
    (hod : od.IsDictOf (PySem.strKind PySem.Challenge.rw_og0007_01.row.prog w) kvs) (hcd : (cd == sysModules) = false)
    (hx : kvs.map (fun p => Itm.tok (kyVal (PyData.str p.1))) = [.tok (fun t => .str (Str.ofString "M.A") t), .tok (fun t => .str (Str.ofString "M.B") t), .tok (fun t => .str (Str.ofString "M.N") t)])
    (hA : valueAt kvs (Str.ofString "M.A") = some (.ref i1)) (hB : valueAt kvs (Str.ofString "M.B") = some (.ref i2)) (hN : valueAt kvs (Str.ofString "M.N") = some (.ref i3)) (hnm : valueAt kvs nm = some (.ref ix)) (hns : (valueAt kvs nm).isSome = true)
    (N : News h₀ L s.heap ((cd, od) :: news)) (m1 : (k, instObj 381 kd) ∈ news) (m2 : (kd, dictOf [ent "cons" tc hc (.ref cd)] n) ∈ news) (m3 : (cd, od) ∈ news)
    (j1 : InfoIn news i1 0 (Str.ofString "T")) (j2 : InfoIn news i2 1 (Str.ofString "T")) (j3 : InfoIn news i3 0 (Str.ofString "N")) (jx : InfoIn news ix 0 (Str.ofString "N"))
    (T : Top hd.view_39 loose mean mg mb h₀) (hk : cs.kind = .function) (hin : dp + 20 < recursionLimit) (hu : un + 100 < cLine)
    (hret : ∀ l ws n h' tk', Fr h₀ L h' m → News h₀ L h' ((l, lstO ws n) :: news) → (∀ p ∈ news, p.1 ≠ l) → ws.length = 1 → Q (.ref l) { s with heap := h', toks := tk' }) :
    wpAny (model PySem.Challenge.rw_og0007_01.row.prog w) (ktrTop dp un gd cn cs L a ccd cl outer) (call (.ref 378) [.ref k, .str nm tn]) Q E s := by
  obtain ⟨d1, es1, n1, u11, u14, m4, m5, ga1, gb1⟩ := j1
  obtain ⟨d2, es2, n2, u21, u24, m6, m7, ga2, gb2⟩ := j2
  obtain ⟨d3, es3, n3, u31, u34, m8, m9, ga3, gb3⟩ := j3
  obtain ⟨dx, es4, n4, u41, u44, ma, mb', ga4, gb4⟩ := jx
  w_on
  revert X
  k_fill
  intro X
  refine wpAny_call ?_
  k_dflt (walk_at "my enterC")
  refine let_A ?_
  intro A9
  try (refine let_env ?_; intro e9)
  w_strict (walk_at "my steps")
  · refine ⟨?_⟩
    rename Obj.IsDictOf _ _ (stored _ _ _) => hdd
    generalize hkk : stored ([] : List (Int × Value)) _ _ = kk at hdd
    intro i v I oI C oC D m₂ ys tl h tk E' hv hoC hx2 hJ F2 N2 off hne
    obtain ⟨hJ1, rfl⟩ := hJ
    rw [List.nil_append] at N2 off
    obtain ⟨j, t, x, rfl, hjx⟩ := st1 hkk.symm hv
    w_strict (walk_at "my steps")
    exact MapEnd.mk _ (by assumption) (by assumption) off ⟨[], rfl, by rw [List.length_append, hJ1]; rfl, rfl⟩
  · refine ⟨?_⟩
    intro D ys tl h tk F2 N2 off hJ
    obtain ⟨hJ1, rfl⟩ := hJ
    rw [List.nil_append] at N2 off
    w_strict (walk_at "my steps")
    refine hret D ys ys.length _ _ (by assumption) (news_sub (by assumption) ?s1) ?s2 hJ1
    case s1 => walk_at "my sub"
    case s2 => exact fun p hp => off p (by k_mem)
theorem sib_nil (w : World) (loose mean mg mb) (dp un : Nat) (gd : Option (List Code)) (cn : Str) (cs : Scope) (a : Addr) (ccd : Value) (cl : List (Str × Addr)) (outer : List Env) (A₀ : Around) (base h₀ : Heap) (L : Addr) (m : Str → Option Value) (news : Led) (s : Shared) (Q E : Value → Shared → Prop)
    (k kd cd : Addr) (od : Obj) (n : Nat) (tc tn : Tok) (hc : Int) (kvs : List (Str × Value))
    (B : Below A₀ base outer h₀) (F : Fr h₀ L s.heap m) (X : (hd.heap_39 w.params).In h₀)
    (hod : od.IsDictOf (PySem.strKind PySem.Challenge.rw_og0007_01.row.prog w) kvs) (hcd : (cd == sysModules) = false)
    (hns : (valueAt kvs (Str.ofString "[]")).isSome = false)
    (N : News h₀ L s.heap ((cd, od) :: news)) (m1 : (k, instObj 381 kd) ∈ news) (m2 : (kd, dictOf [ent "cons" tc hc (.ref cd)] n) ∈ news)
    (T : Top hd.view_39 loose mean mg mb h₀) (hk : cs.kind = .function) (hin : dp + 20 < recursionLimit) (hu : un + 100 < cLine)
    (hret : ∀ l ws n h' tk', Fr h₀ L h' m → News h₀ L h' ((l, lstO ws n) :: news) → (∀ p ∈ news, p.1 ≠ l) → ws.length = 2 → Q (.ref l) { s with heap := h', toks := tk' }) :
    wpAny (model PySem.Challenge.rw_og0007_01.row.prog w) (ktrTop dp un gd cn cs L a ccd cl outer) (call (.ref 378) [.ref k, .str (Str.ofString "[]") tn]) Q E s := by
  w_on
  revert X
  k_fill
  intro X
  refine wpAny_call ?_
  k_dflt (walk_at "my enterC")
  refine let_A ?_
  intro A9
  try (refine let_env ?_; intro e9)
  w_strict (walk_at "my steps")
  rename Addr => D
  refine hret D [.str (Str.ofString "[]") 536, .str (Str.ofString ":") 538] 0 _ _ (by assumption) (news_sub (by assumption) ?s1) ?s2 rfl
  case s1 => walk_at "my sub"
  case s2 => first | exact fun p hp => Nat.ne_of_lt (ktn_ltOf (And.right (And.right (And.right (And.right (by assumption))))) p hp) | exact fun p hp => Nat.ne_of_lt (ktn_ltOf (And.right (And.right (And.right (by assumption)))) p hp) | exact fun p hp => Nat.ne_of_lt (ktn_ltOf (And.right (And.right (And.right (And.right (And.right (by assumption)))))) p hp)

theorem sib_cons (w : World) (loose mean mg mb) (dp un : Nat) (gd : Option (List Code)) (cn : Str) (cs : Scope) (a : Addr) (ccd : Value) (cl : List (Str × Addr)) (outer : List Env) (A₀ : Around) (base h₀ : Heap) (L : Addr) (m : Str → Option Value) (news : Led) (s : Shared) (Q E : Value → Shared → Prop)
    (k kd cd : Addr) (od : Obj) (n : Nat) (tc tn : Tok) (hc : Int) (kvs : List (Str × Value))
    (B : Below A₀ base outer h₀) (F : Fr h₀ L s.heap m) (X : (hd.heap_39 w.params).In h₀)
    (hod : od.IsDictOf (PySem.strKind PySem.Challenge.rw_og0007_01.row.prog w) kvs) (hcd : (cd == sysModules) = false)
    (hns : (valueAt kvs (Str.ofString ":")).isSome = false)
    (N : News h₀ L s.heap ((cd, od) :: news)) (m1 : (k, instObj 381 kd) ∈ news) (m2 : (kd, dictOf [ent "cons" tc hc (.ref cd)] n) ∈ news)
    (T : Top hd.view_39 loose mean mg mb h₀) (hk : cs.kind = .function) (hin : dp + 20 < recursionLimit) (hu : un + 100 < cLine)
    (hret : ∀ l ws n h' tk', Fr h₀ L h' m → News h₀ L h' ((l, lstO ws n) :: news) → (∀ p ∈ news, p.1 ≠ l) → ws.length = 2 → Q (.ref l) { s with heap := h', toks := tk' }) :
    wpAny (model PySem.Challenge.rw_og0007_01.row.prog w) (ktrTop dp un gd cn cs L a ccd cl outer) (call (.ref 378) [.ref k, .str (Str.ofString ":") tn]) Q E s := by
  w_on
  revert X
  k_fill
  intro X
  refine wpAny_call ?_
  k_dflt (walk_at "my enterC")
  refine let_A ?_
  intro A9
  try (refine let_env ?_; intro e9)
  w_strict (walk_at "my steps")
  rename Addr => D
  refine hret D [.str (Str.ofString "[]") 536, .str (Str.ofString ":") 538] 0 _ _ (by assumption) (news_sub (by assumption) ?s1) ?s2 rfl
  case s1 => walk_at "my sub"
  case s2 => first | exact fun p hp => Nat.ne_of_lt (ktn_ltOf (And.right (And.right (And.right (And.right (by assumption))))) p hp) | exact fun p hp => Nat.ne_of_lt (ktn_ltOf (And.right (And.right (And.right (by assumption)))) p hp) | exact fun p hp => Nat.ne_of_lt (ktn_ltOf (And.right (And.right (And.right (And.right (And.right (by assumption)))))) p hp)

theorem sib_pair (w : World) (loose mean mg mb) (dp un : Nat) (gd : Option (List Code)) (cn : Str) (cs : Scope) (a : Addr) (ccd : Value) (cl : List (Str × Addr)) (outer : List Env) (A₀ : Around) (base h₀ : Heap) (L : Addr) (m : Str → Option Value) (news : Led) (s : Shared) (Q E : Value → Shared → Prop)
    (k kd cd : Addr) (od : Obj) (n : Nat) (tc tn : Tok) (hc : Int) (kvs : List (Str × Value))
    (B : Below A₀ base outer h₀) (F : Fr h₀ L s.heap m) (X : (hd.heap_39 w.params).In h₀)
    (hod : od.IsDictOf (PySem.strKind PySem.Challenge.rw_og0007_01.row.prog w) kvs) (hcd : (cd == sysModules) = false)
    (hns : (valueAt kvs (Str.ofString "(,)")).isSome = false)
    (N : News h₀ L s.heap ((cd, od) :: news)) (m1 : (k, instObj 381 kd) ∈ news) (m2 : (kd, dictOf [ent "cons" tc hc (.ref cd)] n) ∈ news)
    (T : Top hd.view_39 loose mean mg mb h₀) (hk : cs.kind = .function) (hin : dp + 20 < recursionLimit) (hu : un + 100 < cLine)
    (hret : ∀ l ws n h' tk', Fr h₀ L h' m → News h₀ L h' ((l, lstO ws n) :: news) → (∀ p ∈ news, p.1 ≠ l) → ws.length = 1 → Q (.ref l) { s with heap := h', toks := tk' }) :
    wpAny (model PySem.Challenge.rw_og0007_01.row.prog w) (ktrTop dp un gd cn cs L a ccd cl outer) (call (.ref 378) [.ref k, .str (Str.ofString "(,)") tn]) Q E s := by
  w_on
  revert X
  k_fill
  intro X
  refine wpAny_call ?_
  k_dflt (walk_at "my enterC")
  refine let_A ?_
  intro A9
  try (refine let_env ?_; intro e9)
  w_strict (walk_at "my steps")
  rename Addr => D
  refine hret D [.str (Str.ofString "(,)") tn] 0 _ _ (by assumption) (news_sub (by assumption) ?s1) ?s2 rfl
  case s1 => walk_at "my sub"
  case s2 => first | exact fun p hp => Nat.ne_of_lt (ktn_ltOf (And.right (And.right (And.right (And.right (by assumption))))) p hp) | exact fun p hp => Nat.ne_of_lt (ktn_ltOf (And.right (And.right (And.right (by assumption)))) p hp) | exact fun p hp => Nat.ne_of_lt (ktn_ltOf (And.right (And.right (And.right (And.right (And.right (by assumption)))))) p hp)

theorem sib_tells (w : World) (loose mean mg mb) : ∀ nm, Tell PySem.Challenge.rw_og0007_01.row.prog w (hd.heap_39 w.params) hd.view_39 loose mean mg mb 378 (sibT PySem.Challenge.rw_og0007_01.row.prog w) nm := by
  intro nm dp un gd cn cs a ccd cl outer A₀ base h₀ L m news kept s vs Q E B F X N T hk hsub hR hd hu hret
  obtain ⟨hn, k, kd, n, tc, hc, cd, tn, rfl, m1, m2, od, i1, i2, i3, m3, hod, hcd, j1, j2, j3⟩ := hR
  replace m1 := hsub _ m1
  replace m2 := hsub _ m2
  replace m3 := hsub _ m3
  have N2 : News h₀ L s.heap ((cd, od) :: news) := fun q hq => (List.mem_cons.mp hq).elim (fun e => e ▸ N _ m3) (N q)
  replace j1 := j1.mono hsub
  replace j2 := j2.mono hsub
  replace j3 := j3.mono hsub
  simp only at hd hu
  have ret : ∀ l ws n h' tk', Fr h₀ L h' m → News h₀ L h' ((l, lstO ws n) :: news) → (∀ p ∈ news, p.1 ≠ l) → ws.length = sibN nm → Q (.ref l) { s with heap := h', toks := tk' } := by
    intro l ws n h' tk' F' N' ap hl
    exact hret _ [(l, lstO ws n)] _ _ F' (news_sub N' (by intro q hq; simp only [List.mem_append, List.mem_cons, List.not_mem_nil, or_false] at hq ⊢; exact hq.symm)) (apart_one ap) ⟨l, ws, n, rfl, List.mem_cons_self, hl⟩
  simp only [sibNames, List.mem_cons, List.not_mem_nil, or_false] at hn
  have vA : valueAt [(Str.ofString "M.A", Value.ref i1), (Str.ofString "M.B", .ref i2), (Str.ofString "M.N", .ref i3)] (Str.ofString "M.A") = some (.ref i1) := by with_unfolding_all rfl
  have vB : valueAt [(Str.ofString "M.A", Value.ref i1), (Str.ofString "M.B", .ref i2), (Str.ofString "M.N", .ref i3)] (Str.ofString "M.B") = some (.ref i2) := by with_unfolding_all rfl
  have vN : valueAt [(Str.ofString "M.A", Value.ref i1), (Str.ofString "M.B", .ref i2), (Str.ofString "M.N", .ref i3)] (Str.ofString "M.N") = some (.ref i3) := by with_unfolding_all rfl
  have v1 : (valueAt [(Str.ofString "M.A", Value.ref i1), (Str.ofString "M.B", .ref i2), (Str.ofString "M.N", .ref i3)] (Str.ofString "[]")).isSome = false := by with_unfolding_all rfl
  have v2 : (valueAt [(Str.ofString "M.A", Value.ref i1), (Str.ofString "M.B", .ref i2), (Str.ofString "M.N", .ref i3)] (Str.ofString ":")).isSome = false := by with_unfolding_all rfl
  have v3 : (valueAt [(Str.ofString "M.A", Value.ref i1), (Str.ofString "M.B", .ref i2), (Str.ofString "M.N", .ref i3)] (Str.ofString "(,)")).isSome = false := by with_unfolding_all rfl
  have hx : ([(Str.ofString "M.A", Value.ref i1), (Str.ofString "M.B", .ref i2), (Str.ofString "M.N", .ref i3)].map fun p => Itm.tok (kyVal (PyData.str p.1))) = [.tok (fun t => .str (Str.ofString "M.A") t), .tok (fun t => .str (Str.ofString "M.B") t), .tok (fun t => .str (Str.ofString "M.N") t)] := rfl
  generalize [(Str.ofString "M.A", Value.ref i1), (Str.ofString "M.B", .ref i2), (Str.ofString "M.N", .ref i3)] = kvs at *
  rcases hn with rfl | rfl | rfl | rfl | rfl | rfl
  · exact sib_T w loose mean mg mb dp un gd cn cs a ccd cl outer A₀ base h₀ L m news s Q E k kd cd i1 i2 i3 i1 od n tc tn hc kvs _ 0 B F X hod hcd hx vA vB vN vA (by rw [vA]; rfl) N2 m1 m2 m3 j1 j2 j3 j1 T hk hd (by omega) fun l ws n h' tk' F' N' ap hl => ret l ws n h' tk' F' N' ap (hl.trans (by decide +kernel))
  · exact sib_T w loose mean mg mb dp un gd cn cs a ccd cl outer A₀ base h₀ L m news s Q E k kd cd i1 i2 i3 i2 od n tc tn hc kvs _ 1 B F X hod hcd hx vA vB vN vB (by rw [vB]; rfl) N2 m1 m2 m3 j1 j2 j3 j2 T hk hd (by omega) fun l ws n h' tk' F' N' ap hl => ret l ws n h' tk' F' N' ap (hl.trans (by decide +kernel))
  · exact sib_N w loose mean mg mb dp un gd cn cs a ccd cl outer A₀ base h₀ L m news s Q E k kd cd i1 i2 i3 i3 od n tc tn hc kvs _ B F X hod hcd hx vA vB vN vN (by rw [vN]; rfl) N2 m1 m2 m3 j1 j2 j3 j3 T hk hd (by omega) fun l ws n h' tk' F' N' ap hl => ret l ws n h' tk' F' N' ap (hl.trans (by decide +kernel))
  · exact sib_nil w loose mean mg mb dp un gd cn cs a ccd cl outer A₀ base h₀ L m news s Q E k kd cd od n tc tn hc kvs B F X hod hcd v1 N2 m1 m2 T hk hd (by omega) fun l ws n h' tk' F' N' ap hl => ret l ws n h' tk' F' N' ap (hl.trans (by decide +kernel))
  · exact sib_cons w loose mean mg mb dp un gd cn cs a ccd cl outer A₀ base h₀ L m news s Q E k kd cd od n tc tn hc kvs B F X hod hcd v2 N2 m1 m2 T hk hd (by omega) fun l ws n h' tk' F' N' ap hl => ret l ws n h' tk' F' N' ap (hl.trans (by decide +kernel))
  · exact sib_pair w loose mean mg mb dp un gd cn cs a ccd cl outer A₀ base h₀ L m news s Q E k kd cd od n tc tn hc kvs B F X hod hcd v3 N2 m1 m2 T hk hd (by omega) fun l ws n h' tk' F' N' ap hl => ret l ws n h' tk' F' N' ap (hl.trans (by decide +kernel))
end SibText
section PoolText
set_option hygiene false
theorem ints_at : ∀ {vs : List Value} {xs : List Int} {i : Nat}, IntsAre vs xs → i < vs.length → ∃ x t, vs[i]? = some (.int x t)
  | _, _, 0, .cons n t _, _ => ⟨n, t, rfl⟩
  | _, _, i + 1, .cons n t r, h => by simpa using ints_at r (by simpa using h)
theorem len_base {prog : Program} {w : World} {A : Around} {E : Value → Shared → Prop} {s : Shared} {h₀ : Heap} {L l : Addr} {m : Str → Option Value} {vs : List Value} {Q : Value → Shared → Prop} (F : Fr h₀ L s.heap m) (hl : h₀.IsList l vs.toArray) (hfit : vs.length ≤ 1000)
    (h : ∀ t tk, Q (.int (vs.length : Nat) t) { s with toks := tk }) : wpAny (model prog w) A (call (.builtin "len") [.ref l]) Q E s := by
  refine Calls.call_len_list (hl.at fun o e => F.keep _ _ e) ?_ (by simpa using h _ _)
  rw [List.size_toArray]; omega
theorem item_base {prog : Program} {w : World} {A : Around} {E : Value → Shared → Prop} {s : Shared} {h₀ : Heap} {L l : Addr} {m : Str → Option Value} {vs : List Value} {xs : List Int} {k : Nat} {u : Tok} {value slice : PySem.Expr} {Q : Value → Shared → Prop} (F : Fr h₀ L s.heap m) (hl : h₀.IsList l vs.toArray) (hi : IntsAre vs xs) (hlen : vs.length ≤ 1000) (hk : k < vs.length)
    (h : ∀ x t, Q (.int x t) s) (hs : subscripted slice false (.ref l) (.int (k : Nat) u) = operate [.ref l, .int (k : Nat) u] (getItem (.ref l) (.int (k : Nat) u)) := by with_unfolding_all rfl) (hg : ∀ r, letTemporaryGo value (.ref l) r = pure () := by intro _; with_unfolding_all rfl) :
    wpAny (model prog w) A (subscriptTail value slice (.ref l) (.int (k : Nat) u)) Q E s := by
  obtain ⟨x, t, e⟩ := ints_at hi hk
  exact item_list (hl.at fun o e => F.keep _ _ e) (Int.natCast_nonneg k) (by omega) (by simpa using e) (h x t) hs hg
local macro_rules | `(tactic| walk_at "my pr") => `(tactic| with_reducible first | assumption | exact And.left (by assumption) | exact And.left (And.right (by assumption)) | exact And.left (And.right (And.right (by assumption))) | exact And.left (And.right (And.right (And.right (by assumption)))) | exact And.left (And.right (And.right (And.right (And.right (by assumption))))) | exact And.left (And.right (And.right (And.right (And.right (And.right (by assumption)))))))
local macro_rules | `(tactic| k_ne) => `(tactic| first | exact neN (Nat.ne_of_lt (by walk_at "my pr")) | exact neN (Nat.ne_of_gt (by walk_at "my pr")) | (refine neN ?_; (try dsimp only); omega))
local macro_rules | `(tactic| walk_at "my steps") => `(tactic| (repeat' (first | (k_unfold; (try dsimp only)) | (walk1 <;> (try dsimp only)))))
local macro_rules | `(tactic| walk_at "execs cons") => `(tactic| first | ((with_reducible show wpAny _ _ _ _ _ (PySem.Shared.mk _ _ _ (_ + 1 + 1) _)); refine gen_toks ?_; intro tk) | ((try ((with_reducible rename Fr _ _ _ _ => F8); refine fr_let F8 ?_; clear F8; intro m8 F8)); (with_reducible refine wpAny_execs_cons ?_); (try dsimp only); refine let_Q ?_; intro qk))
local macro_rules | `(tactic| walk_at "my enter") => `(tactic| (refine' code_def ?k1 ?k2 ?k3 ?k4 ?k5 ?kA ?kF ?kK ?k6 ?k7 ?k8 ?k9 ?kB ?_ ?c2 ?c3 ?c4 ?c5; (case kA | kF => exact rfl); (case kK => first | exact rfl | assumption); (case k1 | k2 | k3 | k4 | k5 => k_asm); (case k6 | k7 => k_is); (case k8 => ktr_room); (case k9 => first | exact BindsTo.of_eq rfl | exact binds_K (by k_in) rfl (by k_is) rfl rfl rfl); (case c5 => decide); (case kB => exact locs rfl); (case c2 | c3 | c4 => exact rfl); k_whole; intro g' L' h' FG' F' N' B' X' T'; (try dsimp only); (try k_fold)))
local macro_rules | `(tactic| walk_at "call builtin:len cons nil") => `(tactic| (k_dflt (refine len_base (by k_asm) (by k_asm) (by assumption) ?_); intro t' tk'))
local macro_rules | `(tactic| walk_at "subscriptTail Name Name ref int") => `(tactic| (k_dflt (refine item_base (by k_asm) (by k_asm) (by assumption) (by assumption) (by assumption) ?_); intro x' t'))
set_option maxHeartbeats 1000000
theorem pool_use (w : World) (loose mean mg mb) (dp un : Nat) (gd : Option (List Code)) (cn : Str) (cs : Scope) (a : Addr) (ccd : Value) (cl : List (Str × Addr)) (outer : List Env) (A₀ : Around) (base h₀ : Heap) (L : Addr) (m : Str → Option Value) (news : Led) (s : Shared) (Q E : Value → Shared → Prop)
    (B : Below A₀ base outer h₀) (F : Fr h₀ L s.heap m) (X : (hd.heap_39 w.params).In h₀) (N : News h₀ L s.heap news) (T : Top hd.view_39 loose mean mg mb h₀) (hk : cs.kind = .function)
    (hin : dp + 10 < recursionLimit) (hu : un + 64 < cLine) {sl : Addr} {vs : List Value} {xs : List Int} (hl : h₀.IsList sl vs.toArray) (hi : IntsAre vs xs) (hlen : vs.length ≤ 1000) (k : Nat) (hk2 : k ≤ 1) (tk : Tok)
    (hret : ∀ S x y tx ty n h' tk', Fr h₀ L h' m → News h₀ L h' ((S, lstO [.int x tx, .int y ty] n) :: news) → (∀ p ∈ news, p.1 < S) → Q (.ref S) { s with heap := h', toks := tk' }) :
    wpAny (model PySem.Challenge.rw_og0007_01.row.prog w) (ktrTop dp un gd cn cs L a ccd cl outer) (call (.ref 436) [.ref sl, .int (k : Nat) tk]) Q E s := by
  w_on
  revert X
  k_fill
  intro X
  refine wpAny_call ?_
  k_dflt (walk_at "my enter")
  refine let_A ?_
  intro A9
  try (refine let_env ?_; intro e9)
  rename Fr h₀ L _ m => FG
  have hl' := hl.at fun o e => FG.keep _ _ e
  clear hl
  by_cases hkl : k < vs.length
  · have hkl' : (k : Int) < (vs.length : Int) := by omega
    w_strict (walk_at "my steps")
    exact hret _ _ _ _ _ _ _ _ (by k_asm) (by k_asm) (by assumption)
  · have hkl' : ¬ (k : Int) < (vs.length : Int) := by omega
    w_strict (walk_at "my steps")
    exact hret _ _ _ _ _ _ _ _ (by k_asm) (by k_asm) (by assumption)

local macro_rules | `(tactic| walk_at "subscriptTail Name Constant ref int") => `(tactic| (k_dflt (refine item_at (by k_asm) List.mem_cons_self (by decide) (by decide) (by exact rfl) ?_ (by with_unfolding_all rfl))))
local macro_rules | `(tactic| walk_at "setItem ref int int") => `(tactic| (k_dflt (refine' ki_set ?F ?N ?a ?b ?e ?U ?_; (case F | N => k_asm); (case U => exact Upd.head (by assumption)); (case a | b => decide); (case e => rfl)); intro h' F' N'))
/-- _law_take: a number below top; the source's two numbers change -/
theorem take_use (w : World) (loose mean mg mb) (dp un : Nat) (gd : Option (List Code)) (cn : Str) (cs : Scope) (a : Addr) (ccd : Value) (cl : List (Str × Addr)) (outer : List Env) (A₀ : Around) (base h₀ : Heap) (L : Addr) (m : Str → Option Value) (news : Led) (s : Shared) (Q E : Value → Shared → Prop)
    (B : Below A₀ base outer h₀) (F : Fr h₀ L s.heap m) (X : (hd.heap_39 w.params).In h₀) {S : Addr} {x y : Int} {tx ty : Tok} {n : Nat} (N : News h₀ L s.heap ((S, lstO [.int x tx, .int y ty] n) :: news)) (off : ∀ p ∈ news, p.1 ≠ S) (T : Top hd.view_39 loose mean mg mb h₀) (hk : cs.kind = .function)
    (hin : dp + 10 < recursionLimit) (hu : un + 64 < cLine) (top : Int) (htop : 0 < top) (htop2 : top ≤ 100) (tt : Tok)
    (hret : ∀ r tr x y tx ty n h' tk', 0 ≤ r → r < top → Fr h₀ L h' m → News h₀ L h' ((S, lstO [.int x tx, .int y ty] n) :: news) → Q (.int r tr) { s with heap := h', toks := tk' }) :
    wpAny (model PySem.Challenge.rw_og0007_01.row.prog w) (ktrTop dp un gd cn cs L a ccd cl outer) (call (.ref 443) [.ref S, .int top tt]) Q E s := by
  w_on
  revert X
  k_fill
  intro X
  refine wpAny_call ?_
  k_dflt (walk_at "my enter")
  refine let_A ?_
  intro A9
  try (refine let_env ?_; intro e9)
  by_cases hx : 0 < x
  · w_strict (walk_at "my steps")
    exact hret _ _ _ _ _ _ _ _ _ (Int.fmod_nonneg_of_pos _ htop) (Int.fmod_lt_of_pos _ htop) (by k_asm) (by k_asm)
  · w_strict (walk_at "my steps")
    exact hret _ _ _ _ _ _ _ _ _ (Int.fmod_nonneg_of_pos _ htop) (Int.fmod_lt_of_pos _ htop) (by k_asm) (by k_asm)
end PoolText
section SprText
open PyProof.Rows.LCg
set_option hygiene false

def spr : Pat → Pat
  | .tup ps => .con (Str.ofString "(,)") ps
  | .lst [] => .con (Str.ofString "[]") []
  | .lst (p :: ps) => .con (Str.ofString ":") [p, .lst ps]
  | p => p
def two : Pat → Prop
  | .tup ps => ps.length = 2
  | .lst ps => ps.length ≤ 1000
  | _ => True
inductive New2 (h₀ h : Heap) (L : Addr) (news : Led) (q r : Addr × Obj) : Prop
  | mk (tl : Led) (N : News h₀ L h (news ++ tl)) (ap : ∀ x ∈ news, ∀ y ∈ tl, x.1 ≠ y.1) (mq : q ∈ tl) (mr : r ∈ tl)
theorem new2 {h₀ h : Heap} {L : Addr} {q r : Addr × Obj} {W news : Led} (N : News h₀ L h (q :: r :: W)) (hs : ∀ x ∈ news, x ∈ W) (o : ∀ p ∈ W, p.1 < r.1) (p : @LT.lt Nat _ r.1 q.1) : New2 h₀ h L news q r :=
  ⟨[q, r], news_sub N (fun x hx => by
    rcases List.mem_append.mp hx with hx | hx
    · exact List.mem_cons_of_mem _ (List.mem_cons_of_mem _ (hs x hx))
    · rcases List.mem_cons.mp hx with rfl | hx
      · exact List.mem_cons_self
      · rw [List.mem_singleton.mp hx]; exact List.mem_cons_of_mem _ List.mem_cons_self), fun x hx y hy => by
    rcases List.mem_cons.mp hy with rfl | hy
    · exact Nat.ne_of_lt (Nat.lt_trans (o x (hs x hx)) p)
    · rw [List.mem_singleton.mp hy]; exact Nat.ne_of_lt (o x (hs x hx)), List.mem_cons_self, List.mem_cons_of_mem _ List.mem_cons_self⟩
inductive New3 (h₀ h : Heap) (L : Addr) (news : Led) (q r t : Addr × Obj) : Prop
  | mk (tl : Led) (N : News h₀ L h (news ++ tl)) (ap : ∀ x ∈ news, ∀ y ∈ tl, x.1 ≠ y.1) (mq : q ∈ tl) (mr : r ∈ tl) (mt : t ∈ tl)
theorem new3 {h₀ h : Heap} {L : Addr} {q r t : Addr × Obj} {W news : Led} (N : News h₀ L h (q :: r :: t :: W)) (hs : ∀ x ∈ news, x ∈ W) (o : ∀ p ∈ t :: W, p.1 < r.1) (p : @LT.lt Nat _ r.1 q.1) (l : ∀ x ∈ news, x.1 < t.1) : New3 h₀ h L news q r t :=
  ⟨[q, r, t], news_sub N (fun x hx => by
    rcases List.mem_append.mp hx with hx | hx
    · exact List.mem_cons_of_mem _ (List.mem_cons_of_mem _ (List.mem_cons_of_mem _ (hs x hx)))
    · simp only [List.mem_cons, List.not_mem_nil, or_false] at hx ⊢
      rcases hx with h | h | h
      · exact .inl h
      · exact .inr (.inl h)
      · exact .inr (.inr (.inl h))), fun x hx y hy => by
    have e : @LT.lt Nat _ x.1 r.1 := o x (List.mem_cons_of_mem _ (hs x hx))
    simp only [List.mem_cons, List.not_mem_nil, or_false] at hy
    rcases hy with rfl | rfl | rfl
    · exact Nat.ne_of_lt (Nat.lt_trans e p)
    · exact Nat.ne_of_lt e
    · exact Nat.ne_of_lt (l x hx), List.mem_cons_self, List.mem_cons_of_mem _ List.mem_cons_self, List.mem_cons_of_mem _ (List.mem_cons_of_mem _ List.mem_cons_self)⟩
inductive SprRel (news : Led) (vs : List Value) (P : Pat) : Prop
  | mk (p : Value) (e : vs = [p]) (hp : PatIn news p P) (ht : two P)
abbrev sprT : Told Pat where
  Rel := SprRel
  size := fun _ => 20
  Out := fun kept tl r d => PatIn (kept ++ tl) r (spr d)
inductive Sp1 (P : Pat) : Prop
  | mk (q1 q2 : Pat) (e : itemsP P = some [q1, q2]) (e2 : spr P = .con (Str.ofString "(,)") [q1, q2])
theorem sp1 {P : Pat} (ht : two P) (c : oneOf [180] P = true) : Sp1 P := by
  cases P <;> first | exact Bool.noConfusion (show false = true from c) | skip
  case tup ps =>
    match ps, ht with
    | [a, b], _ => exact ⟨a, b, rfl, rfl⟩
    | [], h => simp [two] at h
    | [_], h => simp [two] at h
    | _ :: _ :: _ :: _, h => simp [two] at h
inductive Sp2 (P : Pat) : Prop
  | nil (e : itemsP P = some []) (e2 : spr P = .con (Str.ofString "[]") [])
  | cons (q : Pat) (ps : List Pat) (e : itemsP P = some (q :: ps)) (e2 : spr P = .con (Str.ofString ":") [q, .lst ps]) (hl : ps.length ≤ 999)
theorem sp2 {P : Pat} (ht : two P) (c : oneOf [207] P = true) : Sp2 P := by
  cases P <;> first | exact Bool.noConfusion (show false = true from c) | skip
  case lst ps =>
    cases ps with
    | nil => exact .nil rfl rfl
    | cons q ps => exact .cons q ps rfl rfl (by simp only [two, List.length_cons] at ht; omega)
theorem sp3 {P : Pat} (c1 : ¬ oneOf [180] P = true) (c2 : ¬ oneOf [207] P = true) : spr P = P := by
  cases P <;> first | rfl | exact absurd rfl c1 | exact absurd rfl c2
theorem sp4 {P : Pat} (c : oneOf [126] P = true) : ∃ i, litP P = some i := by
  cases P <;> first | exact Bool.noConfusion (show false = true from c) | exact ⟨_, rfl⟩
local macro_rules | `(tactic| walk_at "my pr") => `(tactic| with_reducible first | assumption | exact And.left (by assumption) | exact And.left (And.right (by assumption)) | exact And.left (And.right (And.right (by assumption))) | exact And.left (And.right (And.right (And.right (by assumption)))) | exact And.left (And.right (And.right (And.right (And.right (by assumption))))) | exact And.left (And.right (And.right (And.right (And.right (And.right (by assumption)))))))
local macro_rules | `(tactic| k_ne) => `(tactic| first | exact neN (Nat.ne_of_lt (by walk_at "my pr")) | exact neN (Nat.ne_of_gt (by walk_at "my pr")) | (refine neN ?_; (try dsimp only); omega))
local macro_rules | `(tactic| k_mem) => `(tactic| first | exact List.mem_cons_self | assumption | (refine List.mem_cons_of_mem _ ?_; k_mem) | (refine List.mem_append.mpr (.inr ?_); k_mem) | (refine List.mem_append.mpr (.inl ?_); k_mem))
local macro_rules | `(tactic| walk_at "my sub") => `(tactic| (intro q hq; first | exact hq | (simp only [List.mem_cons, List.mem_append, List.not_mem_nil, or_false, false_or] at hq ⊢; grind)))
local macro_rules | `(tactic| walk_at "my steps") => `(tactic| (repeat' (first | (k_unfold; (try dsimp only)) | (walk1 <;> (try (first | (with_reducible show wpAny _ _ (subscriptTail _ (PySem.Expr.Slice _ _ _ _) _ _) _ _ _) | dsimp only))))))
local macro_rules | `(tactic| walk_at "execs cons") => `(tactic| first | ((with_reducible show wpAny _ _ _ _ _ (PySem.Shared.mk _ _ _ (_ + 1 + 1) _)); refine gen_toks ?_; intro tk) | ((try ((with_reducible rename Fr _ _ _ _ => F8); refine fr_let F8 ?_; clear F8; intro m8 F8)); (with_reducible refine wpAny_execs_cons ?_); (try dsimp only); refine let_Q ?_; intro qk))
local macro_rules | `(tactic| walk_at "call ref cons nil") => `(tactic| refine Hold.it ?_)
local macro_rules | `(tactic| walk_at "ite") => `(tactic| first | (refine ite_neg (by first | with_reducible assumption | (simp only [decide_eq_true_eq, beq_iff_eq]; with_reducible assumption)) ?_) | (refine ite_pos (by first | with_reducible assumption | (simp only [decide_eq_true_eq, beq_iff_eq]; with_reducible assumption)) ?_) | (refine ite_neg (by decide) ?_) | (refine ite_pos (by decide) ?_) | refine Hold.it ?_)
local macro_rules | `(tactic| walk_at "my glo") => `(tactic| (refine ⟨?_, rfl, rfl⟩; with_reducible first | exact gn72 _ | exact gn99 _ | exact gn126 _ | exact gn153 _ | exact gn180 _ | exact gn207 _ | exact gn234 _ | exact gn261 _ | exact gn288 _))
local macro_rules | `(tactic| walk_at "my kit") => `(tactic| with_reducible first | exact (kitP _ _).k72 | exact (kitP _ _).k126 | exact (kitP _ _).k153 | exact (kitP _ _).k180 | exact (kitP _ _).k207 | exact (kitP _ _).k234 | exact (kitP _ _).k261 | exact (kitP _ _).k288 | exact (kitP _ _).kTL | exact (kitP _ _).kVA | exact (kitP _ _).kAB | exact (kitP _ _).kALB | exact (kitP _ _).kVWL)
local macro_rules | `(tactic| walk_at "my d") => `(tactic| (k_dflt (exact rfl)))
local macro_rules | `(tactic| walk_at "my j") => `(tactic| (k_whole; intro h' tk' F' N'; (try k_sweep)))
local macro_rules | `(tactic| walk_at "isTrue Call Name cons nil") => `(tactic| (first | ((with_reducible refine isP1 (by k_asm) (by k_asm) (by k_asm) (by k_asm) (by walk_at "my d") (by walk_at "my d") (by assumption) (by k_dflt (walk_at "my glo")) (by walk_at "my kit") (by walk_at "my d") (by walk_at "my d") (by walk_at "my d") (by walk_at "my d") ?_); walk_at "my j") | ((with_reducible refine isP2 (by k_asm) (by k_asm) (by k_asm) (by k_asm) (by walk_at "my d") (by walk_at "my d") (by assumption) (by k_dflt (walk_at "my glo")) (by k_dflt (walk_at "my glo")) (by walk_at "my kit") (by walk_at "my d") (by walk_at "my d") (by walk_at "my d") (by walk_at "my d") ?_); walk_at "my j") | ((with_reducible refine isP3 (by k_asm) (by k_asm) (by k_asm) (by k_asm) (by walk_at "my d") (by walk_at "my d") (by assumption) (by k_dflt (walk_at "my glo")) (by k_dflt (walk_at "my glo")) (by k_dflt (walk_at "my glo")) (by walk_at "my kit") (by walk_at "my d") (by walk_at "my d") (by walk_at "my d") (by walk_at "my d") ?_); walk_at "my j")))
local macro_rules | `(tactic| walk_at "my g") => `(tactic| first | exact fun _ h => h | assumption | (intro q hq; k_mem))
local macro_rules | `(tactic| walk_at "getAttr ref") => `(tactic| (k_dflt (first | ((with_reducible refine gat_pattern (by k_asm) (by k_asm) (by k_asm) (by assumption) (by walk_at "my g") (by assumption) ?_); intro y tk hq) | ((with_reducible refine gat_args (by k_asm) (by k_asm) (by k_asm) (by assumption) (by walk_at "my g") (by assumption) ?_); intro l vs n tk ml hq) | ((with_reducible refine gat_itemsAt (by k_asm) (by k_asm) (by k_asm) (by assumption) (by walk_at "my g") (by assumption) ?_); intro tk) | ((with_reducible refine gat_items (by k_asm) (by k_asm) (by k_asm) (by assumption) (by walk_at "my g") (by assumption) ?_); intro l vs n tk ml hq) | ((with_reducible refine gat_kind (by k_asm) (by k_asm) (by k_asm) (by assumption) (by walk_at "my g") (by assumption) ?_); intro t tk) | ((with_reducible refine gat_value (by k_asm) (by k_asm) (by k_asm) (by assumption) (by walk_at "my g") (by assumption) ?_); intro t tk) | ((with_reducible refine gat_name (by k_asm) (by k_asm) (by k_asm) (by assumption) (by walk_at "my g") (by assumption) ?_); intro t tk))))
local macro_rules | `(tactic| walk_at "my enter") => `(tactic| (refine' code_def ?k1 ?k2 ?k3 ?k4 ?k5 ?kA ?kF ?kK ?k6 ?k7 ?k8 ?k9 ?kB ?_ ?c2 ?c3 ?c4 ?c5; (case kA | kF => exact rfl); (case kK => first | exact rfl | assumption); (case k1 | k2 | k3 | k4 | k5 => k_asm); (case k6 | k7 => k_is); (case k8 => ktr_room); (case k9 => first | exact BindsTo.of_eq rfl | exact binds_K (by k_in) rfl (by k_is) rfl rfl rfl); (case c5 => decide); (case kB => exact locs rfl); (case c2 | c3 | c4 => exact rfl); k_whole; intro g' L' h' FG' F' N' B' X' T'; (try dsimp only); (try k_fold)))
local macro_rules | `(tactic| walk_at "subscriptTail Name Constant ref int") => `(tactic| (k_dflt (refine item_at (by assumption) (by k_mem) (by decide) (by decide) (by exact rfl) ?_ (by with_unfolding_all rfl))))
local macro_rules | `(tactic| walk_at "subscriptTail Name Slice ref ref") => `(tactic| (k_dflt (refine slice_tail (by assumption) (by assumption) (by k_mem) (by assumption) ?_ (by with_unfolding_all rfl) (by kmk_pure)); intro D' h' F' N' l1; (try k_lt l1); (try k_sweep)))
local macro_rules | `(tactic| walk_at "compareOp Eq ref ref") => `(tactic| (k_dflt (refine PySem.SeqAt.eq_list_lengthsAt (news_list (by assumption) (by k_mem)) (news_list (by assumption) (by k_mem)) (by first | rfl | (simp; done)) (by simp only [Around.deeper_units]; omega) ?_)))
local macro_rules | `(tactic| walk_at "call ref") => `(tactic| (k_here; (with_reducible first | show wpAny _ _ (call (Value.ref 298) _ _) _ _ _ | show wpAny _ _ (call (Value.ref 312) _ _) _ _ _); k_dflt (refine wpAny_call ?_; walk_at "my enter")))
local macro_rules | `(tactic| walk_at "call builtin:len cons nil") => `(tactic| refine Hold.it ?_)
theorem len_at {prog : Program} {w : World} {A : Around} {E : Value → Shared → Prop} {s : Shared} {h₀ : Heap} {L l : Addr} {news : Led} {vs : List Value} {n : Nat} {k : Int} {Q : Value → Shared → Prop} (N : News h₀ L s.heap news) (hm : (l, lstO vs n) ∈ news) (hw : (vs.length : Int) = k) (hk : k < 2 ^ 63)
    (h : ∀ t tk, Q (.int k t) { s with toks := tk }) : wpAny (model prog w) A (call (.builtin "len") [.ref l]) Q E s := by
  subst hw
  refine Calls.call_len_list (list_of N hm) (by simpa using hk) ?_
  have := h (s.toks + 1) (s.toks + 1 + 1)
  simpa using this
set_option maxHeartbeats 2000000
theorem spr_tells (w : World) (loose mean mg mb) : ∀ d, Tell PySem.Challenge.rw_og0007_01.row.prog w (hd.heap_39 w.params) hd.view_39 loose mean mg mb 326 sprT d := by
  intro P
  w_on
  unfold Tell
  k_fill
  intro dp un gd cn cs a ccd cl outer A₀ base h₀ L m news kept s vs Q E B F X N T hk hsub hR hd hu hret
  obtain ⟨p, rfl, hp, ht⟩ := hR
  obtain ⟨x, _, _, rfl, _, _⟩ := hp.inst
  have hp2 := hp.mono hsub
  replace hp := hp
  simp only at hret hd hu ⊢
  refine wpAny_call ?_
  k_dflt (walk_at "my enter")
  rename Fr _ _ _ fun y => _ => Fe
  obtain ⟨mf, Fe2⟩ := fr_form1 (a := Str.ofString "pattern") (v := .ref x) Fe rfl
  clear Fe
  refine anyE fun E0 => ?_
  w_strict (walk_at "my steps")
  refine ⟨?_⟩
  by_cases c1 : oneOf [180] P = true
  · refine ite_pos c1 ?_
    obtain ⟨q1, q2, ei, e2⟩ := sp1 ht c1
    rw [e2] at hret
    w_strict (walk_at "my steps")
    refine ⟨?_⟩
    rename PatsIn _ _ _ => hq9
    rename (_, _) ∈ kept => ml9
    refine len_at (k := 2) (by k_asm) (hsub _ ml9) (by rw [hq9.length]; rfl) (by decide) ?_
    intro t9 tk9
    clear hq9 ml9
    w_strict (walk_at "my steps")
    refine ⟨?_⟩
    refine wpAny_call ?_
    k_dflt (walk_at "my enter")
    w_strict (walk_at "my steps")
    rw [show Str.ofString "(" ++ Txt.mul (Str.ofString ",") (2 - 1) ++ Str.ofString ")" = Str.ofString "(,)" by decide +kernel]
    rename PatsIn _ _ _ => hq9
    rename (_, _) ∈ kept => ml9
    refine ⟨?_⟩
    refine mk_pcon w loose mean mg mb _ _ _ _ _ _ _ _ _ _ _ _ _ _ _ _ _ _ (by k_asm) (by k_asm) (by k_asm) (by k_asm) (by k_asm) rfl _ _ ?hin ?huu ?hmk
    case hin => first | (show dp + 1 + 1 + 10 < _; omega) | (show dp + 1 + 10 < _; omega)
    case huu => first | (show un + 3 + 3 + 64 < _; omega) | (show un + 3 + 64 < _; omega)
    case hmk =>
    intro x1 d1 k1 t0m1 h0m1 t1m1 h1m1 t2m1 h2m1 g1 tk1 F1 N1 o1 p1
    w_strict (walk_at "my steps")
    obtain ⟨tl, Nt, ap, mq, mr⟩ := new2 (show News h₀ L _ (_ :: _ :: news) by k_asm) (fun _ h => h) o1 p1
    exact hret _ tl _ _ (by k_asm) Nt ap (.con (List.mem_append.mpr (.inr mq)) (List.mem_append.mpr (.inr mr)) (List.mem_append.mpr (.inl ml9)) (hq9.mono fun q hq => List.mem_append.mpr (.inl hq)))
  refine ite_neg c1 ?_
  w_strict (walk_at "my steps")
  refine ⟨?_⟩
  by_cases c2 : oneOf [207] P = true
  · refine ite_pos c2 ?_
    cases sp2 ht c2 with
    | nil ei e2 =>
      rw [e2] at hret
      w_strict (walk_at "my steps")
      refine ⟨?_⟩
      rename PatsIn _ _ _ => hq9
      cases hq9
      rename (_, _) ∈ kept => ml9
      have ml8 := hsub _ ml9
      refine wpAny_call ?_
      k_dflt (walk_at "my enter")
      w_strict (walk_at "my steps")
      refine ⟨?_⟩
      rename Addr => l2
      have hl2 : ∀ p ∈ news, p.1 < l2 := fun p hp => ktn_ltOf (And.right (by assumption)) p hp
      refine mk_pcon w loose mean mg mb _ _ _ _ _ _ _ _ _ _ _ _ _ _ _ _ _ _ (by k_asm) (by k_asm) (by k_asm) (by k_asm) (by k_asm) rfl _ _ ?hin ?huu ?hmk
      case hin => first | (show dp + 1 + 1 + 10 < _; omega) | (show dp + 1 + 10 < _; omega)
      case huu => first | (show un + 3 + 3 + 64 < _; omega) | (show un + 3 + 64 < _; omega)
      case hmk =>
      intro x1 d1 k1 t0m1 h0m1 t1m1 h1m1 t2m1 h2m1 g1 tk1 F1 N1 o1 p1
      w_strict (walk_at "my steps")
      obtain ⟨tl, Nt, ap, mq, mr, mt⟩ := new3 (show News h₀ L _ (_ :: _ :: (l2, lstO [] 0) :: _) by k_asm) (fun _ h => List.mem_cons_of_mem _ h) o1 p1 hl2
      exact hret _ tl _ _ (by k_asm) Nt ap (.con (List.mem_append.mpr (.inr mq)) (List.mem_append.mpr (.inr mr)) (List.mem_append.mpr (.inr mt)) .nil)
    | cons q ps ei e2 hl =>
      rw [e2] at hret
      w_strict (walk_at "my steps")
      refine ⟨?_⟩
      rename PatsIn _ _ _ => hq9
      rename (_, _) ∈ kept => ml9
      cases hq9 with
      | cons hp1 hps =>
      have ml8 := hsub _ ml9
      have hzz : _ ≤ 1000 := Nat.le_trans (Nat.le_of_eq hps.length) (Nat.le_trans hl (by decide))
      refine wpAny_call ?_
      k_dflt (walk_at "my enter")
      w_strict (walk_at "my steps")
      refine ⟨?_⟩
      rename Addr => D2
      have hl2 : ∀ p ∈ news, p.1 < D2 := fun p hp => ktn_ltOf (And.right (by assumption)) p hp
      refine mk_plist w loose mean mg mb _ _ _ _ _ _ _ _ _ _ _ _ _ _ _ _ _ _ (by k_asm) (by k_asm) (by k_asm) (by k_asm) (by k_asm) rfl _ ?hin ?huu ?hmk
      case hin => first | (show dp + 1 + 1 + 10 < _; omega) | (show dp + 1 + 10 < _; omega)
      case huu => first | (show un + 3 + 3 + 64 < _; omega) | (show un + 3 + 64 < _; omega)
      case hmk =>
      intro x1 d1 k1 t0m1 h0m1 t1m1 h1m1 g1 tk1 F1 N1 o1 p1
      obtain ⟨tl1, N2, ap1, mq1, mr1, mt1⟩ := new3 N1 (fun _ h => List.mem_cons_of_mem _ h) o1 p1 hl2
      clear N1
      w_strict (walk_at "my steps")
      refine ⟨?_⟩
      rename Addr => l2
      have l1 : ∀ p ∈ news ++ tl1, p.1 < l2 := by assumption
      refine mk_pcon w loose mean mg mb _ _ _ _ _ _ _ _ _ _ _ _ _ _ _ _ _ _ (by k_asm) (by k_asm) (by k_asm) (by k_asm) (by k_asm) rfl _ _ ?hin2 ?huu2 ?hmk2
      case hin2 => first | (show dp + 1 + 1 + 10 < _; omega) | (show dp + 1 + 10 < _; omega)
      case huu2 => first | (show un + 3 + 3 + 64 < _; omega) | (show un + 3 + 64 < _; omega)
      case hmk2 =>
      intro x2 d2 k2 t0m2 h0m2 t1m2 h1m2 t2m2 h2m2 g2 tk2 F2 N2' o2 p2
      w_strict (walk_at "my steps")
      obtain ⟨tl2, Nt, ap2, mq2, mr2, mt2⟩ := new3 (show News h₀ L _ (_ :: _ :: (l2, lstO [_, .ref x1] 0) :: _) by k_asm) (news := news ++ tl1) (fun _ h => h) o2 p2 l1
      rw [List.append_assoc] at Nt
      have i1 : ∀ q ∈ kept, q ∈ kept ++ (tl1 ++ tl2) := fun q hq => List.mem_append.mpr (.inl hq)
      have i2 : ∀ q ∈ tl1, q ∈ kept ++ (tl1 ++ tl2) := fun q hq => List.mem_append.mpr (.inr (List.mem_append.mpr (.inl hq)))
      have i3 : ∀ q ∈ tl2, q ∈ kept ++ (tl1 ++ tl2) := fun q hq => List.mem_append.mpr (.inr (List.mem_append.mpr (.inr hq)))
      exact hret _ (tl1 ++ tl2) _ _ (by k_asm) Nt (apart_app ap1 (apart_sub ap2 fun q hq => List.mem_append.mpr (.inl hq))) (.con (i3 _ mq2) (i3 _ mr2) (i3 _ mt2) (.cons (hp1.mono i1) (.cons (.lst (i2 _ mq1) (i2 _ mr1) (i2 _ mt1) (hps.mono i1)) .nil)))
  refine ite_neg c2 ?_
  rw [sp3 c1 c2] at hret
  w_strict (walk_at "my steps")
  refine ⟨?_⟩
  by_cases c3 : oneOf [126] P = true
  · refine ite_pos c3 ?_
    obtain ⟨i, ei⟩ := sp4 c3
    w_strict (walk_at "my steps")
    exact hret _ [] _ _ (by k_asm) (by rw [List.append_nil]; k_asm) apart_nil (by rw [List.append_nil]; exact hp)
  refine ite_neg c3 ?_
  w_strict (walk_at "my steps")
  exact hret _ [] _ _ (by k_asm) (by rw [List.append_nil]; k_asm) apart_nil (by rw [List.append_nil]; exact hp)
end SprText
section PlainText
inductive Kd where
  | T | N | P | L | I
deriving DecidableEq
def Kd.cons : Kd → List (Str × List Kd)
  | .T => [(Str.ofString "M.A", []), (Str.ofString "M.B", [.T, .I])]
  | .N => [(Str.ofString "M.N", [.T])]
  | .P => [(Str.ofString "(,)", [.T, .I])]
  | .L => [(Str.ofString "[]", []), (Str.ofString ":", [.I, .L])]
  | .I => []
def lotsOf (g : Kd → List Val) : List Kd → List (List Val) → List (List Val)
  | [], lots => lots
  | f :: fs, lots => lotsOf g fs (lots.flatMap fun lot => (g f).map fun x => lot ++ [x])
def partsK (g : Kd → List Val) (k : Kd) : List Val := k.cons.flatMap fun c => (lotsOf g c.2 [[]]).map (Val.con c.1)
def valsK : Nat → Kd → List Val
  | _, .I => [.int 0, .int 1, .int 2]
  | 0, k => partsK (fun _ => []) k
  | d + 1, k => partsK (valsK d) k
mutual
def okP : Kd → Nat → Pat → Prop
  | _, _, .wild => True | _, _, .var _ => True
  | k, _, .lit _ => k = .I
  | k, d, .as_ _ p => 0 < d ∧ okP k (d - 1) p | k, d, .lazy p => 0 < d ∧ okP k (d - 1) p | k, d, .bang p => 0 < d ∧ okP k (d - 1) p
  | k, d, .con n ps => 0 < d ∧ ∃ fs, (n, fs) ∈ k.cons ∧ okPs fs (d - 1) ps
  | k, d, .tup ps => 0 < d ∧ k = .P ∧ okPs [.T, .I] (d - 1) ps
  | k, d, .lst ps => 0 < d ∧ k = .L ∧ ps.length ≤ 2 ∧ okPs (ps.map fun _ => .I) 0 ps
def okPs : List Kd → Nat → List Pat → Prop
  | [], _, [] => True
  | k :: ks, d, p :: ps => okP k d p ∧ okPs ks d ps
  | _, _, _ => False
end
def sib1 (n : Str) : Bool := decide (n = Str.ofString "M.N") || decide (n = Str.ofString "(,)")
mutual
def takes : Pat → Bool
  | .wild => true | .var _ => true | .lazy _ => true
  | .as_ _ p => takes p | .bang p => takes p
  | .lit _ => false | .lst _ => false
  | .tup ps => takesZ ps
  | .con n ps => sib1 n && takesZ ps
def takesZ : List Pat → Bool
  | [] => true
  | p :: ps => takes p && takesZ ps
end
mutual
def okV : Kd → Val → Prop
  | k, .int _ => k = .I
  | k, .con n xs => ∃ fs, (n, fs) ∈ k.cons ∧ okVs fs xs
def okVs : List Kd → List Val → Prop
  | [], [] => True
  | k :: ks, x :: xs => okV k x ∧ okVs ks xs
  | _, _ => False
end
theorem okVs_snoc : ∀ {ks : List Kd} {xs : List Val} {k : Kd} {x : Val}, okVs ks xs → okV k x → okVs (ks ++ [k]) (xs ++ [x])
  | [], [], _, _, _, h => ⟨h, trivial⟩
  | k :: ks, x :: xs, _, _, ⟨h1, h2⟩, h => ⟨h1, okVs_snoc h2 h⟩
theorem lots_ok {g : Kd → List Val} (hg : ∀ k, ∀ v ∈ g k, okV k v) : ∀ (fs pre : List Kd) (lots : List (List Val)), (∀ l ∈ lots, okVs pre l) → ∀ l ∈ lotsOf g fs lots, okVs (pre ++ fs) l
  | [], pre, lots, h, l, hl => by rw [List.append_nil]; exact h l hl
  | f :: fs, pre, lots, h, l, hl => by
    have := lots_ok hg fs (pre ++ [f]) _ (fun l hl => ?_) l hl
    · rwa [List.append_assoc] at this
    · simp only [List.mem_flatMap, List.mem_map] at hl
      obtain ⟨a, ha, x, hx, rfl⟩ := hl
      exact okVs_snoc (h a ha) (hg f x hx)
theorem parts_ok {g : Kd → List Val} (hg : ∀ k, ∀ v ∈ g k, okV k v) (k : Kd) : ∀ v ∈ partsK g k, okV k v := by
  intro v hv
  simp only [partsK, List.mem_flatMap, List.mem_map] at hv
  obtain ⟨c, hc, l, hl, rfl⟩ := hv
  exact ⟨c.2, hc, by simpa using lots_ok hg c.2 [] [[]] (by simp [okVs]) l hl⟩
theorem vals_ok : ∀ (d : Nat) (k : Kd), ∀ v ∈ valsK d k, okV k v
  | 0, k => by
    cases k
    case I => intro v hv; simp only [valsK, List.mem_cons, List.not_mem_nil, or_false] at hv; rcases hv with rfl | rfl | rfl <;> rfl
    all_goals exact parts_ok (g := fun _ => []) (fun _ _ h => nomatch h) _
  | d + 1, k => by
    cases k
    case I => intro v hv; simp only [valsK, List.mem_cons, List.not_mem_nil, or_false] at hv; rcases hv with rfl | rfl | rfl <;> rfl
    all_goals exact parts_ok (vals_ok d) _
theorem cons_fun {k : Kd} {n : Str} {fs gs : List Kd} (h1 : (n, fs) ∈ k.cons) (h2 : (n, gs) ∈ k.cons) : fs = gs := by
  have e1 : ¬ Str.ofString "M.A" = Str.ofString "M.B" := by decide +kernel
  have e2 : ¬ Str.ofString "M.B" = Str.ofString "M.A" := by decide +kernel
  have e3 : ¬ Str.ofString "[]" = Str.ofString ":" := by decide +kernel
  have e4 : ¬ Str.ofString ":" = Str.ofString "[]" := by decide +kernel
  cases k <;> simp only [Kd.cons, List.mem_cons, List.not_mem_nil, or_false, Prod.mk.injEq] at h1 h2
  all_goals (rcases h1 with ⟨rfl, rfl⟩ | ⟨rfl, rfl⟩) <;> (try rcases h2 with ⟨a, rfl⟩ | ⟨a, rfl⟩) <;> first | rfl | contradiction | simp_all
theorem cons_I {n : Str} {fs : List Kd} (h : (n, fs) ∈ Kd.I.cons) : False := nomatch h
mutual
theorem okf_of : ∀ {p : Pat} {k : Kd} {d : Nat} {v : Val}, okP k d p → okV k v → Okf p v
  | .wild, _, _, _, _, _ => trivial
  | .var _, _, _, _, _, _ => trivial
  | .lazy _, _, _, _, _, _ => trivial
  | .as_ _ p, _, _, _, h, hv => by simp only [okP] at h; simp only [Okf]; exact okf_of h.2 hv
  | .bang p, _, _, _, h, hv => by simp only [okP] at h; simp only [Okf]; exact okf_of h.2 hv
  | .lit _, k, _, .int _, _, _ => trivial
  | .lit _, k, _, .con _ _, h, hv => by simp only [okP] at h; subst h; obtain ⟨fs, hf, _⟩ := hv; exact (cons_I hf).elim
  | .con _ _, k, _, .int _, h, hv => by simp only [okP] at h; simp only [okV] at hv; subst hv; obtain ⟨_, fs, hf, _⟩ := h; exact (cons_I hf).elim
  | .con n ps, k, _, .con m xs, h, hv => by
    simp only [okP] at h; simp only [okV] at hv
    simp only [Okf]
    rintro rfl
    obtain ⟨_, fs, hf, hp⟩ := h
    obtain ⟨gs, hg, hx⟩ := hv
    exact okZ_of hp (cons_fun hf hg ▸ hx)
  | .tup ps, k, _, .int _, h, hv => by simp only [okP] at h; simp only [okV] at hv; subst hv; cases h.2.1
  | .tup ps, k, _, .con m xs, h, hv => by
    simp only [okP] at h; simp only [okV] at hv
    obtain ⟨_, rfl, hp⟩ := h
    obtain ⟨gs, hg, hx⟩ := hv
    simp only [Kd.cons, List.mem_cons, List.not_mem_nil, or_false, Prod.mk.injEq] at hg
    obtain ⟨rfl, rfl⟩ := hg
    simp only [Okf]
    exact okZ_of hp hx
  | .lst ps, k, _, v, h, hv => by
    simp only [okP] at h
    obtain ⟨_, rfl, _, hp⟩ := h
    simp only [Okf]
    exact okL_of hp hv
theorem okZ_of : ∀ {ps : List Pat} {ks : List Kd} {d : Nat} {vs : List Val}, okPs ks d ps → okVs ks vs → OkZ ps vs
  | [], _, _, _, _, _ => by simp [OkZ]
  | _ :: _, _, _, [], _, _ => by simp [OkZ]
  | p :: ps, k :: ks, d, v :: vs, h, hv => by
    simp only [okPs] at h; simp only [okVs] at hv
    simp only [OkZ]
    exact ⟨okf_of h.1 hv.1, okZ_of h.2 hv.2⟩
theorem okL_of : ∀ {ps : List Pat} {v : Val}, okPs (ps.map fun _ => .I) 0 ps → okV .L v → OkL ps v
  | [], .con _ _, _, _ => by simp [OkL]
  | [], .int _, _, h => by simp [okV] at h
  | p :: ps, .int _, _, h => by simp [okV] at h
  | p :: ps, .con m vs, h, hv => by
    simp only [OkL]
    intro hm
    obtain ⟨fs, hf, hfs⟩ := hv
    subst hm
    obtain rfl : fs = [.I, .L] := cons_fun hf (by simp [Kd.cons])
    match vs, hfs with
    | [a, b], hfs =>
    simp only [okVs, and_true] at hfs
    simp only [List.map_cons, okPs] at h
    exact ⟨a, b, rfl, okf_of h.1 hfs.1, okL_of h.2 hfs.2⟩
end
mutual
theorem takes_yes : ∀ {p : Pat} {k : Kd} {d : Nat} {v : Val}, okP k d p → okV k v → takes p = true → fits p v = true
  | .wild, _, _, _, _, _, _ => by simp [fits]
  | .var _, _, _, _, _, _, _ => by simp [fits]
  | .lazy _, _, _, _, _, _, _ => by simp [fits]
  | .as_ _ p, _, _, _, h, hv, ht => by simp only [okP] at h; simp only [takes] at ht; simp only [fits]; exact takes_yes h.2 hv ht
  | .bang p, _, _, _, h, hv, ht => by simp only [okP] at h; simp only [takes] at ht; simp only [fits]; exact takes_yes h.2 hv ht
  | .lit _, k, _, _, _, _, ht => by simp [takes] at ht
  | .lst _, k, _, _, _, _, ht => by simp [takes] at ht
  | .con _ _, k, _, .int _, h, hv, _ => by simp only [okP] at h; simp only [okV] at hv; subst hv; obtain ⟨_, fs, hf, _⟩ := h; exact (cons_I hf).elim
  | .con n ps, k, _, .con m xs, h, hv, ht => by
    simp only [okP] at h; simp only [okV] at hv
    simp only [takes, sib1, Bool.and_eq_true, Bool.or_eq_true, decide_eq_true_eq] at ht
    obtain ⟨_, fs, hf, hp⟩ := h
    obtain ⟨gs, hg, hx⟩ := hv
    have hnm : n = m := by
      have e1 : ¬ Str.ofString "M.A" = Str.ofString "M.N" := by decide +kernel
      have e2 : ¬ Str.ofString "M.B" = Str.ofString "M.N" := by decide +kernel
      have e3 : ¬ Str.ofString "[]" = Str.ofString "M.N" := by decide +kernel
      have e4 : ¬ Str.ofString ":" = Str.ofString "M.N" := by decide +kernel
      have e5 : ¬ Str.ofString "M.A" = Str.ofString "(,)" := by decide +kernel
      have e6 : ¬ Str.ofString "M.B" = Str.ofString "(,)" := by decide +kernel
      have e7 : ¬ Str.ofString "[]" = Str.ofString "(,)" := by decide +kernel
      have e8 : ¬ Str.ofString ":" = Str.ofString "(,)" := by decide +kernel
      cases k <;> simp only [Kd.cons, List.mem_cons, List.not_mem_nil, or_false, Prod.mk.injEq] at hf hg
      · rcases hf with ⟨rfl, _⟩ | ⟨rfl, _⟩ <;> simp_all
      · rw [hf.1, hg.1]
      · rw [hf.1, hg.1]
      · rcases hf with ⟨rfl, _⟩ | ⟨rfl, _⟩ <;> simp_all
    subst hnm
    simp only [fits, takesZ_yes hp (cons_fun hf hg ▸ hx) ht.2, decide_true, Bool.and_true]
  | .tup ps, k, _, .int _, h, hv, _ => by simp only [okP] at h; simp only [okV] at hv; subst hv; cases h.2.1
  | .tup ps, k, _, .con m xs, h, hv, ht => by
    simp only [okP] at h; simp only [okV] at hv; simp only [takes] at ht
    obtain ⟨_, rfl, hp⟩ := h
    obtain ⟨gs, hg, hx⟩ := hv
    simp only [Kd.cons, List.mem_cons, List.not_mem_nil, or_false, Prod.mk.injEq] at hg
    obtain ⟨rfl, rfl⟩ := hg
    simp only [fits]
    exact takesZ_yes hp hx ht
theorem takesZ_yes : ∀ {ps : List Pat} {ks : List Kd} {d : Nat} {vs : List Val}, okPs ks d ps → okVs ks vs → takesZ ps = true → fitsZ ps vs = true
  | [], _, _, _, _, _, _ => by simp [fitsZ]
  | _ :: _, _, _, [], _, _, _ => by simp [fitsZ]
  | p :: ps, k :: ks, d, v :: vs, h, hv, ht => by
    simp only [okPs] at h; simp only [okVs] at hv
    simp only [takesZ, Bool.and_eq_true] at ht
    simp only [fitsZ, Bool.and_eq_true]
    exact ⟨takes_yes h.1 hv.1 ht.1, takesZ_yes h.2 hv.2 ht.2⟩
end
theorem vals_T (e : Nat) : Val.con (Str.ofString "M.A") [] ∈ valsK e .T := by
  cases e <;> simp [valsK, partsK, Kd.cons, lotsOf]
theorem vals_nil (e : Nat) : Val.con (Str.ofString "[]") [] ∈ valsK e .L := by
  cases e <;> simp [valsK, partsK, Kd.cons, lotsOf]
theorem vals_I (e : Nat) (i : Int) (h : i = 0 ∨ i = 1 ∨ i = 2) : Val.int i ∈ valsK e .I := by
  cases e <;> rcases h with rfl | rfl | rfl <;> simp [valsK]
theorem vals_one (e : Nat) (k : Kd) (n : Str) (f : Kd) (h : (n, [f]) ∈ k.cons) {a : Val} (ha : a ∈ valsK e f) : Val.con n [a] ∈ valsK (e + 1) k := by
  cases k with
  | I => cases h
  | _ => exact List.mem_flatMap.mpr ⟨_, h, by simp [lotsOf, ha]⟩
theorem vals_two (e : Nat) (k : Kd) (n : Str) (f g : Kd) (h : (n, [f, g]) ∈ k.cons) {a b : Val} (ha : a ∈ valsK e f) (hb : b ∈ valsK e g) : Val.con n [a, b] ∈ valsK (e + 1) k := by
  cases k with
  | I => cases h
  | _ => exact List.mem_flatMap.mpr ⟨_, h, by simp [lotsOf]; exact ⟨[a], ⟨a, ha, rfl⟩, b, hb, rfl⟩⟩
theorem vals_B (e : Nat) : Val.con (Str.ofString "M.B") [.con (Str.ofString "M.A") [], .int 0] ∈ valsK (e + 1) .T :=
  vals_two e .T _ .T .I (by simp [Kd.cons]) (vals_T e) (vals_I e 0 (.inl rfl))
theorem vals_cons (e : Nat) : Val.con (Str.ofString ":") [.int 0, .con (Str.ofString "[]") []] ∈ valsK (e + 1) .L :=
  vals_two e .L _ .I .L (by simp [Kd.cons]) (vals_I e 0 (.inl rfl)) (vals_nil e)
mutual
theorem takes_no : ∀ {p : Pat} {k : Kd} {d e : Nat}, okP k d p → d < e → takes p = false → ∃ v ∈ valsK e k, fits p v = false
  | .wild, _, _, _, _, _, ht => by simp [takes] at ht
  | .var _, _, _, _, _, _, ht => by simp [takes] at ht
  | .lazy _, _, _, _, _, _, ht => by simp [takes] at ht
  | .as_ _ p, _, _, _, h, hv, ht => by simp only [okP] at h; simp only [takes] at ht; simp only [fits]; exact takes_no h.2 (by omega) ht
  | .bang p, _, _, _, h, hv, ht => by simp only [okP] at h; simp only [takes] at ht; simp only [fits]; exact takes_no h.2 (by omega) ht
  | .lit i, k, _, e, h, _, ht => by
    simp only [okP] at h; subst h
    by_cases hi : i = 0
    · exact ⟨_, vals_I e 1 (.inr (.inl rfl)), by simp [fits, hi]⟩
    · exact ⟨_, vals_I e 0 (.inl rfl), by simp [fits, hi]⟩
  | .lst ps, k, d, e + 1, h, hv, ht => by
    simp only [okP] at h
    obtain ⟨_, rfl, _⟩ := h
    have e1 : ¬ Str.ofString ":" = Str.ofString "[]" := by decide +kernel
    have e2 : ¬ Str.ofString "[]" = Str.ofString ":" := by decide +kernel
    cases ps with
    | nil => exact ⟨_, vals_cons e, by simp [fits, fitsL, e1]⟩
    | cons p ps => exact ⟨_, vals_nil (e + 1), by simp [fits, fitsL]⟩
  | .con n ps, k, d, e + 1, h, hv, ht => by
    simp only [okP] at h
    obtain ⟨hd, fs, hf, hp⟩ := h
    have e1 : ¬ Str.ofString "M.A" = Str.ofString "M.B" := by decide +kernel
    have e2 : ¬ Str.ofString "M.B" = Str.ofString "M.A" := by decide +kernel
    have e3 : ¬ Str.ofString "[]" = Str.ofString ":" := by decide +kernel
    have e4 : ¬ Str.ofString ":" = Str.ofString "[]" := by decide +kernel
    cases k with
    | T =>
      simp only [Kd.cons, List.mem_cons, List.not_mem_nil, or_false, Prod.mk.injEq] at hf
      rcases hf with ⟨rfl, rfl⟩ | ⟨rfl, rfl⟩
      · exact ⟨_, vals_B e, by simp [fits, e1]⟩
      · exact ⟨_, vals_T (e + 1), by simp [fits, e2]⟩
    | L =>
      simp only [Kd.cons, List.mem_cons, List.not_mem_nil, or_false, Prod.mk.injEq] at hf
      rcases hf with ⟨rfl, rfl⟩ | ⟨rfl, rfl⟩
      · exact ⟨_, vals_cons e, by simp [fits, e3]⟩
      · exact ⟨_, vals_nil (e + 1), by simp [fits, e4]⟩
    | I => cases hf
    | N =>
      simp only [Kd.cons, List.mem_cons, List.not_mem_nil, or_false, Prod.mk.injEq] at hf
      obtain ⟨rfl, rfl⟩ := hf
      obtain ⟨x, hx, hfx⟩ := takes_one hp (show d - 1 < e by omega) (by simpa [takes, sib1] using ht)
      exact ⟨_, vals_one e .N (Str.ofString "M.N") .T (by simp [Kd.cons]) hx, by simp only [fits, hfx, Bool.and_false]⟩
    | P =>
      simp only [Kd.cons, List.mem_cons, List.not_mem_nil, or_false, Prod.mk.injEq] at hf
      obtain ⟨rfl, rfl⟩ := hf
      obtain ⟨x, y, hx, hy, hfx⟩ := takes_two (vals_T e) (vals_I e 0 (.inl rfl)) hp (show d - 1 < e by omega) (by simpa [takes, sib1] using ht)
      exact ⟨_, vals_two e .P (Str.ofString "(,)") .T .I (by simp [Kd.cons]) hx hy, by simp only [fits, hfx, Bool.and_false]⟩
  | .tup ps, k, d, e + 1, h, hv, ht => by
    simp only [okP] at h
    obtain ⟨hd, rfl, hp⟩ := h
    obtain ⟨x, y, hx, hy, hfx⟩ := takes_two (vals_T e) (vals_I e 0 (.inl rfl)) hp (show d - 1 < e by omega) (by simpa [takes] using ht)
    exact ⟨_, vals_two e .P (Str.ofString "(,)") .T .I (by simp [Kd.cons]) hx hy, by simp only [fits, hfx]⟩
theorem takes_one : ∀ {ps : List Pat} {f : Kd} {d e : Nat}, okPs [f] d ps → d < e → takesZ ps = false → ∃ x, x ∈ valsK e f ∧ fitsZ ps [x] = false
  | [p], f, d, e, h, hd, ht => by
    simp only [okPs, and_true] at h
    simp only [takesZ, Bool.and_true] at ht
    obtain ⟨x, hx, hf⟩ := takes_no h hd ht
    exact ⟨x, hx, by simp [fitsZ, hf]⟩
theorem takes_two : ∀ {ps : List Pat} {f g : Kd} {d e : Nat} {x0 y0 : Val}, x0 ∈ valsK e f → y0 ∈ valsK e g → okPs [f, g] d ps → d < e → takesZ ps = false → ∃ x y, x ∈ valsK e f ∧ y ∈ valsK e g ∧ fitsZ ps [x, y] = false
  | [p, q], f, g, d, e, x0, y0, h1, h2, h, hd, ht => by
    simp only [okPs, and_true] at h
    simp only [takesZ, Bool.and_true, Bool.and_eq_false_iff] at ht
    rcases ht with ht | ht
    · obtain ⟨x, hx, hf⟩ := takes_no h.1 hd ht
      exact ⟨x, y0, hx, h2, by simp [fitsZ, hf]⟩
    · obtain ⟨x, hx, hf⟩ := takes_no h.2 hd ht
      exact ⟨x0, x, h1, hx, by simp [fitsZ, hf]⟩
end
theorem takes_iff {p : Pat} {k : Kd} {d : Nat} (h : okP k d p) : takes p = decide (((valsK (d + 1) k).filter (fits p)).length = (valsK (d + 1) k).length) := by
  cases ht : takes p with
  | true =>
    rw [List.filter_eq_self.mpr fun v hv => takes_yes h (vals_ok _ _ v hv) ht]
    simp
  | false =>
    obtain ⟨v, hv, hf⟩ := takes_no h (Nat.lt_succ_self d) ht
    symm
    rw [decide_eq_false_iff_not]
    intro e
    have := List.length_filter_eq_length_iff.mp e v hv
    rw [hf] at this; cases this
mutual
theorem fits_ren (f : Str → Str) : ∀ (p : Pat) (v : Val), fits (ren f p) v = fits p v
  | .wild, _ => by simp [ren, fits] | .var _, _ => by simp [ren, fits] | .lazy _, _ => by simp [ren, fits]
  | .as_ _ p, v => by simp only [ren, fits]; exact fits_ren f p v
  | .bang p, v => by simp only [ren, fits]; exact fits_ren f p v
  | .lit _, _ => by simp [ren]
  | .con _ ps, .int _ => by simp [ren, fits]
  | .con _ ps, .con _ xs => by simp only [ren, fits, fitsZ_ren f ps xs]
  | .tup ps, .int _ => by simp [ren, fits]
  | .tup ps, .con _ xs => by simp only [ren, fits, fitsZ_ren f ps xs]
  | .lst ps, v => by simp only [ren, fits, fitsL_ren f ps v]
theorem fitsZ_ren (f : Str → Str) : ∀ (ps : List Pat) (vs : List Val), fitsZ (rens f ps) vs = fitsZ ps vs
  | [], _ => by simp [rens, fitsZ]
  | _ :: _, [] => by simp [rens, fitsZ]
  | p :: ps, v :: vs => by simp only [rens, fitsZ, fits_ren f p v, fitsZ_ren f ps vs]
theorem fitsL_ren (f : Str → Str) : ∀ (ps : List Pat) (v : Val), fitsL (rens f ps) v = fitsL ps v
  | [], _ => by simp [rens]
  | _ :: _, .int _ => by simp [rens, fitsL]
  | _ :: _, .con _ [] => by simp [rens, fitsL]
  | _ :: _, .con _ [_] => by simp [rens, fitsL]
  | p :: ps, .con _ (a :: b :: _) => by simp only [rens, fitsL, fits_ren f p a, fitsL_ren f ps b]
end
mutual
theorem vars_ren (f : Str → Str) : ∀ p : Pat, vars (ren f p) = (vars p).map f
  | .wild => rfl | .var _ => rfl | .lit _ => rfl
  | .lazy p => by simp only [ren, vars, vars_ren f p]
  | .as_ _ p => by simp only [ren, vars, vars_ren f p, List.map_cons]
  | .bang p => by simp only [ren, vars, vars_ren f p]
  | .con _ ps => by simp only [ren, vars, varsZ_ren f ps]
  | .tup ps => by simp only [ren, vars, varsZ_ren f ps]
  | .lst ps => by simp only [ren, vars, varsZ_ren f ps]
theorem varsZ_ren (f : Str → Str) : ∀ ps : List Pat, varsZ (rens f ps) = (varsZ ps).map f
  | [] => rfl
  | p :: ps => by simp only [rens, varsZ, vars_ren f p, varsZ_ren f ps, List.map_append]
end
theorem vars_spr (p : Pat) : vars (spr p) = vars p := by
  match p with
  | .wild | .var _ | .lit _ | .con _ _ | .as_ _ _ | .lazy _ | .bang _ => rfl
  | .tup _ => rfl
  | .lst [] => rfl
  | .lst (p :: ps) => simp [spr, vars, varsZ]
theorem fits_spr {p : Pat} {k : Kd} {d : Nat} {v : Val} (h : okP k d p) (hv : okV k v) : fits (spr p) v = fits p v := by
  match p, h with
  | .wild, _ | .var _, _ | .lit _, _ | .con _ _, _ | .as_ _ _, _ | .lazy _, _ | .bang _, _ => rfl
  | .tup ps, h =>
    simp only [okP] at h
    obtain ⟨_, rfl, _⟩ := h
    match v, hv with
    | .int _, hv => simp [okV] at hv
    | .con n xs, hv =>
    obtain ⟨fs, hf, _⟩ := hv
    simp only [Kd.cons, List.mem_cons, List.not_mem_nil, or_false, Prod.mk.injEq] at hf
    simp [spr, fits, hf.1]
  | .lst ps, h =>
    simp only [okP] at h
    obtain ⟨_, rfl, _⟩ := h
    match v, hv with
    | .int _, hv => simp [okV] at hv
    | .con n xs, hv =>
    obtain ⟨fs, hf, hx⟩ := hv
    simp only [Kd.cons, List.mem_cons, List.not_mem_nil, or_false, Prod.mk.injEq] at hf
    have e3 : ¬ Str.ofString "[]" = Str.ofString ":" := by decide +kernel
    have e4 : ¬ Str.ofString ":" = Str.ofString "[]" := by decide +kernel
    rcases hf with ⟨rfl, rfl⟩ | ⟨rfl, rfl⟩
    · cases ps with
      | nil => simp [spr, fits, fitsL, fitsZ]
      | cons p ps => simp [spr, fits, e4]; match xs, hx with | [], _ => simp [fitsL]
    · cases ps with
      | nil => simp [spr, fits, fitsL, e3, e4]
      | cons p ps =>
        match xs, hx with
        | [a, b], _ => simp [spr, fits, fitsL, fitsZ]
mutual
theorem size_of : ∀ {p : Pat} {k : Kd} {d : Nat}, okP k d p → p.size + 4 ≤ 5 * 2 ^ d
  | .wild, _, d, _ => by have := Nat.one_le_two_pow (n := d); simp only [Pat.size]; omega
  | .var _, _, d, _ => by have := Nat.one_le_two_pow (n := d); simp only [Pat.size]; omega
  | .lit _, _, d, _ => by have := Nat.one_le_two_pow (n := d); simp only [Pat.size]; omega
  | .lazy p, _, d + 1, h => by simp only [okP] at h; have := size_of h.2; simp only [Nat.add_sub_cancel] at this; simp only [Pat.size, Nat.pow_succ]; omega
  | .as_ _ p, _, d + 1, h => by simp only [okP] at h; have := size_of h.2; simp only [Nat.add_sub_cancel] at this; simp only [Pat.size, Nat.pow_succ]; omega
  | .bang p, _, d + 1, h => by simp only [okP] at h; have := size_of h.2; simp only [Nat.add_sub_cancel] at this; simp only [Pat.size, Nat.pow_succ]; omega
  | .con n ps, k, d + 1, h => by
    simp only [okP] at h
    obtain ⟨_, fs, hf, hp⟩ := h
    have hl : fs.length ≤ 2 := by
      cases k <;> simp only [Kd.cons, List.mem_cons, List.not_mem_nil, or_false, Prod.mk.injEq] at hf
      · rcases hf with ⟨_, rfl⟩ | ⟨_, rfl⟩ <;> simp
      · rw [hf.2]; simp
      · rw [hf.2]; simp
      · rcases hf with ⟨_, rfl⟩ | ⟨_, rfl⟩ <;> simp
    have := sizes_of hp hl
    simp only [Nat.add_sub_cancel] at this; simp only [Pat.size, Nat.pow_succ]; omega
  | .tup ps, k, d + 1, h => by
    simp only [okP] at h
    have := sizes_of h.2.2 (by simp)
    simp only [Nat.add_sub_cancel] at this; simp only [Pat.size, Nat.pow_succ]; omega
  | .lst ps, k, d + 1, h => by
    simp only [okP] at h
    have := sizes_of h.2.2.2 (by simpa using h.2.2.1)
    have := Nat.one_le_two_pow (n := d)
    simp only [Pat.size, Nat.pow_succ]; omega
theorem sizes_of : ∀ {ps : List Pat} {ks : List Kd} {d : Nat}, okPs ks d ps → ks.length ≤ 2 → Pat.sizes ps + 6 ≤ 10 * 2 ^ d
  | [], _, d, _, _ => by have := Nat.one_le_two_pow (n := d); simp only [Pat.sizes]; omega
  | [p], [k], d, h, _ => by have := Nat.one_le_two_pow (n := d); simp only [okPs] at h; have := size_of h.1; simp only [Pat.sizes]; omega
  | [p, q], [k, k'], d, h, _ => by simp only [okPs] at h; have := size_of h.1; have := size_of h.2.1; simp only [Pat.sizes]; omega
  | [p], [], d, h, _ => by simp [okPs] at h
  | [p], k :: k' :: ks, d, h, _ => by simp [okPs] at h
  | p :: q :: r :: ps, ks, d, h, hl => by
    match ks, h, hl with
    | _ :: _ :: _ :: _, _, hl => simp only [List.length_cons] at hl; omega
  | p :: q :: [], [], d, h, _ => by simp [okPs] at h
  | p :: q :: [], [k], d, h, _ => by simp [okPs] at h
  | p :: q :: [], k :: k' :: k'' :: ks, d, h, hl => by simp only [List.length_cons] at hl; omega
end
theorem okPs_len : ∀ {ps : List Pat} {ks : List Kd} {d : Nat}, okPs ks d ps → ps.length = ks.length
  | [], [], _, _ => rfl
  | _ :: ps, _ :: ks, _, h => by simp only [okPs] at h; simp [okPs_len h.2]
theorem two_of {p : Pat} {k : Kd} {d : Nat} (h : okP k d p) : two p := by
  match p, h with
  | .wild, _ | .var _, _ | .lit _, _ | .con _ _, _ | .as_ _ _, _ | .lazy _, _ | .bang _, _ => trivial
  | .tup ps, h => simp only [okP] at h; exact okPs_len h.2.2
  | .lst ps, h => simp only [okP] at h; exact Nat.le_trans h.2.2.1 (by decide)
end PlainText
section ForKText
section
variable {prog : Program} {w : World} {A : Around} {E : Value → Shared → Prop} {s : Shared} {env : Env} {h₀ : Heap} {target : Expr} {body : List Stmt} {Q : Flow → Shared → Prop} {K : Frag} {m₀ : Str → Option Value} {news : Led} {l : Addr} {lo : Obj} {vs : List Value} {n : Nat}
theorem size_new {L : Addr} {h : Heap} {m : Str → Option Value} (F : Fr h₀ L h m) (k : Nat) : h₀.get? (h.objs.size + k) = none := ktu_new F (Nat.le_add_right _ _)
/-- for over a list that the head has made -/
theorem list_K (hh : A.handled = none) (F : Fr h₀ env.locals s.heap m₀) (N : News h₀ env.locals s.heap news) (X : K.In h₀) (hk : K.lookup l = some lo) (hc : lo.cls = .type "list") (hd : lo.data = .seq vs.toArray n)
    (rest : ∀ I : Addr, (∀ p ∈ news, p.1 < I) → ItemsRest prog w A E h₀ env target body Q s [(I, "list_iterator")] [] (vs.map .val) m₀ news) :
    wpAny (model prog w) A (pyIter (.ref l)) (fun it s₂ => TurnsAt prog w A h₀ env target body Q E it s₂) E s := by
  have g0 : h₀.get? l = some lo := X _ _ hk
  have g1 := F.keep _ _ g0
  have il : s.heap.IsList l vs.toArray := ⟨lo, g1, hc, n, hd⟩
  have lt : l < s.heap.objs.size := Heap.lt_size g1
  have ltL : env.locals < s.heap.objs.size := F.ns.lt
  have lL : env.locals ≠ l := fun e => absurd (Heap.lt_size g0) (Nat.not_lt.mpr (e ▸ F.above))
  refine wpAny_pyIter_list il (ktg_core (tk0 := s.toks) (keep := []) (xs := vs.map .val) (ws := [(s.heap.objs.size, "list_iterator")]) (KTurns.ofWalks (Walks.list hh s.heap.objs.size l (Nat.ne_of_lt lt) vs.toArray) fun i v s Q E st q => letGo_listiter st.1 q) (by simp) ?P ?O ?W ?R ?Fp ?L ?Nw ?St (F.push _) (fun p hp => ⟨Heap.get?_push_of_some _ (N p hp).1, (N p hp).2⟩) trivial (rest _ fun p hp => Heap.lt_size (N p hp).1))
  case P => intro i v h hp; exact ⟨.val v, by have : vs.toArray[i]? = some v := hp; simpa using this, rfl⟩
  case O =>
    intro i h st
    obtain ⟨it, a, b, _⟩ := st.1
    exact ⟨[(s.heap.objs.size, it)], ⟨⟨rfl, b⟩, trivial⟩, fun p hp => by rw [List.mem_singleton.mp hp]; exact a⟩
  case W => intro b hb; simp only [List.map_cons, List.map_nil, List.mem_singleton] at hb; subst hb; exact ⟨by simp, size_new F 0⟩
  case R => intro b hb; simpa using hb
  case Fp =>
    intro b hb
    simp only [List.mem_cons, List.not_mem_nil, or_false] at hb
    rcases hb with rfl | rfl
    · exact .inl (by simp)
    · exact .inr (.inr ⟨lo, g0⟩)
  case L =>
    intro hb
    simp only [List.mem_cons, List.not_mem_nil, or_false] at hb
    rcases hb with e | e
    · exact Nat.ne_of_lt ltL e
    · exact lL e
  case Nw => intro p hp hb; exact Nat.ne_of_lt (Heap.lt_size (N p hp).1) (List.mem_singleton.mp hb)
  case St => exact ⟨⟨_, Heap.get?_push_size _ rfl, rfl, rfl⟩, il.at fun o e => Heap.get?_push_of_some _ e⟩
/-- for over enumerate of a list that the head has made -/
theorem enum_K {elts : List Expr} {k : Nat} {pos : Pos} {xs : List Itm} (hh : A.handled = none) (F : Fr h₀ env.locals s.heap m₀) (N : News h₀ env.locals s.heap news) (X : K.In h₀) (hk : K.lookup l = some lo) (hc : lo.cls = .type "list") (hd : lo.data = .seq vs.toArray n) (hx : enumItems 0 vs = xs)
    (rest : ∀ I : Addr, (∀ p ∈ news, p.1 < I) → ItemsRest prog w A E h₀ env (.Tuple elts k pos) body Q s [(I + 1, "enumerate"), (I, "list_iterator")] [] xs m₀ news) :
    wpAny (model prog w) A (call (.type "enumerate") [.ref l]) (fun xv s₁ => wpAny (model prog w) A (pyIter xv) (fun it s₂ => TurnsAt prog w A h₀ env (.Tuple elts k pos) body Q E it s₂) E s₁) E s := by
  have g0 : h₀.get? l = some lo := X _ _ hk
  have g1 := F.keep _ _ g0
  have il : s.heap.IsList l vs.toArray := ⟨lo, g1, hc, n, hd⟩
  have lt : l < s.heap.objs.size := Heap.lt_size g1
  have ltL : env.locals < s.heap.objs.size := F.ns.lt
  have lL : env.locals ≠ l := fun e => absurd (Heap.lt_size g0) (Nat.not_lt.mpr (e ▸ F.above))
  refine call_enumerate_list il fun h' hE hI hsz kp => wpAny_pyIter_enum hE ?_
  refine ktg_core (tk0 := s.toks) (keep := []) (KTurns.ofWalksU (WalksT.enumerate hh (s.heap.objs.size + 1) s.heap.objs.size l (Nat.succ_ne_self _) (ktu_ne 1 lt) (Nat.ne_of_lt lt) vs.toArray).toU) (by rw [← hx]; simp [enumItems_length]) ?P ?O ?W ?R ?Fp ?L ?Nw ?St (F.keeps kp) (N.grown kp) trivial (rest _ fun p hp => Heap.lt_size (N p hp).1)
  case P =>
    rintro i v h ⟨T, vals, rfl, ⟨t, x, e, rfl⟩, hT⟩
    have e2 := enumItems_get vs 0 i (v := x) (by simpa using e)
    rw [hx] at e2
    refine ⟨_, e2, T, t, rfl, ?_⟩
    show IsTup h T #[.int ((0 + i : Nat) : Int) t, x]
    rw [Nat.zero_add]; exact hT
  case O =>
    rintro i h ⟨⟨old, he⟩, ⟨oi, a, b, _⟩, _⟩
    obtain ⟨oe, h1, h2⟩ : ∃ oe : Obj, h.get? (s.heap.objs.size + 1) = some oe ∧ oe.cls = .type "enumerate" := ⟨_, he, rfl⟩
    refine ⟨[(s.heap.objs.size + 1, oe), (s.heap.objs.size, oi)], ⟨⟨rfl, h2⟩, ⟨rfl, b⟩, trivial⟩, fun p hp => ?_⟩
    simp only [List.mem_cons, List.not_mem_nil, or_false] at hp
    rcases hp with rfl | rfl
    · exact h1
    · exact a
  case W =>
    intro b hb
    simp only [List.map_cons, List.map_nil, List.mem_cons, List.not_mem_nil, or_false] at hb
    rcases hb with rfl | rfl
    · exact ⟨by simp, size_new F 1⟩
    · exact ⟨by simp, size_new F 0⟩
  case R => intro b hb; simpa using hb
  case Fp =>
    intro b hb
    simp only [List.mem_cons, List.not_mem_nil, or_false] at hb
    rcases hb with rfl | rfl | rfl
    · exact .inl (by simp)
    · exact .inl (by simp)
    · exact .inr (.inr ⟨lo, g0⟩)
  case L =>
    intro hb
    simp only [List.mem_cons, List.not_mem_nil, or_false] at hb
    rcases hb with e | e | e
    · exact ktu_ne 1 ltL e
    · exact Nat.ne_of_lt ltL e
    · exact lL e
  case Nw =>
    intro p hp hb
    have := Heap.lt_size (N p hp).1
    simp only [List.mem_cons, List.not_mem_nil, or_false] at hb
    rcases hb with e | e
    · exact ktu_ne 1 this e
    · exact Nat.ne_of_lt this e
  case St => exact ⟨⟨.none, hE⟩, hI, il.at fun o e => kp l o e⟩
end
end ForKText
section ForJText
section
variable {prog : Program} {w : World} {A : Around} {E : Value → Shared → Prop} {s : Shared} {env : Env} {h₀ : Heap} {target : Expr} {body : List Stmt} {Q : Flow → Shared → Prop} {K : Frag} {m₀ : Str → Option Value} {news : Led} {l : Addr} {lo : Obj} {vs : List Value} {n : Nat} {tl₀ : Led}
theorem for_restG {I : Addr} {T : String} {xs : List Itm} (hI : ∀ p ∈ news, p.1 < I)
    (J : Nat → (Str → Option Value) → Led → Prop)
    (step : ∀ i a v oI m₁ tl h tk, xs[i]? = some a → a.Is v h → J i m₁ tl → (∀ p ∈ tl ++ news, p.1 ≠ I) → Fr h₀ env.locals h m₁ → News h₀ env.locals h ((I, oI) :: (tl ++ news)) →
      wpAny (model prog w) A (assign target env v) (fun _ s₂ => wpAny (model prog w) A (execs body env) (TurnEnd h₀ env.locals I oI news (fun m tl _ => J (i + 1) m tl) { s with heap := h, toks := tk } Q) E s₂) E { s with heap := h, toks := tk })
    (done : ∀ h tk m' tl, Fr h₀ env.locals h m' → News h₀ env.locals h (tl ++ news) → J xs.length m' tl → Q .next { s with heap := h, toks := tk }) :
    ∀ (rest : List Itm) (i : Nat), xs.drop i = rest → i ≤ xs.length → ∀ m₁ tl, J i m₁ tl → (∀ p ∈ tl, p.1 ≠ I) → ItemsRest prog w A E h₀ env target body Q s [(I, T)] [] rest m₁ (tl ++ news)
  | [], i, hd, hi, m₁, tl, hJ, ho => by
    refine ItemsRest.zero fun h tk F N => ?_
    have : i = xs.length := by
      have := List.drop_eq_nil_iff.mp hd
      omega
    subst this
    exact done _ _ _ _ F N hJ
  | a :: rest, i, hd, hi, m₁, tl, hJ, ho => by
    have hlt : i < xs.length := by
      rcases Nat.lt_or_ge i xs.length with q | q
      · exact q
      · rw [List.drop_eq_nil_of_le q] at hd; cases hd
    have hv : xs[i]? = some a := by
      rw [List.drop_eq_getElem_cons hlt] at hd
      rw [List.getElem?_eq_getElem hlt]
      exact congrArg some (List.cons.inj hd).1
    have hd' : xs.drop (i + 1) = rest := by
      rw [List.drop_eq_getElem_cons hlt] at hd
      exact (List.cons.inj hd).2
    intro v h tk ha F oI hoI N
    have hoff : ∀ p ∈ tl ++ news, p.1 ≠ I := fun p hp => (List.mem_append.mp hp).elim (ho p) fun hp => Nat.ne_of_lt (hI p hp)
    refine wpAny_mono (step i a v oI m₁ tl h tk hv ha hJ hoff F N) (fun _ s₂ h₂ => wpAny_mono h₂ (fun f s₃ h₃ => ?_) fun _ _ e => e) fun _ _ e => e
    cases f with
    | ret v => exact h₃
    | brk => exact h₃.elim
    | cont => exact h₃.elim
    | next =>
      obtain ⟨h', tk', m', tl', rfl, F', N', ho', hJ'⟩ := h₃
      refine ⟨h', tk', m', tl' ++ news, rfl, F', N', ?_, ⟨trivial, for_restG hI J step done rest (i + 1) hd' hlt m' tl' hJ' ho'⟩⟩
      intro p hp q hq
      rw [List.mem_singleton.mp hq]
      exact (List.mem_append.mp hp).elim (ho' p) fun hp => Nat.ne_of_lt (hI p hp)
/-- for over a list of the head's heap -/
theorem for_K (hh : A.handled = none) (F : Fr h₀ env.locals s.heap m₀) (N : News h₀ env.locals s.heap (tl₀ ++ news)) (X : K.In h₀) (hk : K.lookup l = some lo) (hc : lo.cls = .type "list") (hd : lo.data = .seq vs.toArray n)
    (J : Nat → (Str → Option Value) → Led → Prop) (h0 : J 0 m₀ tl₀)
    (step : Hold (∀ i v I oI m₁ tl h tk, vs[i]? = some v → J i m₁ tl → (∀ p ∈ tl ++ news, p.1 ≠ I) → (∀ p ∈ news, p.1 < I) → Fr h₀ env.locals h m₁ → News h₀ env.locals h ((I, oI) :: (tl ++ news)) →
      wpAny (model prog w) A (assign target env v) (fun _ s₂ => wpAny (model prog w) A (execs body env) (TurnEnd h₀ env.locals I oI news (fun m tl _ => J (i + 1) m tl) { s with heap := h, toks := tk } Q) E s₂) E { s with heap := h, toks := tk }))
    (done : Hold (∀ h tk m' tl, Fr h₀ env.locals h m' → News h₀ env.locals h (tl ++ news) → J vs.length m' tl → Q .next { s with heap := h, toks := tk })) :
    wpAny (model prog w) A (pyIter (.ref l)) (fun it s₂ => TurnsAt prog w A h₀ env target body Q E it s₂) E s := by
  refine list_K hh F N X hk hc hd fun I hI' => ?_
  have hI : ∀ p ∈ news, p.1 < I := fun p hp => hI' p (List.mem_append.mpr (.inr hp))
  refine for_restG (xs := vs.map .val) hI J (fun i a v oI m₁ tl h tk e ha hJ off F N => ?_) (fun h tk m' tl F N hJ => done.it h tk m' tl F N (by simpa using hJ)) _ 0 rfl (Nat.zero_le _) m₀ tl₀ h0 (fun p hp => Nat.ne_of_lt (hI' p (List.mem_append.mpr (.inl hp))))
  rw [List.getElem?_map] at e
  obtain ⟨v', e', rfl⟩ := Option.map_eq_some_iff.mp e
  obtain rfl : v = v' := ha
  exact step.it i v I oI m₁ tl h tk e' hJ off hI F N
/-- for over a short str of plain letters -/
theorem for_S {x : Str} {px : Pos} {tx : Str} {t : Tok} (hh : A.handled = none) (F : Fr h₀ env.locals s.heap m₀) (N : News h₀ env.locals s.heap (tl₀ ++ news)) (ha : tx.cps.all (· < 128) = true)
    (J : Nat → (Str → Option Value) → Led → Prop) (h0 : J 0 m₀ tl₀)
    (step : Hold (∀ i c u I oI m₁ tl h tk, tx.cps[i]? = some c → J i m₁ tl → (∀ p ∈ tl ++ news, p.1 ≠ I) → (∀ p ∈ news, p.1 < I) → Fr h₀ env.locals h m₁ → News h₀ env.locals h ((I, oI) :: (tl ++ news)) →
      wpAny (model prog w) A (assign (.Name x px) env (.str ⟨#[c]⟩ u)) (fun _ s₂ => wpAny (model prog w) A (execs body env) (TurnEnd h₀ env.locals I oI news (fun m tl _ => J (i + 1) m tl) { s with heap := h, toks := tk } Q) E s₂) E { s with heap := h, toks := tk }))
    (done : Hold (∀ h tk m' tl, Fr h₀ env.locals h m' → News h₀ env.locals h (tl ++ news) → J tx.cps.size m' tl → Q .next { s with heap := h, toks := tk })) :
    wpAny (model prog w) A (pyIter (.str tx t)) (fun it s₂ => TurnsAt prog w A h₀ env (.Name x px) body Q E it s₂) E s := by
  have hI' : ∀ p ∈ tl₀ ++ news, p.1 < s.heap.objs.size := fun p hp => Heap.lt_size (N p hp).1
  have hI : ∀ p ∈ news, p.1 < s.heap.objs.size := fun p hp => hI' p (List.mem_append.mpr (.inr hp))
  have ltL : env.locals < s.heap.objs.size := F.ns.lt
  have xl : (tx.cps.toList.map fun c => Itm.tok fun u => .str ⟨#[c]⟩ u).length = tx.cps.size := by simp
  refine wpAny_pyIter_ascii ha (ktg_core (tk0 := s.toks) (keep := []) (xs := tx.cps.toList.map fun c => .tok fun u => .str ⟨#[c]⟩ u) (ws := [(s.heap.objs.size, "str_ascii_iterator")]) (KTurns.ofWalks (Walks.strAscii hh s.heap.objs.size tx t) fun i v s Q E st q => wpAny_of_eq (show letOwnedTupleGo (.Name x px) (.ref _) v = pure () from rfl) q) xl.symm ?P ?O ?W ?R ?Fp ?L ?Nw ?St (F.push _) (fun p hp => ⟨Heap.get?_push_of_some _ (N p hp).1, (N p hp).2⟩) trivial ?rest)
  case P =>
    rintro i v h ⟨c, u, hc, rfl⟩
    exact ⟨.tok fun u => .str ⟨#[c]⟩ u, by rw [List.getElem?_map, Array.getElem?_toList, hc]; rfl, u, rfl⟩
  case O =>
    intro i h st
    obtain ⟨it, a, b, _⟩ := st
    exact ⟨[(s.heap.objs.size, it)], ⟨⟨rfl, b⟩, trivial⟩, fun p hp => by rw [List.mem_singleton.mp hp]; exact a⟩
  case W => intro b hb; simp only [List.map_cons, List.map_nil, List.mem_singleton] at hb; subst hb; exact ⟨by simp, size_new F 0⟩
  case R => intro b hb; simpa using hb
  case Fp => intro b hb; exact .inl (by simpa using hb)
  case L => intro hb; exact Nat.ne_of_lt ltL (List.mem_singleton.mp hb)
  case Nw => intro p hp hb; exact Nat.ne_of_lt (hI' p hp) (List.mem_singleton.mp hb)
  case St => exact ⟨_, Heap.get?_push_size _ rfl, rfl, rfl⟩
  case rest =>
    refine for_restG hI J (fun i a v oI m₁ tl h tk e ha hJ off F N => ?_) (fun h tk m' tl F N hJ => done.it h tk m' tl F N (by rw [← xl]; exact hJ)) _ 0 rfl (Nat.zero_le _) m₀ tl₀ h0 (fun p hp => Nat.ne_of_lt (hI' p (List.mem_append.mpr (.inl hp))))
    rw [List.getElem?_map, Array.getElem?_toList] at e
    obtain ⟨c, e', rfl⟩ := Option.map_eq_some_iff.mp e
    obtain ⟨u, rfl⟩ := ha
    exact step.it i c u _ oI m₁ tl h tk e' hJ off hI F N

/-- what a piece of code makes: it answers v; the new objects tl are apart from all that stood -/
def Made (h₀ : Heap) (L : Addr) (m : Str → Option Value) (s₀ : Shared) (news : Led) (O : Led → Value → Prop) (v : Value) (s' : Shared) : Prop :=
  ∃ tl h tk, s' = { s₀ with heap := h, toks := tk } ∧ Fr h₀ L h m ∧ News h₀ L h (news ++ tl) ∧ (∀ q ∈ news, ∀ p ∈ tl, q.1 ≠ p.1) ∧ O tl v
theorem Made.mk {h₀ h : Heap} {L : Addr} {m : Str → Option Value} {s₀ : Shared} {news : Led} {O : Led → Value → Prop} {v : Value} {tk : Nat} (tl : Led) (F : Fr h₀ L h m) (N : News h₀ L h (news ++ tl)) (ap : ∀ q ∈ news, ∀ p ∈ tl, q.1 ≠ p.1) (o : O tl v) : Made h₀ L m s₀ news O v { s₀ with heap := h, toks := tk } := ⟨tl, h, tk, rfl, F, N, ap, o⟩
theorem made_cut {h₀ : Heap} {L : Addr} {m : Str → Option Value} {t : Sem Value} {Q : Value → Shared → Prop} (F : Fr h₀ L s.heap m) (N : News h₀ L s.heap news) (O : Led → Value → Prop)
    (h1 : wpAny (model prog w) A t (Made h₀ L m s news O) E s)
    (h2 : ∀ v tl h tk, Fr h₀ L h m → News h₀ L h (news ++ tl) → (∀ q ∈ news, ∀ p ∈ tl, q.1 ≠ p.1) → O tl v → Q v { s with heap := h, toks := tk }) : wpAny (model prog w) A t Q E s := by
  refine wpAny_mono h1 (fun v s' hq => ?_) fun _ _ e => e
  obtain ⟨tl, h, tk, rfl, F', N', ap, o⟩ := hq
  exact h2 v tl h tk F' N' ap o
end
end ForJText
section Comp2Text
open PyProof.Rows.LCg
section
variable {prog : Program} {w : World} {A : Around} {E : Value → Shared → Prop} {s : Shared} {env : Env} {h₀ : Heap} {L : Addr} {m : Str → Option Value} {news : Led}

/-- what is left of a list comprehension's block: the loop; P says what must hold at its end -/
def SetupF (prog : Program) (w : World) (A : Around) (e : Expr) (scope : Scope) (cl : List (Str × Addr)) (env : Env) (P : Addr → Addr → Shared → Prop) (it : Value) (s₂ : Shared) : Prop :=
  (∀ (s : Shared) (Q : Value → Shared → Prop) (E : Value → Shared → Prop), (∀ b o, s₂.heap.get? b = some o → s.heap.get? b = some o) → Q it s → wpAny (model prog w) A (pyIter it) Q E s) ∧
  ∀ h₁ tk, (∀ b o, s₂.heap.get? b = some o → h₁.get? b = some o) → h₁.get? s₂.heap.objs.size = some (lstO [] 0) → h₁.Ns (s₂.heap.objs.size + 1) (fun _ => none) →
    codeAny (model prog w) A (.compLoop e 0 it (.ref s₂.heap.objs.size) (compEnvC scope cl (s₂.heap.objs.size + 1) env))
      (fun r s' => r = .ok .next ∧ P s₂.heap.objs.size (s₂.heap.objs.size + 1) s')
      { s₂ with heap := h₁, toks := tk }
theorem comp_block {elt target iter : Expr} {ifs : List Expr} {gs : List Comprehension} {scope : Scope} {cl : List (Str × Addr)} {pos : Pos} {use : Option (Value → Sem Unit)} {Q : Value → Shared → Prop} {P : Addr → Addr → Shared → Prop} {it : Value} {s₂ : Shared}
    (hcell : ∀ y ∈ scope.names, y.2 ≠ .cell) (hkind : scope.kind = .function) (hP : ∀ D C s', P D C s' → compPost (model prog w) A E use Q (.ref D) C (.ok .next) s')
    (h : SetupF prog w A (.ListComp elt (⟨target, iter, ifs, 0⟩ :: gs) scope pos) scope cl env P it s₂) :
    wpAny (model prog w) A (newList []) (fun acc s₃ => wpAny (model prog w) A (newFunctionEnv scope env.globals cl [] env.qual none .none (some env)) (fun cenv s₄ =>
      codeAny (model prog w) A (.compStart (.ListComp elt (⟨target, iter, ifs, 0⟩ :: gs) scope pos) 0 it acc { cenv with scope := relabel scope env }) (compPost (model prog w) A E use Q acc cenv.locals) s₄) E s₃) E s₂ := by
  obtain ⟨hself, hloop⟩ := h
  refine wpAny_newObj_type (wpAny_newFunctionEnv hcell (by intro y hy; simp at hy) (fun h₁ hns₁ hsb₁ => ?_) hkind)
  dsimp only at hns₁ hsb₁ ⊢
  generalize hH2 : s₂.heap.push { cls := .type "list", dict := none, data := .seq ([] : List Value).toArray } = H2 at hns₁ hsb₁ ⊢
  have hC : H2.objs.size = s₂.heap.objs.size + 1 := by rw [← hH2, Heap.size_push]
  have old : ∀ b o, s₂.heap.get? b = some o → h₁.get? b = some o := fun b o e =>
    hsb₁.extBut b o (by rw [hC]; exact Nat.ne_of_lt (Nat.lt_succ_of_lt (Heap.lt_size e))) (Heap.get?_push_of_some _ (hH2 ▸ Heap.get?_push_of_some _ e))
  have hacc : h₁.get? s₂.heap.objs.size = some (lstO [] 0) := hsb₁.extBut _ _ (by rw [hC]; exact Nat.ne_of_lt (Nat.lt_succ_self _)) (Heap.get?_push_of_some _ (hH2 ▸ Heap.get?_push_size _ rfl))
  rw [hC] at hns₁ ⊢
  have hl : ∀ tk, codeAny (model prog w) A (.compLoop (.ListComp elt (⟨target, iter, ifs, 0⟩ :: gs) scope pos) 0 it (.ref s₂.heap.objs.size) (compEnvC scope cl (s₂.heap.objs.size + 1) env))
      (compPost (model prog w) A E use Q (.ref s₂.heap.objs.size) (s₂.heap.objs.size + 1)) { s₂ with heap := h₁, toks := tk } := fun tk => by
    refine codeAny_mono (hloop h₁ tk old hacc hns₁) ?_
    rintro r s' ⟨rfl, hp⟩
    exact hP _ _ _ hp
  exact codeAny_compStart_list (hl _) (hself _ _ _ old (hl _))
def ExprFin (Q : Value → Shared → Prop) (D C : Addr) (s' : Shared) : Prop := ∃ m, s'.heap.Ns C m ∧ ∀ h'', Heap.SameBut C s'.heap h'' → Q (.ref D) { s' with heap := h'' }
def AsgFin (prog : Program) (w : World) (A : Around) (E : Value → Shared → Prop) (env : Env) (y : Str) (py : Pos) (Q : Flow → Shared → Prop) (D C : Addr) (s' : Shared) : Prop :=
  wpAny (model prog w) A (assign (.Name y py) env (.ref D)) (fun _ s'' => ∃ m, s''.heap.Ns C m ∧ ∀ h'', Heap.SameBut C s''.heap h'' → Q .next { s'' with heap := h'' }) E s'
/-- the block as an expression -/
theorem comp_setupE {elt target iter : Expr} {ifs : List Expr} {gs : List Comprehension} {scope : Scope} {cl : List (Str × Addr)} {pos : Pos} {Q : Value → Shared → Prop}
    (hclos : closureFor scope env = pure cl) (hcell : ∀ y ∈ scope.names, y.2 ≠ .cell) (hkind : scope.kind = .function)
    (hnames : ∀ y ∈ scope.names, y.2 = .local → scope.names.lookup y.1 = some .local)
    (h : wpAny (model prog w) A (eval iter env) (fun xv s₁ => wpAny (model prog w) A (pyIter xv) (SetupF prog w A (.ListComp elt (⟨target, iter, ifs, 0⟩ :: gs) scope pos) scope cl env (ExprFin Q)) E s₁) E s)
    (hs : ∀ x, foldedSetIterable iter env x = pure x := by intro _; rfl) :
    wpAny (model prog w) A (eval (.ListComp elt (⟨target, iter, ifs, 0⟩ :: gs) scope pos) env) Q E s := by
  rw [eval_ListComp]
  refine wpAny_comprehension_free (use := none) rfl hs hclos hkind hnames (wpAny_mono h (fun xv s₁ h₁ => ?_) fun _ _ e => e)
  exact wpAny_mono h₁ (fun it s₂ hS => comp_block hcell hkind (fun _ _ _ h => h) hS) fun _ _ e => e
/-- the block, its list named at once -/
theorem comp_setupA {elt target iter : Expr} {ifs : List Expr} {gs : List Comprehension} {scope : Scope} {cl : List (Str × Addr)} {y : Str} {py pos spos : Pos} {Q : Flow → Shared → Prop}
    (hsw : swapsWith (.ListComp elt (⟨target, iter, ifs, 0⟩ :: gs) scope pos) (some (.Name y py)) spos.line env = pure true)
    (hclos : closureFor scope env = pure cl) (hcell : ∀ z ∈ scope.names, z.2 ≠ .cell) (hkind : scope.kind = .function)
    (hnames : ∀ z ∈ scope.names, z.2 = .local → scope.names.lookup z.1 = some .local)
    (h : wpAny (model prog w) A (eval iter env) (fun xv s₁ => wpAny (model prog w) A (pyIter xv) (SetupF prog w A (.ListComp elt (⟨target, iter, ifs, 0⟩ :: gs) scope pos) scope cl env (AsgFin prog w A E env y py Q)) E s₁) E s)
    (hs : ∀ x, foldedSetIterable iter env x = pure x := by intro _; rfl) :
    wpAny (model prog w) A (exec (.Assign [.Name y py] (.ListComp elt (⟨target, iter, ifs, 0⟩ :: gs) scope pos) spos) env) Q E s := by
  rw [exec_Assign_Name_used _ _ _ _ hsw]
  refine wpAny_bind (wpAny_standAt (wpAny_bind ?_))
  show wpAny _ A (do let _ ← comprehension (.ListComp elt (⟨target, iter, ifs, 0⟩ :: gs) scope pos) scope env _ (newList []) false (eval iter env) (some (assign (.Name y py) env))) _ _ s
  refine wpAny_bind (wpAny_mono (wpAny_comprehension_free (use := some (assign (.Name y py) env)) (Q := fun _ s' => Q .next s') rfl hs hclos hkind hnames
    (wpAny_mono h (fun xv s₁ h₁ => ?_) fun _ _ e => e)) (fun _ s' hq => wpAny_pure (wpAny_pure hq)) fun _ _ e => e)
  exact wpAny_mono h₁ (fun it s₂ hS => comp_block hcell hkind (fun _ _ _ h => h) hS) fun _ _ e => e
theorem turn_out (elt t1 i1 t2 i2 : Expr) (scope : Scope) (pos : Pos) (it acc : Value) (env : Env) :
    compTurn (.ListComp elt [⟨t1, i1, [], 0⟩, ⟨t2, i2, [], 0⟩] scope pos) 0 it acc env = (standAt i1.pos >>= fun _ => pyNext it >>= fun r => match r with
      | none => pure (.done .next)
      | some v => letOwnedTupleGo t1 it v >>= fun _ => assign t1 env v >>= fun _ =>
        eval i2 env >>= fun x => standAt i2.pos >>= fun _ => foldedSetIterable i2 env x >>= fun x => holding [x] (pyIter x) >>= fun it2 => runOwn (.compStart (.ListComp elt [⟨t1, i1, [], 0⟩, ⟨t2, i2, [], 0⟩] scope pos) 1 it2 acc env) env >>= fun _ =>
          again (.compLoop (.ListComp elt [⟨t1, i1, [], 0⟩, ⟨t2, i2, [], 0⟩] scope pos) 0 it acc env)) := by rfl
theorem turn_in (elt t1 i1 t2 i2 : Expr) (scope : Scope) (pos : Pos) (it acc : Value) (env : Env) :
    compTurn (.ListComp elt [⟨t1, i1, [], 0⟩, ⟨t2, i2, [], 0⟩] scope pos) 1 it acc env = (standAt i2.pos >>= fun _ => pyNext it >>= fun r => match r with
      | none => pure (.done .next)
      | some v => letOwnedTupleGo t2 it v >>= fun _ => assign t2 env v >>= fun _ =>
        (eval elt env >>= fun x => call (.builtin "list.append") [acc, x] >>= fun _ => pure ()) >>= fun _ =>
          again (.compLoop (.ListComp elt [⟨t1, i1, [], 0⟩, ⟨t2, i2, [], 0⟩] scope pos) 1 it acc env)) := by rfl
theorem start_in {elt t1 i1 t2 i2 : Expr} {scope : Scope} {pos : Pos} {it acc : Value} {R : Result → Shared → Prop}
    (h0 : codeAny (model prog w) A (.compLoop (.ListComp elt [⟨t1, i1, [], 0⟩, ⟨t2, i2, [], 0⟩] scope pos) 1 it acc env) R s)
    (h : wpAny (model prog w) A (pyIter it) (fun it' s' => codeAny (model prog w) A (.compLoop (.ListComp elt [⟨t1, i1, [], 0⟩, ⟨t2, i2, [], 0⟩] scope pos) 1 it' acc env) R s')
      (notedBy (model prog w) A env fun x s' => R (.error x) s') s) :
    codeAny (model prog w) A (.compStart (.ListComp elt [⟨t1, i1, [], 0⟩, ⟨t2, i2, [], 0⟩] scope pos) 1 it acc env) R s := by
  refine codeAny_of_tree ?_
  show wpAny _ _ ((compStart (.ListComp elt [⟨t1, i1, [], 0⟩, ⟨t2, i2, [], 0⟩] scope pos) 1 it acc env).onRaise (fun x => do noteFrame x env; standAt theWindowsPlace)) _ _ s
  refine wpAny_notedAt ?_
  unfold compStart
  show wpAny _ _ (ask >>= _) _ _ s
  refine wpAny_bind (wpAny_askSetting (wpAny_ite ?_))
  split
  · first
      | exact wpAny_bind (wpAny_pure (wpAny_pure (And.intro rfl h0)))
      | exact wpAny_pure (And.intro rfl h0)
  · first
      | exact wpAny_bind (wpAny_rule (wpAny_bind (wpAny_standAt (wpAny_bind (wpAny_mono h (fun it' s' h' => wpAny_pure (And.intro rfl h')) fun _ _ x => x)))))
      | (refine wpAny_bind (wpAny_rule ?_); show wpAny _ _ (standAt i2.pos >>= _) _ _ s; exact wpAny_bind (wpAny_standAt (wpAny_bind (wpAny_mono h (fun it' s' h' => wpAny_pure (And.intro rfl h')) fun _ _ x => x))))

/-- what stands while the block runs: the block's names C, its list D, all else -/
structure Blk (h₀ : Heap) (L : Addr) (m : Str → Option Value) (C D : Addr) (full : Led) (h : Heap) (mC : Str → Option Value) (ys : List Value) : Prop where
  F : Fr h₀ L h m
  N : News h₀ L h full
  c : h.Ns C mC
  d : h.get? D = some (lstO ys ys.length)
  off : ∀ p ∈ full, p.1 ≠ C ∧ p.1 ≠ D
structure Ads (h₀ : Heap) (L C D I : Addr) : Prop where
  lc : L ≠ C
  ld : L ≠ D
  li : L ≠ I
  cd : C ≠ D
  ci : C ≠ I
  di : D ≠ I
  c : h₀.get? C = none
  d : h₀.get? D = none
  i : h₀.get? I = none

/-- a step that writes to the iterator alone -/
theorem Blk.keep {C D I : Addr} {full : Led} {h h' : Heap} {mC : Str → Option Value} {ys : List Value} (a : Ads h₀ L C D I) (b : Blk h₀ L m C D full h mC ys) (off : ∀ p ∈ full, p.1 ≠ I) (hk : ∀ b o, b ∉ [I] → h.get? b = some o → h'.get? b = some o) : Blk h₀ L m C D full h' mC ys where
  F := ⟨b.F.ns.at' fun o e => hk L o (by simpa using a.li) e, fun b' o e => hk b' o (by intro q; rw [List.mem_singleton.mp q, a.i] at e; cases e) (b.F.keep b' o e), b.F.above⟩
  N := fun p hp => ⟨hk _ _ (by simpa using off p hp) (b.N p hp).1, (b.N p hp).2⟩
  c := b.c.at' fun o e => hk C o (by simpa using a.ci) e
  d := hk _ _ (by simpa using a.di) b.d
  off := b.off
theorem Blk.name {C D I : Addr} {full : Led} {h h' : Heap} {mC mC' : Str → Option Value} {ys : List Value} (a : Ads h₀ L C D I) (b : Blk h₀ L m C D full h mC ys) (hs : Heap.SameBut C h h') (hn : h'.Ns C mC') : Blk h₀ L m C D full h' mC' ys where
  F := b.F.change hs (Ne.symm a.lc) a.c
  N := fun p hp => ⟨hs.extBut _ _ (b.off p hp).1 (b.N p hp).1, (b.N p hp).2⟩
  c := hn
  d := hs.extBut _ _ (Ne.symm a.cd) b.d
  off := b.off
theorem Blk.app {C D I : Addr} {full : Led} {h h' : Heap} {mC : Str → Option Value} {ys : List Value} {y : Value} (a : Ads h₀ L C D I) (b : Blk h₀ L m C D full h mC ys) (hs : Heap.SameBut D h h') (hd : h'.get? D = some (lstO (ys ++ [y]) (ys ++ [y]).length)) : Blk h₀ L m C D full h' mC (ys ++ [y]) where
  F := b.F.change hs (Ne.symm a.ld) a.d
  N := fun p hp => ⟨hs.extBut _ _ (b.off p hp).2 (b.N p hp).1, (b.N p hp).2⟩
  c := b.c.sameBut hs a.cd
  d := hd
  off := b.off
/-- the ledger in full -/
theorem Blk.led {C D I : Addr} {full : Led} {h : Heap} {mC : Str → Option Value} {ys : List Value} (a : Ads h₀ L C D I) (b : Blk h₀ L m C D full h mC ys) : ∃ oC, NsObj oC mC ∧ News h₀ L h ((C, oC) :: (D, lstO ys ys.length) :: full) := by
  obtain ⟨oC, e, hoC⟩ := ns_obj b.c
  refine ⟨oC, hoC, fun p hp => ?_⟩
  rcases List.mem_cons.mp hp with rfl | hp
  · exact ⟨e, Ne.symm a.lc, a.c⟩
  rcases List.mem_cons.mp hp with rfl | hp
  · exact ⟨b.d, Ne.symm a.ld, a.d⟩
  exact b.N p hp
theorem Blk.of {C D : Addr} {oC : Obj} {full : Led} {h : Heap} {mC : Str → Option Value} {ys : List Value} (F : Fr h₀ L h m) (N : News h₀ L h ((C, oC) :: (D, lstO ys ys.length) :: full)) (hoC : NsObj oC mC) (off : ∀ p ∈ full, p.1 ≠ C ∧ p.1 ≠ D) : Blk h₀ L m C D full h mC ys :=
  ⟨F, fun p hp => N p (List.mem_cons_of_mem _ (List.mem_cons_of_mem _ hp)), hoC.ns (N _ List.mem_cons_self).1, (N (D, lstO ys ys.length) (List.mem_cons_of_mem _ List.mem_cons_self)).1, off⟩
theorem iter_of {h : Heap} {I l : Addr} {i : Nat} (hi : h.IsListIter I l i) : ∃ oI, h.get? I = some oI ∧ ∀ h' : Heap, h'.get? I = some oI → h'.IsListIter I l i := by
  obtain ⟨o, e, r⟩ := hi
  exact ⟨o, e, fun h' e' => ⟨o, e', r⟩⟩

/-- the inner loop of a block of two clauses -/
theorem opq {motive : Addr → Prop} (h : ∀ x, motive x) (n : Addr) : motive n := h n
inductive IInv (h₀ : Heap) (L : Addr) (m : Str → Option Value) (news : Led) (s : Shared) (D C I1 I2 lb : Addr) (o1 : Obj) (x1 : Str) (v : Value) (n : Nat) (J : Nat → List Value → Led → Prop) (k : Nat) (s' : Shared) : Prop
  | mk (h : Heap) (tk j : Nat) (ys : List Value) (tl : Led) (mC : Str → Option Value) (e : s' = { s with heap := h, toks := tk }) (hj : j ≤ n) (hk : k = n + 1 - j) (B : Blk h₀ L m C D ((I1, o1) :: (tl ++ news)) h mC ys) (off : ∀ p ∈ tl ++ news, p.1 ≠ I1 ∧ p.1 ≠ I2) (hx : mC x1 = some v) (hit : h.IsListIter I2 lb j) (hJ : J j ys tl)
theorem inner2 {C D I1 I2 lb : Addr} {vs2 : List Value} {n2 : Nat} {o1 : Obj} {x1 x2 : Str} {p1 p2 : Pos} {elt i1 i2 : Expr} {scope : Scope} {cl : List (Str × Addr)} {pos : Pos} {v : Value} {R : Result → Shared → Prop}
    (J : Nat → List Value → Led → Prop)
    (hh : A.handled = none) (hkind : scope.kind = .function) (hx2 : scope.names.lookup x2 = some .local) (hxx : ¬ x1 = x2) (a : Ads h₀ L C D I2) (hb : (lb, lstO vs2 n2) ∈ news) (h12 : I1 ≠ I2)
    (hsz : ∀ j ys tl, J j ys tl → j < vs2.length → ys.length ≤ 100000)
    (step : ∀ j v' oC I2 o2 mC ys tl h tk (E' : Value → Shared → Prop), vs2[j]? = some v' → NsObj oC mC → mC x1 = some v → mC x2 = some v' → J j ys tl → Fr h₀ L h m → News h₀ L h ((C, oC) :: (D, lstO ys ys.length) :: (I2, o2) :: (I1, o1) :: (tl ++ news)) → (∀ p ∈ tl ++ news, p.1 ≠ C ∧ p.1 ≠ D ∧ p.1 ≠ I1 ∧ p.1 ≠ I2) →
      wpAny (model prog w) A (eval elt (compEnvC scope cl C env)) (fun y s₂ => ∃ h' tk' tl', s₂ = { s with heap := h', toks := tk' } ∧ Fr h₀ L h' m ∧ News h₀ L h' ((C, oC) :: (D, lstO ys ys.length) :: (I2, o2) :: (I1, o1) :: (tl' ++ news)) ∧ (∀ p ∈ tl' ++ news, p.1 ≠ C ∧ p.1 ≠ D ∧ p.1 ≠ I1 ∧ p.1 ≠ I2) ∧ J (j + 1) (ys ++ [y]) tl') E' { s with heap := h, toks := tk })
    {h : Heap} {tk : Nat} {mC : Str → Option Value} {ys : List Value} {tl : Led} (B : Blk h₀ L m C D ((I1, o1) :: (tl ++ news)) h mC ys) (off : ∀ p ∈ tl ++ news, p.1 ≠ I1 ∧ p.1 ≠ I2) (hx1 : mC x1 = some v) (hit : h.IsListIter I2 lb 0) (hJ : J 0 ys tl)
    (done : ∀ h tk mC ys tl, Blk h₀ L m C D ((I1, o1) :: (tl ++ news)) h mC ys → (∀ p ∈ tl ++ news, p.1 ≠ I1) → J vs2.length ys tl → R (.ok .next) { s with heap := h, toks := tk }) :
    codeAny (model prog w) A (.compLoop (.ListComp elt [⟨.Name x1 p1, i1, [], 0⟩, ⟨.Name x2 p2, i2, [], 0⟩] scope pos) 1 (.ref I2) (.ref D) (compEnvC scope cl C env)) R { s with heap := h, toks := tk } := by
  have hbn : ∀ {h : Heap} {tl : Led}, News h₀ L h ((I1, o1) :: (tl ++ news)) → h.IsList lb vs2.toArray := fun N => ⟨_, (N (lb, lstO vs2 n2) (List.mem_cons_of_mem _ (List.mem_append.mpr (.inr hb)))).1, rfl, _, rfl⟩
  have hbI : lb ≠ I2 := (off _ (List.mem_append.mpr (.inr hb))).2
  have W := Walks.list (prog := prog) (w := w) hh I2 lb hbI vs2.toArray
  refine codeAny_loop rfl (IInv h₀ L m news s D C I1 I2 lb o1 x1 v vs2.length J) (fun k s' hI => ?_) (vs2.length + 1) ⟨h, tk, 0, ys, tl, mC, rfl, Nat.zero_le _, rfl, B, off, hx1, hit, hJ⟩
  clear hJ hit hx1 B off
  obtain ⟨h, tk, j, ys, tl, mC, rfl, hj, rfl, B, off, hx1, hit, hJ⟩ := hI
  show wpAny _ A ((compTurn (.ListComp elt [⟨.Name x1 p1, i1, [], 0⟩, ⟨.Name x2 p2, i2, [], 0⟩] scope pos) 1 (.ref I2) (.ref D) (compEnvC scope cl C env)).onRaise (fun x => do noteFrame x _; theTreesLotGoes x)) _ _ _
  refine wpAny_noted ?_
  rw [turn_in]
  refine wpAny_bind (wpAny_standAt (wpAny_bind ?_))
  have offI : ∀ {tl : Led}, (∀ p ∈ tl ++ news, p.1 ≠ I1 ∧ p.1 ≠ I2) → ∀ p ∈ (I1, o1) :: (tl ++ news), p.1 ≠ I2 := fun off p hp => (List.mem_cons.mp hp).elim (fun e => e ▸ h12) fun hp => (off p hp).2
  by_cases hlt : j < vs2.length
  · refine W.item j _ _ _ (by simpa using hlt) ⟨hit, hbn B.N⟩ fun v' h₁ tk₁ hv' st₁ hk₁ => ?_
    have B₁ := B.keep a (offI off) hk₁
    dsimp only
    refine wpAny_bind (wpAny_of_eq (show letOwnedTupleGo (.Name x2 p2) (.ref I2) v' = pure () from rfl) ?_)
    refine wpAny_bind (wpAny_assign_Name (wpAny_storeName_local (lookup_relabel_local hx2) B₁.c (fun h₂ hn₂ hs₂ => ?_) (by simp [compEnvC, relabel, hkind])))
    have B₂ := B₁.name a hs₂ hn₂
    have it₂ : h₂.IsListIter I2 lb (j + 1) := st₁.1.extBut hs₂.extBut (Ne.symm a.ci)
    obtain ⟨oC, hoC, N₂⟩ := B₂.led a
    obtain ⟨o2, e2, hi2⟩ := iter_of it₂
    have N₃ : News h₀ L h₂ ((C, oC) :: (D, lstO ys ys.length) :: (I2, o2) :: (I1, o1) :: (tl ++ news)) := by
      intro p hp
      simp only [List.mem_cons] at hp
      rcases hp with rfl | rfl | rfl | hp
      · exact N₂ _ List.mem_cons_self
      · exact N₂ _ (List.mem_cons_of_mem _ List.mem_cons_self)
      · exact ⟨e2, Ne.symm a.li, a.i⟩
      · exact N₂ _ (List.mem_cons_of_mem _ (List.mem_cons_of_mem _ (List.mem_cons.mpr hp)))
    refine wpAny_bind (wpAny_bind (wpAny_mono (step j v' oC I2 o2 _ ys tl h₂ _ _ (by simpa using hv') hoC (by simp [hxx, hx1]) (by simp) hJ B₂.F N₃ (fun p hp => ⟨(B₂.off p (List.mem_cons_of_mem _ hp)).1, (B₂.off p (List.mem_cons_of_mem _ hp)).2, off p hp⟩)) (fun y s₈ h₈ => ?_) fun _ _ e => e))
    obtain ⟨h₄, tk₄, tl', rfl, F₄, N₄, off₄, hJ₄⟩ := h₈
    have oI := B₂.off (I1, o1) List.mem_cons_self
    have B₄ : Blk h₀ L m C D ((I1, o1) :: (tl' ++ news)) h₄ _ ys := Blk.of (oC := oC) F₄ (fun p hp => N₄ p (by simp only [List.mem_cons] at hp ⊢; grind)) hoC (fun p hp => (List.mem_cons.mp hp).elim (fun e => e ▸ oI) fun hp => ⟨(off₄ p hp).1, (off₄ p hp).2.1⟩)
    refine wpAny_bind (append_at (hsz := by rw [List.size_toArray, sizeLine_eq]; have := hsz _ _ _ hJ hlt; omega) B₄.d fun h₅ hs₅ hD₅ => wpAny_pure (wpAny_pure ⟨rfl, ?_⟩))
    refine ⟨vs2.length + 1 - (j + 1), by omega, h₅, tk₄, j + 1, ys ++ [y], tl', _, rfl, hlt, rfl, B₄.app a hs₅ (by rw [hD₅, List.length_append, List.length_singleton]; simp), fun p hp => ⟨(off₄ p hp).2.2.1, (off₄ p hp).2.2.2⟩, by simp [hxx, hx1], ?_, hJ₄⟩
    exact (hi2 h₄ (N₄ (I2, o2) (by simp)).1).extBut hs₅.extBut (Ne.symm a.di)
  · obtain rfl : j = vs2.length := Nat.le_antisymm hj (Nat.not_lt.mp hlt)
    refine W.done _ _ _ (by simpa using ⟨hit, hbn B.N⟩) fun h₁ tk₁ hk₁ => ?_
    exact wpAny_pure (done _ _ _ _ _ (B.keep a (offI off) hk₁) (fun p hp => (off p hp).1) hJ)

def TwoEnd (h₀ : Heap) (L : Addr) (m : Str → Option Value) (s₁ : Shared) (C : Addr) (oC : Obj) (D : Addr) (ys : List Value) (I2 : Addr) (o2 : Obj) (I1 : Addr) (o1 : Obj) (news : Led) (J : Value → Led → Prop) (y : Value) (s₂ : Shared) : Prop :=
  ∃ h' tk' tl', s₂ = { s₁ with heap := h', toks := tk' } ∧ Fr h₀ L h' m ∧ News h₀ L h' ((C, oC) :: (D, lstO ys ys.length) :: (I2, o2) :: (I1, o1) :: (tl' ++ news)) ∧ (∀ p ∈ tl' ++ news, p.1 ≠ C ∧ p.1 ≠ D ∧ p.1 ≠ I1 ∧ p.1 ≠ I2) ∧ J y tl'
theorem TwoEnd.mk {s₁ : Shared} {C : Addr} {oC : Obj} {D : Addr} {ys : List Value} {I2 : Addr} {o2 : Obj} {I1 : Addr} {o1 : Obj} {J : Value → Led → Prop} {y : Value} {h' : Heap} {tk' : Nat} (tl' : Led) (F : Fr h₀ L h' m) (N : News h₀ L h' ((C, oC) :: (D, lstO ys ys.length) :: (I2, o2) :: (I1, o1) :: (tl' ++ news))) (off : ∀ p ∈ tl' ++ news, p.1 ≠ C ∧ p.1 ≠ D ∧ p.1 ≠ I1 ∧ p.1 ≠ I2) (hJ : J y tl') :
    TwoEnd h₀ L m s₁ C oC D ys I2 o2 I1 o1 news J y { s₁ with heap := h', toks := tk' } := ⟨h', tk', tl', rfl, F, N, off, hJ⟩

theorem ads_of {h : Heap} {C D I : Addr} (F : Fr h₀ L h m) (hL : L < h.objs.size) (hI : h.objs.size = I) (hD : I + 1 = D) (hC : D + 1 = C) : Ads h₀ L C D I := by
  subst hC hD hI
  exact ⟨ne_add hL 2, ne_add hL 1, Nat.ne_of_lt hL, Nat.succ_ne_self _, (by show ¬ _ ; intro e; exact absurd e (Nat.ne_of_gt (Nat.lt_add_of_pos_right (n := h.objs.size) (k := 2) (by decide)))), Nat.succ_ne_self _, get_none_size F (Nat.le_add_right _ 2), get_none_size F (Nat.le_add_right _ 1), get_none_size F (Nat.le_refl _)⟩
theorem ads_new {h : Heap} {C D I : Addr} (F : Fr h₀ L h m) (a : Ads h₀ L C D I) {oC oD : Obj} (hC : h.get? C = some oC) (hD : h.get? D = some oD) (hL : L < h.objs.size) : Ads h₀ L C D h.objs.size :=
  ⟨a.lc, a.ld, Nat.ne_of_lt hL, a.cd, Nat.ne_of_lt (Heap.lt_size hC), Nat.ne_of_lt (Heap.lt_size hD), a.c, a.d, get_none_size F (Nat.le_refl _)⟩
theorem Blk.push {C D : Addr} {full : Led} {h : Heap} {mC : Str → Option Value} {ys : List Value} (o : Obj) (b : Blk h₀ L m C D full h mC ys) : Blk h₀ L m C D full (h.push o) mC ys where
  F := b.F.push _
  N := fun p hp => ⟨Heap.get?_push_of_some _ (b.N p hp).1, (b.N p hp).2⟩
  c := b.c.at' fun _ e => Heap.get?_push_of_some _ e
  d := Heap.get?_push_of_some _ b.d
  off := b.off
theorem Blk.less {C D : Addr} {full full' : Led} {h : Heap} {mC : Str → Option Value} {ys : List Value} (b : Blk h₀ L m C D full h mC ys) (hs : ∀ p ∈ full', p ∈ full) : Blk h₀ L m C D full' h mC ys := ⟨b.F, fun p hp => b.N p (hs p hp), b.c, b.d, fun p hp => b.off p (hs p hp)⟩
theorem Blk.more {C D : Addr} {full : Led} {h : Heap} {mC : Str → Option Value} {ys : List Value} {q : Addr × Obj} (b : Blk h₀ L m C D full h mC ys) (e : h.get? q.1 = some q.2) (l : q.1 ≠ L) (n : h₀.get? q.1 = none) (c : q.1 ≠ C) (d : q.1 ≠ D) : Blk h₀ L m C D (q :: full) h mC ys := ⟨b.F, fun p hp => (List.mem_cons.mp hp).elim (fun z => z ▸ ⟨e, l, n⟩) (b.N p), b.c, b.d, fun p hp => (List.mem_cons.mp hp).elim (fun z => z ▸ ⟨c, d⟩) (b.off p)⟩

theorem Blk.expr {C D : Addr} {full : Led} {h : Heap} {mC : Str → Option Value} {ys : List Value} {tk : Nat} {Q : Value → Shared → Prop} {I : Addr} (a : Ads h₀ L C D I) (b : Blk h₀ L m C D full h mC ys)
    (k : ∀ h tk, Fr h₀ L h m → News h₀ L h ((D, lstO ys ys.length) :: full) → Q (.ref D) { s with heap := h, toks := tk }) : ExprFin Q D C { s with heap := h, toks := tk } := by
  refine ⟨mC, b.c, fun h'' hs'' => k h'' tk (b.F.change hs'' (Ne.symm a.lc) a.c) fun p hp => ?_⟩
  rcases List.mem_cons.mp hp with rfl | hp
  · exact ⟨hs''.extBut _ _ (Ne.symm a.cd) b.d, Ne.symm a.ld, a.d⟩
  · exact ⟨hs''.extBut _ _ (b.off p hp).1 (b.N p hp).1, (b.N p hp).2⟩
theorem Blk.asg {C D : Addr} {full : Led} {h : Heap} {mC : Str → Option Value} {ys : List Value} {tk : Nat} {y : Str} {py : Pos} {Q : Flow → Shared → Prop} {I : Addr} (hL : env.locals = L) (hy : env.kindOf y = some .local) (hp : (env.scope.kind == .class || (env.scope.kind == .module && env.locals != env.globals)) = false)
    (a : Ads h₀ L C D I) (b : Blk h₀ L m C D full h mC ys)
    (k : ∀ h tk, Fr h₀ L h (fun z => if z = y then some (.ref D) else m z) → News h₀ L h ((D, lstO ys ys.length) :: full) → Q .next { s with heap := h, toks := tk }) : AsgFin prog w A E env y py Q D C { s with heap := h, toks := tk } := by
  subst hL
  refine wpAny_assign_Name (wpAny_storeName_local hy b.F.ns (fun h₂ hn₂ hs₂ => ?_) hp)
  have hL₀ : h₀.get? env.locals = none := Heap.get?_none_of_le b.F.above
  have F₂ : Fr h₀ env.locals h₂ (fun z => if z = y then some (.ref D) else m z) := ⟨hn₂, fun b' o e => hs₂.extBut b' o (fun q => by rw [q, hL₀] at e; cases e) (b.F.keep b' o e), b.F.above⟩
  refine ⟨mC, b.c.sameBut hs₂ (Ne.symm a.lc), fun h'' hs'' => k h'' _ (F₂.change hs'' (Ne.symm a.lc) a.c) fun p hp => ?_⟩
  rcases List.mem_cons.mp hp with rfl | hp
  · exact ⟨hs''.extBut _ _ (Ne.symm a.cd) (hs₂.extBut _ _ (Ne.symm a.ld) b.d), Ne.symm a.ld, a.d⟩
  · exact ⟨hs''.extBut _ _ (b.off p hp).1 (hs₂.extBut _ _ (b.N p hp).2.1 (b.N p hp).1), (b.N p hp).2⟩
inductive TInv (h₀ : Heap) (L : Addr) (m : Str → Option Value) (news : Led) (s : Shared) (D C I1 la : Addr) (n : Nat) (J : Nat → Nat → List Value → Led → Prop) (k : Nat) (s' : Shared) : Prop
  | mk (h : Heap) (tk i : Nat) (ys : List Value) (tl : Led) (mC : Str → Option Value) (e : s' = { s with heap := h, toks := tk }) (hi : i ≤ n) (hk : k = n + 1 - i) (B : Blk h₀ L m C D (tl ++ news) h mC ys) (off : ∀ p ∈ tl ++ news, p.1 ≠ I1) (hit : h.IsListIter I1 la i) (hJ : J i 0 ys tl)
/-- `[elt for x1 in la for x2 in lb]` -/
theorem comp_two {la lb : Addr} {vs1 vs2 : List Value} {n1 n2 : Nat} {x1 x2 : Str} {p1 p2 : Pos} {elt i1 i2 : Expr} {scope : Scope} {cl : List (Str × Addr)} {pos : Pos} {P : Addr → Addr → Shared → Prop}
    (hh : A.handled = none) (hkind : scope.kind = .function) (hx1 : scope.names.lookup x1 = some .local) (hx2 : scope.names.lookup x2 = some .local) (hxx : ¬ x1 = x2) (hs2 : ∀ e x, foldedSetIterable i2 e x = pure x)
    (F : Fr h₀ L s.heap m) (N : News h₀ L s.heap news) (ha : (la, lstO vs1 n1) ∈ news) (hb : (lb, lstO vs2 n2) ∈ news)
    (J : Nat → Nat → List Value → Led → Prop) (h0 : J 0 0 [] []) (hJn : ∀ i ys tl, J i vs2.length ys tl → i < vs1.length → J (i + 1) 0 ys tl) (hsz : ∀ i j ys tl, J i j ys tl → i < vs1.length → j < vs2.length → ys.length ≤ 100000)
    (it2 : Hold (∀ C oC mC D ys I1 o1 tl h tk (R E' : Value → Shared → Prop), NsObj oC mC → Fr h₀ L h m → News h₀ L h ((C, oC) :: (D, lstO ys ys.length) :: (I1, o1) :: (tl ++ news)) → (∀ tk', R (.ref lb) { s with heap := h, toks := tk' }) → wpAny (model prog w) A (eval i2 (compEnvC scope cl C env)) R E' { s with heap := h, toks := tk }))
    (step : Hold (∀ i j v v' C oC I1 o1 I2 o2 D mC ys tl h tk (E' : Value → Shared → Prop), vs1[i]? = some v → vs2[j]? = some v' → NsObj oC mC → mC x1 = some v → mC x2 = some v' → J i j ys tl → Fr h₀ L h m → News h₀ L h ((C, oC) :: (D, lstO ys ys.length) :: (I2, o2) :: (I1, o1) :: (tl ++ news)) → (∀ p ∈ tl ++ news, p.1 ≠ C ∧ p.1 ≠ D ∧ p.1 ≠ I1 ∧ p.1 ≠ I2) →
      wpAny (model prog w) A (eval elt (compEnvC scope cl C env)) (TwoEnd h₀ L m s C oC D ys I2 o2 I1 o1 news fun y tl' => J i (j + 1) (ys ++ [y]) tl') E' { s with heap := h, toks := tk }))
    (done : ∀ C D I mC ys tl h tk, Ads h₀ L C D I → Blk h₀ L m C D (tl ++ news) h mC ys → J vs1.length 0 ys tl → P D C { s with heap := h, toks := tk }) :
    wpAny (model prog w) A (pyIter (.ref la)) (SetupF prog w A (.ListComp elt [⟨.Name x1 p1, i1, [], 0⟩, ⟨.Name x2 p2, i2, [], 0⟩] scope pos) scope cl env P) E s := by
  have hl1 : s.heap.IsList la vs1.toArray := ⟨_, (N _ ha).1, rfl, _, rfl⟩
  have ltN : ∀ p ∈ news, p.1 < s.heap.objs.size := fun p hp => Heap.lt_size (N p hp).1
  have ltL : L < s.heap.objs.size := F.ns.lt
  refine wpAny_pyIter_list hl1 ?_
  generalize hh2 : s.heap.push { cls := .type "list_iterator", data := .fields #[.ref la, .int 0 0] } = g
  have hg : g.objs.size = s.heap.objs.size + 1 := by rw [← hh2, Heap.size_push]
  have hit0 : g.IsListIter s.heap.objs.size la 0 := ⟨_, hh2 ▸ Heap.get?_push_size _ rfl, rfl, rfl⟩
  have keep : ∀ b o, s.heap.get? b = some o → g.get? b = some o := fun b o e => hh2 ▸ Heap.get?_push_of_some _ e
  refine ⟨fun s' Q' E' k q => wpAny_pyIter_listiter (hit0.at fun o e => k _ o e) q, fun h₁ tk₁ old accD nsC => ?_⟩
  dsimp only at old accD nsC ⊢
  have a : Ads h₀ L (g.objs.size + 1) g.objs.size s.heap.objs.size := by rw [hg]; exact ads_of F ltL rfl rfl rfl
  have lt1 : ∀ p ∈ news, p.1 ≠ g.objs.size + 1 ∧ p.1 ≠ g.objs.size := fun p hp => by rw [hg]; exact ⟨ne_add (ltN p hp) 2, ne_add (ltN p hp) 1⟩
  have ltI : ∀ p ∈ news, p.1 ≠ s.heap.objs.size := fun p hp => Nat.ne_of_lt (ltN p hp)
  generalize g.objs.size = D at *
  generalize D + 1 = C at *
  generalize s.heap.objs.size = I1 at *
  cases D using opq with
  | h D =>
  cases C using opq with
  | h C =>
  cases I1 using opq with
  | h I1 =>
  have B₀ : Blk h₀ L m C D ([] ++ news) h₁ (fun _ => none) [] := ⟨F.keeps fun b o e => old b o (keep b o e), fun p hp => ⟨old _ _ (keep _ _ (N p hp).1), (N p hp).2⟩, nsC, accD, lt1⟩
  have W := Walks.list (prog := prog) (w := w) hh I1 la (ltI _ ha) vs1.toArray
  refine codeAny_loop rfl (TInv h₀ L m news s D C I1 la vs1.length J) (fun k s' hI => ?_) (vs1.length + 1) ⟨h₁, tk₁, 0, [], [], _, rfl, Nat.zero_le _, rfl, B₀, ltI, hit0.at fun o e => old _ o e, h0⟩
  obtain ⟨h, tk, i, ys, tl, mC, rfl, hi, rfl, B, off, hit, hJ⟩ := hI
  show wpAny _ A ((compTurn (.ListComp elt [⟨.Name x1 p1, i1, [], 0⟩, ⟨.Name x2 p2, i2, [], 0⟩] scope pos) 0 (.ref I1) (.ref D) (compEnvC scope cl C env)).onRaise (fun x => do noteFrame x _; theTreesLotGoes x)) _ _ _
  refine wpAny_noted ?_
  rw [turn_out]
  refine wpAny_bind (wpAny_standAt (wpAny_bind ?_))
  have hla : ∀ {h : Heap} {tl : Led}, News h₀ L h (tl ++ news) → h.IsList la vs1.toArray := fun N => ⟨_, (N (la, lstO vs1 n1) (List.mem_append.mpr (.inr ha))).1, rfl, _, rfl⟩
  by_cases hlt : i < vs1.length
  · refine W.item i _ _ _ (by simpa using hlt) ⟨hit, hla B.N⟩ fun v h₂ tk₂ hv st₂ hk₂ => ?_
    have B₂ := B.keep a off hk₂
    dsimp only
    refine wpAny_bind (wpAny_of_eq (show letOwnedTupleGo (.Name x1 p1) (.ref I1) v = pure () from rfl) ?_)
    refine wpAny_bind (wpAny_assign_Name (wpAny_storeName_local (lookup_relabel_local hx1) B₂.c (fun h₃ hn₃ hs₃ => ?_) (by simp [compEnvC, relabel, hkind])))
    have B₃ := B₂.name a hs₃ hn₃
    have it₃ : h₃.IsListIter I1 la (i + 1) := st₂.1.extBut hs₃.extBut (Ne.symm a.ci)
    obtain ⟨o1, e1, hi1⟩ := iter_of it₃
    have B₄ : Blk h₀ L m C D ((I1, o1) :: (tl ++ news)) h₃ _ ys := B₃.more (q := (I1, o1)) e1 (Ne.symm a.li) a.i (Ne.symm a.ci) (Ne.symm a.di)
    obtain ⟨oC, hoC, N₄⟩ := B₄.led a
    refine wpAny_bind (it2.it C oC _ D ys I1 o1 tl h₃ _ _ _ hoC B₄.F N₄ fun tk₄ => ?_)
    refine wpAny_bind (wpAny_standAt (wpAny_bind (wpAny_of_eq (hs2 _ _) (wpAny_bind (wpAny_holding ?_)))))
    have hlb : h₃.IsList lb vs2.toArray := ⟨_, (B₄.N (lb, lstO vs2 n2) (List.mem_cons_of_mem _ (List.mem_append.mpr (.inr hb)))).1, rfl, _, rfl⟩
    refine wpAny_pyIter_list hlb (wpAny_bind (wpAny_runOwn ?_))
    dsimp only
    have ltL3 : L < h₃.objs.size := B₄.F.ns.lt
    have a2 := ads_new B₄.F a (N₄ _ List.mem_cons_self).1 B₄.d ltL3
    have h12 : I1 ≠ h₃.objs.size := Nat.ne_of_lt (Heap.lt_size e1)
    have B₅ := B₄.push { cls := .type "list_iterator", data := .fields #[.ref lb, .int 0 0] }
    have off₅ : ∀ p ∈ tl ++ news, p.1 ≠ I1 ∧ p.1 ≠ h₃.objs.size := fun p hp => ⟨off p hp, Nat.ne_of_lt (Heap.lt_size (B₃.N p hp).1)⟩
    have hit₅ : (h₃.push { cls := .type "list_iterator", data := .fields #[.ref lb, .int 0 0] }).IsListIter h₃.objs.size lb 0 := ⟨_, Heap.get?_push_size _ rfl, rfl, rfl⟩
    refine start_in ?c0 (wpAny_pyIter_listiter hit₅ ?c1)
    all_goals
      refine inner2 (s := s) (o1 := o1) (v := v) (J i) hh hkind hx2 hxx a2 hb h12 (fun j ys tl hJ hj => hsz i j ys tl hJ hlt hj) (fun j v' oC I2 o2 mC ys tl h tk E' e hoC q1 q2 hJ F N off => ?st) B₅ off₅ (by simp) hit₅ hJ (fun h tk mC ys tl B off hJ => ?dn)
      case st => exact step.it i j v v' C oC I1 o1 I2 o2 D mC ys tl h tk E' (by simpa using hv) e hoC q1 q2 hJ F N off
      case dn =>
        refine wpAny_pure ⟨rfl, vs1.length + 1 - (i + 1), by omega, h, tk, i + 1, ys, tl, mC, rfl, hlt, rfl, B.less fun p hp => List.mem_cons_of_mem _ hp, off, hi1 h (B.N _ List.mem_cons_self).1, hJn i ys tl hJ hlt⟩
  · obtain rfl : i = vs1.length := Nat.le_antisymm hi (Nat.not_lt.mp hlt)
    refine W.done _ _ _ (by simpa using ⟨hit, hla B.N⟩) fun h₂ tk₂ hk₂ => ?_
    have B₂ := B.keep a off hk₂
    exact wpAny_pure ⟨rfl, done _ _ _ _ _ _ _ _ a B₂ hJ⟩
/-- the same; what is new is apart from what stood -/
theorem comp_twoA {la lb : Addr} {vs1 vs2 : List Value} {n1 n2 : Nat} {x1 x2 : Str} {p1 p2 : Pos} {elt i1 i2 : Expr} {scope : Scope} {cl : List (Str × Addr)} {pos : Pos} {P : Addr → Addr → Shared → Prop}
    (hh : A.handled = none) (hkind : scope.kind = .function) (hx1 : scope.names.lookup x1 = some .local) (hx2 : scope.names.lookup x2 = some .local) (hxx : ¬ x1 = x2) (hs2 : ∀ e x, foldedSetIterable i2 e x = pure x)
    (F : Fr h₀ L s.heap m) (N : News h₀ L s.heap news) (ha : (la, lstO vs1 n1) ∈ news) (hb : (lb, lstO vs2 n2) ∈ news)
    (J : Nat → Nat → List Value → Led → Prop) (h0 : J 0 0 [] []) (hJn : ∀ i ys tl, J i vs2.length ys tl → i < vs1.length → J (i + 1) 0 ys tl) (hsz : ∀ i j ys tl, J i j ys tl → i < vs1.length → j < vs2.length → ys.length ≤ 100000)
    (it2 : Hold (∀ C oC mC D ys I1 o1 tl h tk (R E' : Value → Shared → Prop), NsObj oC mC → Fr h₀ L h m → News h₀ L h ((C, oC) :: (D, lstO ys ys.length) :: (I1, o1) :: (tl ++ news)) → (∀ tk', R (.ref lb) { s with heap := h, toks := tk' }) → wpAny (model prog w) A (eval i2 (compEnvC scope cl C env)) R E' { s with heap := h, toks := tk }))
    (step : Hold (∀ i j v v' C oC I1 o1 I2 o2 D mC ys tl h tk (E' : Value → Shared → Prop), vs1[i]? = some v → vs2[j]? = some v' → NsObj oC mC → mC x1 = some v → mC x2 = some v' → J i j ys tl → Fr h₀ L h m → News h₀ L h ((C, oC) :: (D, lstO ys ys.length) :: (I2, o2) :: (I1, o1) :: (tl ++ news)) →
      wpAny (model prog w) A (eval elt (compEnvC scope cl C env)) (Made h₀ L m { s with heap := h, toks := tk } ((C, oC) :: (D, lstO ys ys.length) :: (I2, o2) :: (I1, o1) :: (tl ++ news)) fun tl' y => J i (j + 1) (ys ++ [y]) (tl' ++ tl)) E' { s with heap := h, toks := tk }))
    (done : ∀ C D I mC ys tl h tk, Ads h₀ L C D I → Blk h₀ L m C D (tl ++ news) h mC ys → (∀ q ∈ news, ∀ p ∈ (D, lstO ys ys.length) :: tl, q.1 ≠ p.1) → J vs1.length 0 ys tl → P D C { s with heap := h, toks := tk }) :
    wpAny (model prog w) A (pyIter (.ref la)) (SetupF prog w A (.ListComp elt [⟨.Name x1 p1, i1, [], 0⟩, ⟨.Name x2 p2, i2, [], 0⟩] scope pos) scope cl env P) E s := by
  refine comp_two hh hkind hx1 hx2 hxx hs2 F N ha hb (fun i j ys tl => J i j ys tl ∧ ∀ q ∈ news, ∀ p ∈ tl, q.1 ≠ p.1) ⟨h0, fun _ _ _ h => nomatch h⟩ (fun i ys tl h hi => ⟨hJn i ys tl h.1 hi, h.2⟩) (fun i j ys tl h => hsz i j ys tl h.1) it2 ⟨?_⟩ ?_
  · intro i j v v' C oC I1 o1 I2 o2 D mC ys tl h tk E' e1 e2 hoC q1 q2 hJ F N off
    refine wpAny_mono (step.it i j v v' C oC I1 o1 I2 o2 D mC ys tl h tk E' e1 e2 hoC q1 q2 hJ.1 F N) (fun y s₂ h₂ => ?_) fun _ _ e => e
    obtain ⟨t', h', tk', rfl, F', N', ap, hJ'⟩ := h₂
    refine ⟨h', tk', t' ++ tl, rfl, F', fun p hp => N' p ?_, ?_, hJ', ?_⟩
    · simp only [List.mem_cons, List.mem_append] at hp ⊢
      grind
    · intro p hp
      rw [List.append_assoc] at hp
      rcases List.mem_append.mp hp with hp | hp
      · exact ⟨Ne.symm (ap (C, oC) (by simp) p hp), Ne.symm (ap (D, lstO ys ys.length) (by simp) p hp), Ne.symm (ap (I1, o1) (by simp) p hp), Ne.symm (ap (I2, o2) (by simp) p hp)⟩
      · exact off p hp
    · intro q hq p hp
      rcases List.mem_append.mp hp with hp | hp
      · exact ap q (by simp [hq]) p hp
      · exact hJ.2 q hq p hp
  · intro C D I mC ys tl h tk a b hJ
    exact done C D I mC ys tl h tk a b (fun q hq p hp => (List.mem_cons.mp hp).elim (fun e => e ▸ (b.off q (List.mem_append.mpr (.inr hq))).2) (hJ.2 q hq p)) hJ.1
/-- `[elt for x in a list]`; what is new is apart from what stood -/
theorem comp_mapA {elt : Expr} {x : Str} {scope : Scope} {cl : List (Str × Addr)} {ax : Addr} {vs : List Value} {k : Nat} {Q : Value → Shared → Prop}
    (hh : A.handled = none) (F : Fr h₀ L s.heap m) (N : News h₀ L s.heap news) (hm : (ax, lstO vs k) ∈ news) (hsz : vs.length ≤ 100000)
    (J : Nat → List Value → Led → Prop) (h0 : J 0 [] [])
    (step : Hold (∀ i v I oI C oC D m₂ ys tl h tk (E' : Value → Shared → Prop), vs[i]? = some v → NsObj oC m₂ → m₂ x = some v → J i ys tl → Fr h₀ L h m → News h₀ L h ((I, oI) :: (C, oC) :: (D, lst ys) :: (tl ++ news)) →
      wpAny (model prog w) A (eval elt (compEnvC scope cl C env)) (Made h₀ L m { s with heap := h, toks := tk } ((I, oI) :: (C, oC) :: (D, lst ys) :: (tl ++ news)) fun tl' y => J (i + 1) (ys ++ [y]) (tl' ++ tl)) E' { s with heap := h, toks := tk }))
    (done : Hold (∀ D ys tl h tk, Fr h₀ L h m → News h₀ L h (((D, lstO ys ys.length) :: tl) ++ news) → (∀ q ∈ news, ∀ p ∈ (D, lstO ys ys.length) :: tl, q.1 ≠ p.1) → J vs.length ys tl → Q (.ref D) { s with heap := h, toks := tk })) :
    CompSrc prog w A h₀ L m env elt x scope cl (fun s₂ => FinE h₀ L m s₂ Q) (.ref ax) s := by
  refine comp_mapB hh F N hm hsz (fun i ys tl => J i ys tl ∧ ∀ q ∈ news, ∀ p ∈ tl, q.1 ≠ p.1) ⟨h0, fun _ _ _ h => nomatch h⟩ ?_ ?_
  · intro i v I oI C oC D m₂ ys tl h tk E' hv hoC hx hJ F N off hne
    refine wpAny_mono (step.it i v I oI C oC D m₂ ys tl h tk E' hv hoC hx hJ.1 F N) (fun y s₂ h₂ => ?_) fun _ _ e => e
    obtain ⟨t', h', tk', rfl, F', N', ap, hJ'⟩ := h₂
    refine ⟨h', tk', (t' ++ tl) ++ news, rfl, F', fun p hp => N' p ?_, ?_, t' ++ tl, rfl, hJ', ?_⟩
    · simp only [List.mem_cons, List.mem_append] at hp ⊢
      grind
    · intro p hp
      rw [List.append_assoc] at hp
      rcases List.mem_append.mp hp with hp | hp
      · exact ⟨Ne.symm (ap (I, oI) (by simp) p hp), Ne.symm (ap (C, oC) (by simp) p hp), Ne.symm (ap (D, lst ys) (by simp) p hp)⟩
      · exact off p hp
    · intro q hq p hp
      rcases List.mem_append.mp hp with hp | hp
      · exact ap q (by simp [hq]) p hp
      · exact hJ.2 q hq p hp
  · intro D ys tl h tk F N off hJ
    exact done.it D ys tl h tk F N (fun q hq p hp => (List.mem_cons.mp hp).elim (fun e => e ▸ off q (List.mem_append.mpr (.inr hq))) (hJ.2 q hq p)) hJ.1
end
end Comp2Text
section KnoText
open PyProof.Rows.LCg
set_option hygiene false
theorem tupK_at {prog : Program} {w : World} {A : Around} {E : Value → Shared → Prop} {s : Shared} {h₀ : Heap} {L l : Addr} {m : Str → Option Value} {K : Frag} {lo : Obj} {vs : List Value} {n : Nat} {k : Int} {u : Tok} {j : Nat} {v : Value} {value slice : PySem.Expr} {Q : Value → Shared → Prop} (F : Fr h₀ L s.heap m) (X : K.In h₀) (hk : K.lookup l = some lo) (hc : lo.cls = .type "tuple") (hd : lo.data = .seq vs.toArray n)
    (hlo : -(2 ^ 63) ≤ k) (hhi : k < 2 ^ 63) (hj : seqIndex? k vs.length = some j) (hx : vs[j]? = some v) (h : Q v s)
    (hs : subscripted slice false (.ref l) (.int k u) = operate [.ref l, .int k u] (getItem (.ref l) (.int k u)) := by with_unfolding_all rfl) :
    wpAny (model prog w) A (subscriptTail value slice (.ref l) (.int k u)) Q E s :=
  item_tupleT (t := l) (l := vs) ⟨lo, F.keep _ _ (X _ _ hk), hc, n, hd⟩ hlo hhi hj hx h hs
theorem off_two {X Y : Addr × Obj} {B : Led} (h1 : ∀ p ∈ B, @Ne Nat p.1 X.1) (h2 : ∀ p ∈ B, @Ne Nat p.1 Y.1) : ∀ p ∈ B, ∀ q ∈ [X, Y], p.1 ≠ q.1 := by
  intro p hp q hq
  simp only [List.mem_cons, List.not_mem_nil, or_false] at hq
  rcases hq with rfl | rfl
  · exact h1 p hp
  · exact h2 p hp
theorem off_one {X : Addr × Obj} {B : Led} (h1 : ∀ p ∈ B, @Ne Nat p.1 X.1) : ∀ p ∈ B, ∀ q ∈ [X], p.1 ≠ q.1 := by
  intro p hp q hq
  rw [List.mem_singleton.mp hq]; exact h1 p hp
theorem end_mid {h₀ h' : Heap} {L : Addr} {m' : Str → Option Value} {s₁ : Shared} {its A B : Led} {rest : (Str → Option Value) → Led → Prop} {tk : Nat} (F : Fr h₀ L h' m') (N : News h₀ L h' (A ++ (its ++ B))) (oA : ∀ p ∈ A, ∀ q ∈ its, p.1 ≠ q.1) (oB : ∀ p ∈ B, ∀ q ∈ its, p.1 ≠ q.1) (r : rest m' (A ++ B)) :
    UnrEndW h₀ L s₁ its rest { s₁ with heap := h', toks := tk } :=
  ⟨h', tk, m', A ++ B, rfl, F, fun q hq => N q (by simp only [List.mem_append] at hq ⊢; grind), fun p hp q hq => (List.mem_append.mp hp).elim (fun h => oA p h q hq) (fun h => oB p h q hq), r⟩
theorem lenS_any {prog : Program} {w : World} {A : Around} {E : Value → Shared → Prop} {s : Shared} {x : Str} {t : Tok} {Q : Value → Shared → Prop} (hfit : ¬ (x.length : Int) ≥ 2 ^ 63) (h : ∀ k t tk, Q (.int k t) { s with toks := tk }) :
    wpAny (model prog w) A (call (.builtin "len") [.str x t]) Q E s := P.len_str hfit (h _ _ _)
theorem lenK_any {prog : Program} {w : World} {A : Around} {E : Value → Shared → Prop} {s : Shared} {h₀ : Heap} {L l : Addr} {m : Str → Option Value} {K : Frag} {lo : Obj} {vs : List Value} {n : Nat} {Q : Value → Shared → Prop} (F : Fr h₀ L s.heap m) (X : K.In h₀) (hk : K.lookup l = some lo) (hc : lo.cls = .type "list") (hd : lo.data = .seq vs.toArray n) (hfit : vs.length ≤ 1000)
    (h : ∀ k t tk, Q (.int k t) { s with toks := tk }) : wpAny (model prog w) A (call (.builtin "len") [.ref l]) Q E s := by
  refine Calls.call_len_list ⟨lo, F.keep _ _ (X _ _ hk), hc, n, hd⟩ ?_ (h _ _ _)
  rw [List.size_toArray]; omega
theorem news_swap {h₀ h : Heap} {L : Addr} {A B : Led} (N : News h₀ L h (A ++ B)) : News h₀ L h (B ++ A) := fun q hq => N q (List.mem_append.mpr (List.mem_append.mp hq).symm)
theorem apart_cons {news tl : Led} {p : Addr × Obj} (h : ∀ q ∈ news, @Ne Nat q.1 p.1) (r : ∀ q ∈ news, ∀ p ∈ tl, q.1 ≠ p.1) : ∀ q ∈ news, ∀ p' ∈ p :: tl, q.1 ≠ p'.1 := fun q hq p' hp => (List.mem_cons.mp hp).elim (fun e => e ▸ h q hq) (r q hq p')
abbrev knoT (prog : Program) (w : World) : Told Unit where
  Rel := fun _ vs _ => vs = []
  size := fun _ => 40
  Out := fun _ tl r _ => ∃ cd, r = .ref cd ∧ KnownIn prog w tl cd
local macro_rules | `(tactic| walk_at "my pr") => `(tactic| with_reducible first | assumption | exact And.left (by assumption) | exact And.left (And.right (by assumption)) | exact And.left (And.right (And.right (by assumption))) | exact And.left (And.right (And.right (And.right (by assumption)))) | exact And.left (And.right (And.right (And.right (And.right (by assumption))))) | exact And.left (And.right (And.right (And.right (And.right (And.right (by assumption)))))))
local macro_rules | `(tactic| k_ne) => `(tactic| first | exact neN (Nat.ne_of_lt (by walk_at "my pr")) | exact neN (Nat.ne_of_gt (by walk_at "my pr")) | (refine neN ?_; (try dsimp only); omega))
local macro_rules | `(tactic| k_mem) => `(tactic| first | exact List.mem_cons_self | assumption | (refine List.mem_cons_of_mem _ ?_; k_mem) | (refine List.mem_append.mpr (.inr ?_); k_mem) | (refine List.mem_append.mpr (.inl ?_); k_mem))
local macro_rules | `(tactic| walk_at "my sub") => `(tactic| (intro q hq; first | exact hq | (simp only [List.mem_cons, List.mem_append, List.not_mem_nil, or_false, false_or] at hq ⊢; grind)))
local macro_rules | `(tactic| walk_at "my steps") => `(tactic| (repeat' (first | (k_unfold; (try dsimp only)) | (walk1 <;> (try dsimp only)))))
local macro_rules | `(tactic| walk_at "execs cons") => `(tactic| first | ((with_reducible show wpAny _ _ _ _ _ (PySem.Shared.mk _ _ _ (_ + 1 + 1) _)); refine gen_toks ?_; intro tk) | ((try ((with_reducible rename Fr _ _ _ _ => F8); refine fr_let F8 ?_; clear F8; intro m8 F8)); (with_reducible refine wpAny_execs_cons ?_); (try dsimp only); refine let_Q ?_; intro qk))
local macro_rules | `(tactic| walk_at "my enter") => `(tactic| (refine' code_def ?k1 ?k2 ?k3 ?k4 ?k5 ?kA ?kF ?kK ?k6 ?k7 ?k8 ?k9 ?kB ?_ ?c2 ?c3 ?c4 ?c5; (case kA | kF => exact rfl); (case kK => first | exact rfl | assumption); (case k1 | k2 | k3 | k4 | k5 => k_asm); (case k6 | k7 => k_is); (case k8 => ktr_room); (case k9 => first | exact BindsTo.of_eq rfl | exact binds_K (by k_in) rfl (by k_is) rfl rfl rfl); (case c5 => decide); (case kB => exact locs rfl); (case c2 | c3 | c4 => exact rfl); k_whole; intro g' L' h' FG' F' N' B' X' T'; (try dsimp only); (try k_fold)))
local macro_rules | `(tactic| walk_at "my all") => `(tactic| (first | k_all | exact fun p hp => Nat.ne_of_lt (ktn_ltOf (by assumption) p hp) | exact fun p hp => Nat.ne_of_lt (Nat.lt_succ_of_lt (ktn_ltOf (by assumption) p hp))))
local macro_rules | `(tactic| walk_at "my upd") => `(tactic| (first | (refine' UpdF.head ?a; (case a => walk_at "my all")) | (refine' UpdF.tail ?a ?b; (case a => k_ne); (case b => walk_at "my upd"))))
local macro_rules | `(tactic| walk_at "my offs") => `(tactic| (first | (refine off_two ?_ ?_ <;> walk_at "my all") | (refine off_one ?_; walk_at "my all")))
local macro_rules | `(tactic| walk_at "call ref cons nil") => `(tactic| refine Hold.it ?_)
local macro_rules | `(tactic| walk_at "pyIter ref") => `(tactic| first | (with_unfolding_all refine iter_tupTurns (by rfl) (by k_asm) (by k_asm) (by k_mem) (by rfl) (by rfl) ?_; intro i' l1; (try k_lt l1)) | (refine' list_K ?h ?F ?N ?X ?k ?c ?d ?_; (case h => exact rfl); (case F | N | X => k_asm); (case k => k_is); (case c | d => exact rfl); k_whole; intro i' l1; (try k_lt l1)))
local macro_rules | `(tactic| walk_at "call type:enumerate cons nil") => `(tactic| first | (refine' enum_K (xs := [.pair (fun t => .int 0 t) _, .pair (fun t => .int 1 t) _]) ?h ?F ?N ?X ?k ?c ?d ?x ?_; (case h => exact rfl); (case F | N | X => k_asm); (case k => k_is); (case c | d | x => exact rfl); k_whole; intro i' l1; (have l2 := fun p hp => Nat.lt_add_one_of_lt (l1 p hp)); (try k_lt l1); (try k_lt l2)) | (refine' enum_K (xs := [.pair (fun t => .int 0 t) _]) ?h ?F ?N ?X ?k ?c ?d ?x ?_; (case h => exact rfl); (case F | N | X => k_asm); (case k => k_is); (case c | d | x => exact rfl); k_whole; intro i' l1; (have l2 := fun p hp => Nat.lt_add_one_of_lt (l1 p hp)); (try k_lt l1); (try k_lt l2)))
local macro_rules | `(tactic| walk_at "exec For Tuple Call cons nil") => `(tactic| (k_dflt (refine For_turns (by assumption) ?_)))
local macro_rules | `(tactic| walk_at "exec For Name Tuple cons nil") => `(tactic| (k_dflt (refine For_turns (by assumption) ?_)))
local macro_rules | `(tactic| walk_at "subscriptTail Name Name ref str") => `(tactic| (k_dflt (refine' topItem_K ?F ?X ?l ?k ?e ?_; (case F | X => k_asm); (case l => k_is); (case k => k_keys); (case e => k_is))))
local macro_rules | `(tactic| walk_at "subscriptTail Name Constant ref int") => `(tactic| (k_dflt (refine' tupK_at ?F ?X ?l ?c ?d ?a ?b ?j ?e ?_; (case F | X => k_asm); (case l => k_is); (case c | d => exact rfl); (case a | b => decide); (case j | e => exact rfl))))
local macro_rules | `(tactic| walk_at "call builtin:len cons nil") => `(tactic| first | (refine lenS_any (by decide +kernel) ?_; intro k' t' tk') | (refine' lenK_any ?F ?X ?l ?c ?d ?z ?_; (case F | X => k_asm); (case l => k_is); (case c | d => exact rfl); (case z => exact Nat.le_of_ble_eq_true rfl); intro k' t' tk'))
local macro_rules | `(tactic| walk_at "setItem ref str ref") => `(tactic| (k_dflt (refine' kda_set (knd := PySem.strKind _ _) ?F ?N ?U ?d (beq_self_eq_true _) ?z ?_; (case F | N => k_asm); (case U => walk_at "my upd"); (case d => k_asm); (case z => rw [sizeLine_eq]; exact Nat.le_of_ble_eq_true (by with_unfolding_all rfl))); intro h' o' F' N' hd'; (try dsimp only at N')))
set_option maxHeartbeats 1000000
theorem kno_tells (w : World) (loose mean mg mb) : ∀ d, Tell PySem.Challenge.rw_og0007_01.row.prog w (hd.heap_39 w.params) hd.view_39 loose mean mg mb 462 (knoT PySem.Challenge.rw_og0007_01.row.prog w) d := by
  intro P
  w_on
  unfold Tell
  k_fill
  intro dp un gd cn cs a ccd cl outer A₀ base h₀ L m news kept s vs Q E B F X N T hk hsub hR hd hu hret
  subst hR
  simp only at hret hd hu ⊢
  refine wpAny_call ?_
  k_dflt (walk_at "my enter")
  refine let_A ?_
  intro A9
  try (refine let_env ?_; intro e9)
  w_strict (walk_at "my steps")
  refine ⟨?_⟩
  refine mk_coninfo w loose mean mg mb _ _ _ _ _ _ _ _ _ _ _ _ _ _ _ _ _ _ (by assumption) (by assumption) (by assumption) (by assumption) (by assumption) rfl _ _ _ _ _ _ _ _ ?hin ?huu ?hmk
  case hin => show dp + 1 + 10 < _; omega
  case huu => show un + 3 + 64 < _; omega
  case hmk =>
  intro x1 d1 n1 t01 h01 t11 h11 t21 h21 t31 h31 t41 h41 t51 h51 t61 h61 t71 h71 g1 tk1 F1 N1 o1 p1
  obtain ⟨od1, ho1, N1⟩ := hide_dict N1
  have q1 := fun p hp => Nat.lt_trans (o1 p hp) p1
  k_lt o1
  k_lt q1
  w_strict (walk_at "my steps")
  refine end_mid (A := [_, _, _]) (by assumption) (by assumption) ?oA ?oB ⟨trivial, ?_⟩
  case oA => walk_at "my offs"
  case oB => walk_at "my offs"
  simp only [List.cons_append, List.nil_append]
  w_strict (walk_at "my steps")
  refine ⟨?_⟩
  refine mk_coninfo w loose mean mg mb _ _ _ _ _ _ _ _ _ _ _ _ _ _ _ _ _ _ (by assumption) (by assumption) (by assumption) (by assumption) (by assumption) rfl _ _ _ _ _ _ _ _ ?hin ?huu ?hmk
  case hin => show dp + 1 + 10 < _; omega
  case huu => show un + 3 + 64 < _; omega
  case hmk =>
  intro x2 d2 n2 t02 h02 t12 h12 t22 h22 t32 h32 t42 h42 t52 h52 t62 h62 t72 h72 g2 tk2 F2 N2 o2 p2
  obtain ⟨od2, ho2, N2⟩ := hide_dict N2
  have q2 := fun p hp => Nat.lt_trans (o2 p hp) p2
  k_lt o2
  k_lt q2
  w_strict (walk_at "my steps")
  refine end_mid (A := [_, _, _]) (by assumption) (by assumption) ?oA ?oB ⟨trivial, ?_⟩
  case oA => walk_at "my offs"
  case oB => walk_at "my offs"
  simp only [List.cons_append, List.nil_append]
  w_strict (walk_at "my steps")
  refine end_mid (A := [_, _, _, _, _, _]) (by assumption) (by assumption) ?oA ?oB ⟨⟨by k_mem, trivial⟩, ?_⟩
  case oA => walk_at "my offs"
  case oB => walk_at "my offs"
  simp only [List.cons_append, List.nil_append]
  w_strict (walk_at "my steps")
  refine ⟨?_⟩
  refine mk_coninfo w loose mean mg mb _ _ _ _ _ _ _ _ _ _ _ _ _ _ _ _ _ _ (by assumption) (by assumption) (by assumption) (by assumption) (by assumption) rfl _ _ _ _ _ _ _ _ ?hin ?huu ?hmk
  case hin => show dp + 1 + 10 < _; omega
  case huu => show un + 3 + 64 < _; omega
  case hmk =>
  intro x3 d3 n3 t03 h03 t13 h13 t23 h23 t33 h33 t43 h43 t53 h53 t63 h63 t73 h73 g3 tk3 F3 N3 o3 p3
  obtain ⟨od3, ho3, N3⟩ := hide_dict N3
  have q3 := fun p hp => Nat.lt_trans (o3 p hp) p3
  k_lt o3
  k_lt q3
  w_strict (walk_at "my steps")
  refine end_mid (A := [_, _, _]) (by assumption) (by assumption) ?oA ?oB ⟨trivial, ?_⟩
  case oA => walk_at "my offs"
  case oB => walk_at "my offs"
  simp only [List.cons_append, List.nil_append]
  w_strict (walk_at "my steps")
  refine end_mid (A := [_, _, _]) (by assumption) (by assumption) ?oA ?oB ⟨⟨by k_mem, trivial⟩, ?_⟩
  case oA => walk_at "my offs"
  case oB => walk_at "my offs"
  simp only [List.cons_append, List.nil_append]
  w_strict (walk_at "my steps")
  have NN := news_swap (h₀ := h₀) (L := L) (A := [_, _, _, _, _, _, _, _, _, _, _]) (B := news) (by assumption)
  refine hret _ [_, _, _, _, _, _, _, _, _, _, _] _ _ (by assumption) NN ?ap ⟨_, rfl, _, x1, x2, x3, by k_mem, by assumption, by assumption, .of ho1 (by k_mem) (by k_mem) rfl rfl, .of ho2 (by k_mem) (by k_mem) rfl rfl, .of ho3 (by k_mem) (by k_mem) rfl rfl⟩
  case ap =>
    repeat' (refine apart_cons ?_ ?_)
    all_goals first | exact apart_nil | walk_at "my all"
end KnoText
section ValText
open PyProof.Rows.LCg
set_option hygiene false
theorem fill_val (w : World) : PySem.Challenge.rw_og0007_01.row.prog = PySem.Challenge.rw_og0007_01.row.prog ∧ hd.heap_39 w.params = hd.heap_39 w.params := by
  k_fill
  exact ⟨rfl, rfl⟩
def kdLet : Kd → Nat
  | .T => 84 | .N => 78 | .P => 80 | .L => 76 | .I => 73
def kdName (k : Kd) : Str := ⟨#[kdLet k]⟩
theorem kdName_T : kdName .T = Str.ofString "T" := by decide +kernel
theorem kdName_N : kdName .N = Str.ofString "N" := by decide +kernel
theorem kdName_P : kdName .P = Str.ofString "P" := by decide +kernel
theorem kdName_L : kdName .L = Str.ofString "L" := by decide +kernel
theorem kdName_I : kdName .I = Str.ofString "I" := by decide +kernel
theorem kdName_ne (k : Kd) (h : k ≠ .I) : (kdName k == Str.ofString "I") = false := by cases k <;> first | exact absurd rfl h | decide +kernel
structure PairAt (K : Frag) (v : Value) (c : Str × List Kd) : Prop where
  it : ∃ t to n tn tf tx, v = .ref t ∧ K.lookup t = some to ∧ to.cls = .type "tuple" ∧ to.data = .seq #[.str c.1 tn, .str tx tf] n ∧ tx.cps = (c.2.map kdLet).toArray
structure KindAt (K : Frag) (k : Kd) (l : Addr) (lo : Obj) (vs : List Value) (n : Nat) : Prop where
  at_ : nsIn K 419 (kdName k) = some (some (.ref l))
  obj : K.lookup l = some lo
  cls : lo.cls = .type "list"
  data : lo.data = .seq vs.toArray n
  len : vs.length = k.cons.length
  pair : ∀ (i : Nat) (c : Str × List Kd), k.cons[i]? = some c → ∃ v, vs[i]? = some v ∧ PairAt K v c
theorem kind_at (w : World) : ∀ k : Kd, k ≠ .I → ∃ l lo vs n, KindAt (hd.heap_39 w.params) k l lo vs n := by
  w_on
  intro k hk
  cases k
  case I => exact absurd rfl hk
  case T =>
    refine ⟨_, _, _, _, by rw [kdName_T]; k_is, by k_is, rfl, rfl, rfl, ?_⟩
    intro i c h
    match i, h with
    | 0, h => simp only [Kd.cons, List.getElem?_cons_zero, Option.some.injEq] at h; subst h; exact ⟨_, rfl, _, _, _, _, _, _, rfl, by k_is, rfl, rfl, rfl⟩
    | 1, h => simp only [Kd.cons, List.getElem?_cons_succ, List.getElem?_cons_zero, Option.some.injEq] at h; subst h; exact ⟨_, rfl, _, _, _, _, _, _, rfl, by k_is, rfl, rfl, rfl⟩
    | i + 2, h => simp [Kd.cons] at h
  case L =>
    refine ⟨_, _, _, _, by rw [kdName_L]; k_is, by k_is, rfl, rfl, rfl, ?_⟩
    intro i c h
    match i, h with
    | 0, h => simp only [Kd.cons, List.getElem?_cons_zero, Option.some.injEq] at h; subst h; exact ⟨_, rfl, _, _, _, _, _, _, rfl, by k_is, rfl, rfl, rfl⟩
    | 1, h => simp only [Kd.cons, List.getElem?_cons_succ, List.getElem?_cons_zero, Option.some.injEq] at h; subst h; exact ⟨_, rfl, _, _, _, _, _, _, rfl, by k_is, rfl, rfl, rfl⟩
    | i + 2, h => simp [Kd.cons] at h
  case N =>
    refine ⟨_, _, _, _, by rw [kdName_N]; k_is, by k_is, rfl, rfl, rfl, ?_⟩
    intro i c h
    match i, h with
    | 0, h => simp only [Kd.cons, List.getElem?_cons_zero, Option.some.injEq] at h; subst h; exact ⟨_, rfl, _, _, _, _, _, _, rfl, by k_is, rfl, rfl, rfl⟩
    | i + 1, h => simp [Kd.cons] at h
  case P =>
    refine ⟨_, _, _, _, by rw [kdName_P]; k_is, by k_is, rfl, rfl, rfl, ?_⟩
    intro i c h
    match i, h with
    | 0, h => simp only [Kd.cons, List.getElem?_cons_zero, Option.some.injEq] at h; subst h; exact ⟨_, rfl, _, _, _, _, _, _, rfl, by k_is, rfl, rfl, rfl⟩
    | i + 1, h => simp [Kd.cons] at h
inductive LotsIn (news : Led) : List Value → List (List Val) → Prop
  | nil : LotsIn news [] []
  | cons {l vs n xs ls xss} : (l, lstO vs n) ∈ news → ValsIn news vs xs → LotsIn news ls xss → LotsIn news (.ref l :: ls) (xs :: xss)
theorem LotsIn.mono {news news' : Led} (hs : ∀ p ∈ news, p ∈ news') {vs : List Value} {x : List (List Val)} (h : LotsIn news vs x) : LotsIn news' vs x := by
  induction h with
  | nil => exact .nil
  | cons a b c ih => exact .cons (hs _ a) (b.mono hs) ih
theorem LotsIn.snoc {news : Led} {l : Addr} {vs : List Value} {n : Nat} {xs : List Val} (h1 : (l, lstO vs n) ∈ news) (h2 : ValsIn news vs xs) {ls : List Value} {xss : List (List Val)} (h : LotsIn news ls xss) : LotsIn news (ls ++ [.ref l]) (xss ++ [xs]) := by
  induction h with
  | nil => exact .cons h1 h2 .nil
  | cons a b c ih => exact .cons a b ih
theorem LotsIn.at {news : Led} : ∀ {ls xss} {i : Nat} {v : Value}, LotsIn news ls xss → ls[i]? = some v → ∃ l vs n xs, v = .ref l ∧ (l, lstO vs n) ∈ news ∧ ValsIn news vs xs ∧ xss[i]? = some xs
  | _, _, _, _, .nil, e => by simp at e
  | _, _, 0, _, .cons a b c, e => by simp only [List.getElem?_cons_zero, Option.some.injEq] at e; exact ⟨_, _, _, _, e.symm, a, b, rfl⟩
  | _, _, i + 1, _, .cons a b c, e => by simpa using LotsIn.at c (by simpa using e)
theorem LotsIn.length {news : Led} {ls : List Value} {xss : List (List Val)} (h : LotsIn news ls xss) : ls.length = xss.length := by
  induction h with
  | nil => rfl
  | cons a b c ih => exact congrArg (· + 1) ih
theorem ValsIn.snoc {news : Led} {v : Value} {x : Val} (k : ValIn news v x) {vs : List Value} {xs : List Val} (h : ValsIn news vs xs) : ValsIn news (vs ++ [v]) (xs ++ [x]) := by
  induction vs generalizing xs with
  | nil => cases h; exact .cons k .nil
  | cons y vs ih =>
    cases h with
    | cons h1 h2 => exact .cons h1 (ih h2)
theorem ValsIn.app {news : Led} {vs : List Value} {xs : List Val} {ws : List Value} {ys : List Val} (h : ValsIn news vs xs) (k : ValsIn news ws ys) : ValsIn news (vs ++ ws) (xs ++ ys) := by
  induction vs generalizing xs with
  | nil => cases h; exact k
  | cons y vs ih =>
    cases h with
    | cons h1 h2 => exact .cons h1 (ih h2)
theorem ValsIn.at' {news : Led} : ∀ {ls xss} {i : Nat} {v : Value}, ValsIn news ls xss → ls[i]? = some v → ∃ x, ValIn news v x ∧ xss[i]? = some x
  | _, _, _, _, .nil, e => by simp at e
  | _, _, 0, _, .cons a b, e => by simp only [List.getElem?_cons_zero, Option.some.injEq] at e; exact ⟨_, e ▸ a, rfl⟩
  | _, _, i + 1, _, .cons a b, e => by simpa using ValsIn.at' b (by simpa using e)
/-- what the lots are after i whole lots and j parts of the next -/
def lotsAt (X : List (List Val)) (P : List Val) (i j : Nat) : List (List Val) := ((X.take i).flatMap fun lot => P.map fun x => lot ++ [x]) ++ (match X[i]? with | some lot => (P.take j).map fun x => lot ++ [x] | none => [])
theorem lotsAt_zero (X : List (List Val)) (P : List Val) : lotsAt X P 0 0 = [] := by unfold lotsAt; cases X <;> simp
theorem lotsAt_next {X : List (List Val)} {P : List Val} {i : Nat} (h : i < X.length) : lotsAt X P i P.length = lotsAt X P (i + 1) 0 := by
  unfold lotsAt
  rw [List.getElem?_eq_getElem h, List.take_add_one, List.getElem?_eq_getElem h]
  simp only [List.take_length, Option.toList_some, List.flatMap_append, List.flatMap_cons, List.flatMap_nil, List.append_nil, List.take_zero, List.map_nil]
  cases X[i + 1]? <;> simp
theorem lotsAt_step {X : List (List Val)} {P : List Val} {i j : Nat} {lot : List Val} {x : Val} (h : X[i]? = some lot) (k : P[j]? = some x) : lotsAt X P i (j + 1) = lotsAt X P i j ++ [lot ++ [x]] := by
  unfold lotsAt
  rw [h]
  simp [List.take_add_one, k]
theorem lotsAt_end (X : List (List Val)) (P : List Val) : lotsAt X P X.length 0 = X.flatMap fun lot => P.map fun x => lot ++ [x] := by
  unfold lotsAt
  simp
abbrev valT : Told (Kd × Nat) where
  Rel := fun _ vs d => d.2 ≤ 3 ∧ ∃ t1 t2, vs = [.str (kdName d.1) t1, .int d.2 t2]
  size := fun d => 20 * d.2 + 20
  Out := fun _ tl r d => ∃ l ws n, r = .ref l ∧ (l, lstO ws n) ∈ tl ∧ ValsIn tl ws (valsK d.2 d.1)
theorem m_form2 {m : Str → Option Value} {a b : Str} {v1 v2 : Value} (h1 : m a = some v1) (h2 : m b = some v2) : ∃ mf : Str → Option Value, m = fun y => if y = a then some v1 else if y = b then some v2 else mf y :=
  ⟨m, funext fun y => by by_cases e : y = a; · simp [e, h1]
                         · by_cases e2 : y = b; · simp [e, e2, h2]; intro q; exact absurd (e2.trans q) e
                           · simp [e, e2]⟩
theorem m_form3 {m : Str → Option Value} {a b c : Str} {v1 v2 v3 : Value} (h1 : m a = some v1) (h2 : m b = some v2) (h3 : m c = some v3) : ∃ mf : Str → Option Value, m = fun y => if y = a then some v1 else if y = b then some v2 else if y = c then some v3 else mf y :=
  ⟨m, funext fun y => by
    by_cases e : y = a
    · subst e; simp [h1]
    by_cases e2 : y = b
    · subst e2; simp [e, h2]
    by_cases e3 : y = c
    · subst e3; simp [e, e2, h3]
    simp [e, e2, e3]⟩
theorem led_rot {h₀ h : Heap} {L : Addr} {a b c : Addr × Obj} {r : Led} (N : News h₀ L h (a :: b :: c :: r)) : News h₀ L h (b :: c :: a :: r) := fun q hq => N q (by simp only [List.mem_cons] at hq ⊢; grind)
/-- what a part of a kind may be at depth d -/
def gK (d : Nat) : Kd → List Val := if d = 0 then fun _ => [] else valsK (d - 1)
theorem valsK_eq {k : Kd} (hk : k ≠ .I) (d : Nat) : valsK d k = k.cons.flatMap fun c => (lotsOf (gK d) c.2 [[]]).map (Val.con c.1) := by
  cases k <;> first | exact absurd rfl hk | (cases d <;> simp [valsK, partsK, gK])
def foundAt (k : Kd) (d i : Nat) : List Val := (k.cons.take i).flatMap fun c => (lotsOf (gK d) c.2 [[]]).map (Val.con c.1)
theorem foundAt_end {k : Kd} (hk : k ≠ .I) (d : Nat) : foundAt k d k.cons.length = valsK d k := by rw [valsK_eq hk]; unfold foundAt; simp
theorem foundAt_step {k : Kd} {d i : Nat} {c : Str × List Kd} (h : k.cons[i]? = some c) : foundAt k d (i + 1) = foundAt k d i ++ (lotsOf (gK d) c.2 [[]]).map (Val.con c.1) := by
  unfold foundAt; simp [List.take_add_one, h]
theorem lotsOf_snoc (g : Kd → List Val) : ∀ (fs : List Kd) (f : Kd) (X : List (List Val)), lotsOf g (fs ++ [f]) X = (lotsOf g fs X).flatMap fun lot => (g f).map fun x => lot ++ [x]
  | [], _, _ => rfl
  | _ :: fs, f, _ => lotsOf_snoc g fs f _
theorem lotsOf_step {g : Kd → List Val} {fs : List Kd} {f : Kd} {j : Nat} {X : List (List Val)} (h : fs[j]? = some f) : lotsOf g (fs.take (j + 1)) X = (lotsOf g (fs.take j) X).flatMap fun lot => (g f).map fun x => lot ++ [x] := by
  rw [List.take_add_one, h]; exact lotsOf_snoc g _ _ _
structure VJ (news : Led) (c1 c2 : Addr) (k : Kd) (d : Nat) (t2 : Tok) (i : Nat) (m : Str → Option Value) (tl : Led) : Prop where
  it : ∃ o1 o2 v1 v2 R F wf nf, tl = (c2, o2) :: (c1, o1) :: R ∧ o1.data = .cell v1 ∧ o2.data = .cell v2 ∧ (∀ p ∈ R, p.1 ≠ c1) ∧ (∀ p ∈ R, p.1 ≠ c2) ∧ (∀ q ∈ news, ∀ p ∈ R, q.1 ≠ p.1) ∧
    m "found_one" = some (.ref F) ∧ m "deep_one" = some (.int d t2) ∧ (F, lstO wf nf) ∈ R ∧ ValsIn R wf (foundAt k d i)
structure VI (news : Led) (c1 c2 I : Addr) (oI o1 : Obj) (F : Addr) (fs : List Kd) (d : Nat) (t2 : Tok) (X : List Val) (j : Nat) (m : Str → Option Value) (tl : Led) : Prop where
  it : ∃ o2 v2 R Lo ws n wf nf, tl = (I, oI) :: (c2, o2) :: (c1, o1) :: R ∧ o2.data = .cell v2 ∧ (∀ p ∈ R, p.1 ≠ c1) ∧ (∀ p ∈ R, p.1 ≠ c2) ∧ (∀ p ∈ R, p.1 ≠ I) ∧ (∀ q ∈ news, ∀ p ∈ R, q.1 ≠ p.1) ∧
    m "found_one" = some (.ref F) ∧ m "deep_one" = some (.int d t2) ∧ m "lots" = some (.ref Lo) ∧ (F, lstO wf nf) ∈ R ∧ ValsIn R wf X ∧ (Lo, lstO ws n) ∈ R ∧ LotsIn R ws (lotsOf (gK d) (fs.take j) [[]])
theorem led_in {h₀ h : Heap} {L : Addr} {a b c d e : Addr × Obj} {R r : Led} (N : News h₀ L h (a :: b :: c :: d :: e :: (R ++ r))) : News h₀ L h ((c :: d :: e :: a :: b :: R) ++ r) := fun q hq => N q (by simp only [List.mem_cons, List.mem_append] at hq ⊢; grind)
theorem kd_ascii (fs : List Kd) : (fs.map kdLet).toArray.all (· < 128) = true := by
  simp only [List.all_toArray, List.all_map, List.all_eq_true, Function.comp_apply, decide_eq_true_eq]
  intro k _; cases k <;> decide
theorem kd_char {fs : List Kd} {j ch : Nat} (h : (fs.map kdLet).toArray[j]? = some ch) : ∃ f, fs[j]? = some f ∧ ch = kdLet f := by
  simp only [List.getElem?_toArray, List.getElem?_map, Option.map_eq_some_iff] at h
  obtain ⟨f, h1, h2⟩ := h
  exact ⟨f, h1, h2.symm⟩
theorem all_cons {q : Addr × Obj} {R : Led} {P : Addr × Obj → Prop} (h : P q) (r : ∀ p ∈ R, P p) : ∀ p ∈ q :: R, P p := fun p hp => (List.mem_cons.mp hp).elim (fun e => e ▸ h) (r p)
theorem vals_len {d : Nat} (hd : d ≤ 3) (k : Kd) : (valsK d k).length ≤ 100 := by
  have : d = 0 ∨ d = 1 ∨ d = 2 ∨ d = 3 := by omega
  rcases this with rfl | rfl | rfl | rfl <;> cases k <;> decide +kernel
theorem gK_len {d : Nat} (hd : d ≤ 3) (k : Kd) : (gK d k).length ≤ 100 := by
  unfold gK
  split
  · exact Nat.zero_le _
  · exact vals_len (by omega) k
theorem fm_len {g : List Val} : ∀ (X : List (List Val)), (X.flatMap fun lot => g.map fun x => lot ++ [x]).length = X.length * g.length
  | [] => by simp
  | a :: X => by
    rw [List.flatMap_cons, List.length_append, fm_len X, List.length_map, List.length_cons, Nat.add_mul, Nat.one_mul, Nat.add_comm]
theorem lots_len1 {g : Kd → List Val} (hg : ∀ k, (g k).length ≤ 100) : ∀ (fs : List Kd), fs.length ≤ 1 → (lotsOf g fs [[]]).length ≤ 100
  | [], _ => by simp [lotsOf]
  | [f], _ => by simp only [lotsOf]; rw [fm_len]; simpa using hg f
theorem cons_two {k : Kd} {i : Nat} {c : Str × List Kd} (h : k.cons[i]? = some c) : c.2.length ≤ 2 := by
  have := List.mem_of_getElem? h
  cases k <;> simp only [Kd.cons, List.mem_cons, List.not_mem_nil, or_false] at this
  · rcases this with rfl | rfl <;> decide
  · subst this; decide
  · subst this; decide
  · rcases this with rfl | rfl <;> decide
theorem lotsAt_len {X : List (List Val)} {P : List Val} {i j : Nat} (hi : i < X.length) (hj : j < P.length) : (lotsAt X P i j).length ≤ X.length * P.length := by
  unfold lotsAt
  rw [List.getElem?_eq_getElem hi, List.length_append, fm_len, List.length_take, List.length_map, List.length_take]
  rw [Nat.min_eq_left (Nat.le_of_lt hi), Nat.min_eq_left (Nat.le_of_lt hj)]
  calc i * P.length + j ≤ i * P.length + P.length := by omega
    _ = (i + 1) * P.length := by rw [Nat.add_mul, Nat.one_mul]
    _ ≤ X.length * P.length := Nat.mul_le_mul_right _ hi
theorem found_len {k : Kd} {d i : Nat} (hk : k ≠ .I) (hd : d ≤ 3) : (foundAt k d i).length ≤ 100 := by
  have h := vals_len hd k
  rw [valsK_eq hk] at h
  have e : k.cons = k.cons.take i ++ k.cons.drop i := (List.take_append_drop ..).symm
  rw [e, List.flatMap_append, List.length_append] at h
  unfold foundAt
  omega
theorem lots_len2 {k : Kd} {d i : Nat} {c : Str × List Kd} (hk : k ≠ .I) (hd : d ≤ 3) (h : k.cons[i]? = some c) : (foundAt k d i).length + (lotsOf (gK d) c.2 [[]]).length ≤ 100 := by
  have := found_len (i := i + 1) hk hd
  rw [foundAt_step h, List.length_append, List.length_map] at this
  exact this
theorem off_app {A B : Led} {P : Addr × Obj → Prop} (h : ∀ p ∈ A, P p) (r : ∀ p ∈ B, P p) : ∀ p ∈ A ++ B, P p := fun p hp => (List.mem_append.mp hp).elim (h p) (r p)
theorem lots_each {g : Kd → List Val} : ∀ (fs : List Kd) (n : Nat) (X : List (List Val)), (∀ x ∈ X, x.length = n) → ∀ x ∈ lotsOf g fs X, x.length = n + fs.length
  | [], _, _, h, x, hx => h x hx
  | f :: fs, n, X, h, x, hx => by
    have := lots_each fs (n + 1) (X.flatMap fun lot => (g f).map fun x => lot ++ [x]) (by
      intro y hy
      obtain ⟨lot, hl, hy⟩ := List.mem_flatMap.mp hy
      obtain ⟨z, _, rfl⟩ := List.mem_map.mp hy
      simp [h lot hl]) x hx
    rw [this, List.length_cons]; omega
theorem vz1 {dp d k : Nat} (h : dp + (20 * d + 20) < k) (h0 : d ≠ 0) : dp + 1 + (20 * (d - 1) + 20) < k := by omega
theorem vz2 {un d k : Nat} (h : un + 8 * (20 * d + 20) < k) (h0 : d ≠ 0) : un + 3 + 8 * (20 * (d - 1) + 20) < k := by omega
theorem vz3 {d : Nat} (h0 : d ≠ 0) : (0 : Int) < (d : Int) := by omega
theorem vz4 {d : Nat} (h0 : d ≠ 0) : (d : Int) - 1 = ((d - 1 : Nat) : Int) := by omega
local macro_rules | `(tactic| walk_at "my pr") => `(tactic| with_reducible first | assumption | exact And.left (by assumption) | exact And.left (And.right (by assumption)) | exact And.left (And.right (And.right (by assumption))) | exact And.left (And.right (And.right (And.right (by assumption)))) | exact And.left (And.right (And.right (And.right (And.right (by assumption))))) | exact And.left (And.right (And.right (And.right (And.right (And.right (by assumption)))))))
local macro_rules | `(tactic| k_ne) => `(tactic| first | exact neN (Nat.ne_of_lt (by walk_at "my pr")) | exact neN (Nat.ne_of_gt (by walk_at "my pr")) | (refine neN ?_; (try dsimp only); omega))
local macro_rules | `(tactic| k_mem) => `(tactic| first | exact List.mem_cons_self | assumption | (refine List.mem_cons_of_mem _ ?_; k_mem) | (refine List.mem_append.mpr (.inr ?_); k_mem) | (refine List.mem_append.mpr (.inl ?_); k_mem))
local macro_rules | `(tactic| walk_at "my sub") => `(tactic| (intro q hq; first | exact hq | (simp only [List.mem_cons, List.mem_append, List.not_mem_nil, or_false, false_or] at hq ⊢; grind)))
local macro_rules | `(tactic| walk_at "my steps") => `(tactic| (repeat' (first | (k_unfold; (try dsimp only)) | (walk1 <;> (try dsimp only)))))
local macro_rules | `(tactic| walk_at "execs cons") => `(tactic| first | ((with_reducible show wpAny _ _ _ _ _ (PySem.Shared.mk _ _ _ (_ + 1 + 1) _)); refine gen_toks ?_; intro tk) | ((try ((with_reducible rename Fr _ _ _ _ => F8); refine fr_let F8 ?_; clear F8; intro m8 F8)); (with_reducible refine wpAny_execs_cons ?_); (try dsimp only); refine let_Q ?_; intro qk))
local macro_rules | `(tactic| walk_at "my enterC") => `(tactic| (refine' code_defC ?k1 ?k2 ?k3 ?k4 ?k5 ?kA ?kF ?kK ?k6 ?k7 ?k8 ?k9 ?kB ?kD ?_ ?c2 ?c3 ?c4; (case kA | kF => exact rfl); (case kK => first | exact rfl | assumption); (case k1 | k2 | k3 | k4 | k5 => k_asm); (case k6 | k7 => k_is); (case k8 => ktr_room); (case k9 => exact BindsTo.of_eq rfl); (case kB => exact rfl); (case kD => decide +kernel); (case c2 | c3 | c4 => exact rfl); k_whole; intro g' L' h' tk' cells' FG' F' N' Y' B' X' T' l1; (try k_lt l1); k_cells Y'; (try simp only [List.cons_append, List.nil_append] at N'); (try dsimp only); (try k_fold)))
local macro_rules | `(tactic| walk_at "my all") => `(tactic| (first | assumption | k_all | exact fun p hp => Nat.ne_of_lt (ktn_ltOf (by assumption) p hp) | exact fun p hp => Nat.ne_of_lt (Nat.lt_succ_of_lt (ktn_ltOf (by assumption) p hp))))
local macro_rules | `(tactic| walk_at "my upd") => `(tactic| (first | (refine' UpdF.head ?a; (case a => walk_at "my all")) | (refine' UpdF.tail ?a ?b; (case a => first | assumption | k_ne); (case b => walk_at "my upd"))))
local macro_rules | `(tactic| walk_at "storeName") => `(tactic| (k_here; k_dflt (refine' storeX_C ?sF ?sN ?sc ?sU ?sd ?_ ?sa ?sb; (case sa | sb => rfl); (case sF | sN => k_asm); (case sc => rfl); (case sU => walk_at "my upd"); (case sd => k_asm); k_whole; intro h' o' F' N' d'; (try dsimp only at N'); (try k_sweep))))
local macro_rules | `(tactic| walk_at "subscriptTail Name Name ref str") => `(tactic| (k_dflt (refine' topItem_K ?F ?X ?l ?k ?e ?_; (case F | X => k_asm); (case l => k_is); (case k => k_keys); (case e => exact KindAt.at_ (by assumption)))))
local macro_rules | `(tactic| walk_at "pyIter ref") => `(tactic| refine Hold.it ?_)
local macro_rules | `(tactic| walk_at "pyIter str") => `(tactic| refine Hold.it ?_)
local macro_rules | `(tactic| walk_at "call ref cons nil") => `(tactic| refine Hold.it ?_)
local macro_rules | `(tactic| walk_at "exec For Tuple Subscript cons nil") => `(tactic| (k_dflt (refine For_turns (by assumption) ?_)))
local macro_rules | `(tactic| walk_at "exec For Name Name cons nil") => `(tactic| (k_dflt (refine For_turns (by assumption) ?_)))
local macro_rules | `(tactic| walk_at "assign Tuple cons ref") => `(tactic| (k_dflt (refine' unpackK ?uF ?uN ?uX ?uk ?uc ?ud ?uk1 ?uk2 ?uk3 ?_; (case uF | uN | uX => k_asm); (case uk | uc | ud => assumption); (case uk1 | uk2 | uk3 => exact rfl)); intro h' F' N'; (try k_sweep)))
local macro_rules | `(tactic| walk_at "eval IfExp Compare Call List") => `(tactic| refine Hold.it ?_)
local macro_rules | `(tactic| walk_at "eval ListComp Tuple cons") => `(tactic| (k_dflt (refine LCg.ListComp_U (F₀ := by k_asm) (by with_unfolding_all rfl) (by decide) (by rfl) (by decide) (by rfl) ?_)))
local macro_rules | `(tactic| walk_at "CompSrc Tuple cons ref") => `(tactic| refine Hold.it ?_)
local macro_rules | `(tactic| walk_at "binaryOp Add ref ref") => `(tactic| (k_dflt (refine cat_lists (by assumption) (by assumption) (by k_mem) (by k_mem) (by with_reducible assumption) ?_); intro D' h' F' N' l1; (try k_lt l1)))
local macro_rules | `(tactic| walk_at "exec Assign cons ListComp") => `(tactic| (k_dflt (refine comp_setupA (by with_unfolding_all rfl) (by with_unfolding_all rfl) (by decide) (by rfl) (by decide) ?_)))
set_option maxHeartbeats 2000000
theorem val_K (w : World) (loose mean mg mb) (k : Kd) (d : Nat) (hkI : k ≠ .I) (IH : ∀ f, d ≠ 0 → Tell PySem.Challenge.rw_og0007_01.row.prog w (hd.heap_39 w.params) hd.view_39 loose mean mg mb 467 valT (f, d - 1)) :
    Tell PySem.Challenge.rw_og0007_01.row.prog w (hd.heap_39 w.params) hd.view_39 loose mean mg mb 467 valT (k, d) := by
  obtain ⟨l, lo, vs₀, n₀, hK⟩ := kind_at w k hkI
  w_on
  unfold Tell
  k_fill
  intro dp un gd cn cs a ccd cl outer A₀ base h₀ L m news kept s vs Q E B F X N T hk hsub hR hd hu hret
  obtain ⟨hd3, t1, t2, rfl⟩ := hR
  simp only at hret hd hu hd3 ⊢
  have hne := kdName_ne k hkI
  refine wpAny_call ?_
  refine' code_defC ?k1 ?k2 ?k3 ?k4 ?k5 ?kA ?kF ?kK ?k6 ?k7 ?k8 ?k9 ?kB ?kD ?_ ?c2 ?c3 ?c4; (case kA => exact rfl); (case kF => exact rfl); (case kK => first | exact rfl | assumption); (case k1 => k_asm); (case k2 => k_asm); (case k3 => k_asm); (case k4 => k_asm); (case k5 => k_asm); (case k6 => k_is); (case k7 => k_is); (case k8 => ktr_room); (case k9 => exact BindsTo.of_eq rfl); (case kB => exact rfl); (case kD => decide +kernel); (case c2 => exact rfl); (case c3 => exact rfl); (case c4 => exact rfl); k_whole
  intro g1 L1 h1 tk1 cells1 FG1 F1 N1 Y1 B1 X1 T1 l1
  have hn1 : ∀ p ∈ news, p.1 ≠ L1 + 1 := fun p hp => Nat.ne_of_lt (Nat.lt_succ_of_lt (l1 p hp))
  have hn2 : ∀ p ∈ news, p.1 ≠ L1 + 1 + 1 := fun p hp => Nat.ne_of_lt (Nat.lt_succ_of_lt (Nat.lt_succ_of_lt (l1 p hp)))
  try k_lt l1
  k_cells Y1
  try simp only [List.cons_append, List.nil_append] at N1
  try dsimp only
  refine let_A ?_
  intro A9
  try (refine let_env ?_; intro e9)
  try k_fold
  w_strict (walk_at "my steps")
  refine ⟨?_⟩
  rename News _ L1 _ _ => N2
  have N3 := led_rot N2
  refine for_K (news := news) (tl₀ := [_, _, _]) (by exact rfl) (by k_asm) N3 (by k_asm) hK.obj hK.cls hK.data (VJ news (L1 + 1) (L1 + 1 + 1) k d t2) ?h0 ⟨?step⟩ ⟨?done⟩
  case h0 =>
    refine ⟨_, _, _, _, _, _, [], 0, rfl, by assumption, by assumption, ?_, ?_, ?_, rfl, rfl, List.mem_cons_self, .nil⟩
    · exact all_cons (by k_ne) (fun _ h => nomatch h)
    · exact all_cons (by k_ne) (fun _ h => nomatch h)
    · exact apart_cons (by walk_at "my all") apart_nil
  case done =>
    intro h tk m' tl Fd Nd hJ
    obtain ⟨o1, o2, v1, v2, R, Fo, wf, nf, rfl, e1, e2, a1, a2, a3, hmf, hmd, hF, hV⟩ := hJ
    obtain ⟨mf, rfl⟩ := m_form2 hmf hmd
    w_strict (walk_at "my steps")
    rw [hK.len, foundAt_end hkI] at hV
    exact hret _ R _ _ (by k_asm) (news_sub (by k_asm) (by walk_at "my sub")) a3 ⟨Fo, wf, nf, rfl, hF, hV⟩
  case step =>
    intro i v I oI m₁ tl h tk hv hJ off hI F2 N4
    obtain ⟨o1, o2, v1, v2, R, Fo, wf, nf, rfl, e1, e2, a1, a2, a3, hmf, hmd, hF, hV⟩ := hJ
    obtain ⟨mf, rfl⟩ := m_form2 hmf hmd
    obtain ⟨c, hc⟩ : ∃ c, k.cons[i]? = some c := by
      have : i < k.cons.length := by rw [← hK.len]; exact (List.getElem?_eq_some_iff.mp hv).1
      exact ⟨_, List.getElem?_eq_getElem this⟩
    obtain ⟨v', hv', ⟨t, to, nt, tn, tf, tx, rfl, p1, p2, p3, p4⟩⟩ := hK.pair i c hc
    obtain rfl : v = .ref t := by rw [hv] at hv'; exact Option.some.inj hv'
    simp only [List.cons_append] at N4
    have b1 : ∀ p ∈ R ++ news, p.1 ≠ L1 + 1 := fun p hp => (List.mem_append.mp hp).elim (a1 p) (hn1 p)
    have b2 : ∀ p ∈ R ++ news, p.1 ≠ L1 + 1 + 1 := fun p hp => (List.mem_append.mp hp).elim (a2 p) (hn2 p)
    have i1 : @Ne Nat I (L1 + 1) := Ne.symm (off (L1 + 1, o1) (by simp))
    have i2 : @Ne Nat I (L1 + 1 + 1) := Ne.symm (off (L1 + 1 + 1, o2) (by simp))
    have i3 : ∀ p ∈ R, p.1 ≠ I := fun p hp => off p (by simp [hp])
    have c12 : @Ne Nat (L1 + 1 + 1) (L1 + 1) := Nat.succ_ne_self _
    have hlt : ∀ p ∈ (I, oI) :: (L1 + 1 + 1, o2) :: (L1 + 1, o1) :: (R ++ news), True := fun _ _ => trivial
    clear hv hv' hlt
    w_strict (walk_at "my steps")
    refine ⟨?_⟩
    rename News _ L1 _ _ => N5
    rename Obj => o1n
    have N6 := led_in N5
    refine for_S (news := news) (by exact rfl) (by k_asm) N6 (by rw [p4]; exact kd_ascii _) (VI news (L1 + 1) (L1 + 1 + 1) I oI o1n Fo c.2 d t2 (foundAt k d i)) ?h0i ⟨?stepi⟩ ⟨?donei⟩
    case h0i =>
      refine ⟨_, _, _, _, _, _, _, _, rfl, e2, ?_, ?_, ?_, ?_, rfl, rfl, rfl, List.mem_cons_of_mem _ (List.mem_cons_of_mem _ hF), hV.mono (fun q hq => List.mem_cons_of_mem _ (List.mem_cons_of_mem _ hq)), List.mem_cons_self, ?_⟩
      · refine all_cons ?_ (all_cons ?_ a1) <;> k_ne
      · refine all_cons ?_ (all_cons ?_ a2) <;> k_ne
      · refine all_cons ?_ (all_cons ?_ i3) <;> k_ne
      · exact apart_cons (fun q hq => (show ∀ q ∈ R ++ news, @Ne Nat q.1 _ by walk_at "my all") q (List.mem_append.mpr (.inr hq))) (apart_cons (fun q hq => (show ∀ q ∈ R ++ news, @Ne Nat q.1 _ by walk_at "my all") q (List.mem_append.mpr (.inr hq))) a3)
      · exact .cons (List.mem_cons_of_mem _ List.mem_cons_self) .nil .nil
    case donei =>
      intro h2 tk2 m2 tl2 F5 N7 hJ
      obtain ⟨o2', v2', R2, Lo, ws, n, wf', nf', rfl, e2', d1, d2, d3, d4, hmf', hmd', hml', hF', hV', hLo, hLots⟩ := hJ
      obtain ⟨mf2, rfl⟩ := m_form3 hmf' hmd' hml'
      simp only [List.cons_append] at N7
      w_strict (walk_at "my steps")
      refine ⟨?_⟩
      have hll := lots_len2 hkI hd3 hc
      have htk : c.2.take tx.cps.size = c.2 := by rw [p4]; simp
      rw [htk] at hLots
      have hwl : ws.length = (lotsOf (gK d) c.2 [[]]).length := hLots.length
      refine comp_mapA (by exact rfl) (by k_asm) (by k_asm) (show (Lo, lstO ws n) ∈ _ by k_mem) (by rw [hwl]; omega) (fun i ys tl => ValsIn (tl ++ R2) ys (((lotsOf (gK d) c.2 [[]]).take i).map (Val.con c.1))) .nil ⟨?st⟩ ⟨?dn⟩
      case st =>
        intro i' v I5 o5 C oC D m5 ys tl h5 tk5 E5 e1 hoC q1 hJ F7 N10
        obtain ⟨ll, vv, nn, xs, rfl, hll, hvv, hx⟩ := hLots.at e1
        w_strict (walk_at "my steps")
        refine Made.mk [(_, _)] (by k_asm) (news_swap (A := [_]) (by k_asm)) (apart_cons (by walk_at "my all") apart_nil) ?_
        rw [List.take_add_one, hx, Option.toList_some, List.map_append]
        exact ValsIn.snoc (.con List.mem_cons_self (show (ll, lstO vv nn) ∈ _ by k_mem) (hvv.mono (fun q hq => by k_mem))) (hJ.mono (fun q hq => by rcases List.mem_append.mp hq with hq | hq <;> k_mem))
      case dn =>
        intro D ys tl5 h5 tk5 F7 N10 apc hJc
        rw [hwl, List.take_length] at hJc
        have hz : wf'.length + ys.length ≤ 100000 := by
          rw [hV'.length, hJc.length, List.length_map]; omega
        simp only [List.cons_append] at N10
        w_strict (walk_at "my steps")
        obtain ⟨D2, hD2⟩ : ∃ D2, D2 = D' := ⟨_, rfl⟩
        subst hD2
        have gD : ∀ q ∈ (D, lstO ys ys.length) :: (tl5 ++ (I, oI) :: (L1 + 1 + 1, o2') :: (L1 + 1, o1n) :: (R2 ++ news)), @Ne Nat q.1 D2 := by walk_at "my all"
        have n1 : ∀ p ∈ (D, lstO ys ys.length) :: tl5, p.1 ≠ L1 + 1 := fun p hp => Ne.symm (apc (L1 + 1, o1n) (by simp) p hp)
        have n2 : ∀ p ∈ (D, lstO ys ys.length) :: tl5, p.1 ≠ L1 + 1 + 1 := fun p hp => Ne.symm (apc (L1 + 1 + 1, o2') (by simp) p hp)
        have n3 : ∀ p ∈ (D, lstO ys ys.length) :: tl5, p.1 ≠ I := fun p hp => Ne.symm (apc (I, oI) (by simp) p hp)
        have n5 : ∀ q ∈ news, ∀ p ∈ (D, lstO ys ys.length) :: tl5, q.1 ≠ p.1 := fun q hq => apc q (by simp [hq])
        have m1 : @Ne Nat D2 (L1 + 1) := Ne.symm (gD (L1 + 1, o1n) (by simp))
        have m2 : @Ne Nat D2 (L1 + 1 + 1) := Ne.symm (gD (L1 + 1 + 1, o2') (by simp))
        have m3 : @Ne Nat D2 I := Ne.symm (gD (I, oI) (by simp))
        have m5 : ∀ q ∈ news, @Ne Nat q.1 D2 := fun q hq => gD q (by simp [hq])
        refine TurnEnd.mk ((L1 + 1 + 1, o2') :: (L1 + 1, o1n) :: ((D2, lstO (wf' ++ ys) 0) :: (((D, lstO ys ys.length) :: tl5) ++ R2))) (by k_asm) (news_sub (by k_asm) (by intro q hq; simp only [List.mem_cons, List.mem_append, List.cons_append] at hq ⊢; grind)) (all_cons (Ne.symm i2) (all_cons (Ne.symm i1) (all_cons m3 (off_app n3 d3)))) ⟨o1n, o2', _, _, (D2, lstO (wf' ++ ys) 0) :: (((D, lstO ys ys.length) :: tl5) ++ R2), D2, wf' ++ ys, 0, rfl, by assumption, e2', all_cons m1 (off_app n1 d1), all_cons m2 (off_app n2 d2), (fun q hq => all_cons (m5 q hq) (off_app (n5 q hq) (d4 q hq))), rfl, rfl, List.mem_cons_self, ?_⟩
        rw [foundAt_step hc]
        exact (hV'.mono (fun q hq => by k_mem)).app (hJc.mono (fun q hq => by rcases List.mem_append.mp hq with hq | hq <;> k_mem))
    case stepi =>
      intro j ch u I2 oI2 m2 tl2 h2 tk2 hch hJ off2 hI2 F5 N7
      obtain ⟨o2', v2', R2, Lo, ws, n, wf', nf', rfl, e2', d1, d2, d3, d4, hmf', hmd', hml', hF', hV', hLo, hLots⟩ := hJ
      obtain ⟨mf2, rfl⟩ := m_form3 hmf' hmd' hml'
      rw [p4] at hch
      obtain ⟨f, hf, rfl⟩ := kd_char hch
      simp only [List.cons_append] at N7
      clear N5 N6
      w_strict (walk_at "my steps")
      have y1 : @Ne Nat I2 (L1 + 1) := Ne.symm (off2 (L1 + 1, o1n) (by simp))
      have y2 : @Ne Nat I2 (L1 + 1 + 1) := Ne.symm (off2 (L1 + 1 + 1, o2') (by simp))
      have y3 : @Ne Nat I2 I := Ne.symm (off2 (I, oI) (by simp))
      have y4 : ∀ p ∈ R2, p.1 ≠ I2 := fun p hp => off2 p (by simp [hp])
      refine ⟨?_⟩
      refine made_cut (news := (I2, oI2) :: (I, oI) :: (L1 + 1 + 1, o2') :: (L1 + 1, o1n) :: (R2 ++ news)) (by k_asm) (by k_asm) (fun tl v => ∃ lp wp np, v = .ref lp ∧ (lp, lstO wp np) ∈ tl ∧ ValsIn tl wp (gK d f)) ?mk ?go
      case mk =>
        refine IfExp_ ?_
        by_cases hd0 : d = 0
        · subst hd0
          w_strict (walk_at "my steps")
          exact Made.mk [(_, _)] (by k_asm) (news_swap (A := [_]) (by k_asm)) (apart_cons (by walk_at "my all") apart_nil) ⟨_, [], 0, rfl, List.mem_cons_self, .nil⟩
        · have hpos := vz3 hd0
          have hdd := vz4 hd0
          w_strict (walk_at "my steps")
          refine ⟨?_⟩
          refine tell_use (c := valT) (d := (f, d - 1)) [] (by k_asm) (by k_asm) (by k_asm) (by k_asm) (by k_asm) rfl (fun q hq => nomatch hq) ⟨Nat.le_trans (Nat.sub_le d 1) hd3, _, _, by rw [hdd]; rfl⟩ (IH f hd0) ?hdv ?huv ?retv
          case hdv => exact vz1 hd hd0
          case huv => exact vz2 hu hd0
          case retv =>
          intro r9 tl9 h9 tk9 F9 N9 ha9 ho9
          w_strict (walk_at "my steps")
          exact Made.mk tl9 (by k_asm) (by k_asm) ha9 (by unfold gK; rw [if_neg hd0]; exact ho9)
      case go =>
        rintro v tl3 h3 tk3 F6 N8 ap3 ⟨lp, wp, np, rfl, hlp, hwp⟩
        have N9 : News g1 L1 h3 ((I2, oI2) :: (I, oI) :: (L1 + 1 + 1, o2') :: (L1 + 1, o1n) :: ((R2 ++ tl3) ++ news)) := news_sub N8 (by intro q hq; simp only [List.mem_cons, List.mem_append, List.cons_append] at hq ⊢; grind)
        clear N8 N7
        have z2 : ∀ p ∈ (L1 + 1, o1n) :: ((R2 ++ tl3) ++ news), p.1 ≠ L1 + 1 + 1 := all_cons (Ne.symm c12) (off_app (off_app d2 fun p hp => Ne.symm (ap3 (L1 + 1 + 1, o2') (by simp) p hp)) hn2)
        w_strict (walk_at "my steps")
        refine ⟨?_⟩
        rename Obj => o2n
        have hXl : ws.length = (lotsOf (gK d) (c.2.take j) [[]]).length := hLots.length
        have hPl : wp.length = (gK d f).length := hwp.length
        refine comp_twoA (by exact rfl) rfl rfl rfl (by decide) (fun _ _ => rfl) (by k_asm) (by k_asm) (show (Lo, lstO ws n) ∈ _ by k_mem) (show (lp, lstO wp np) ∈ _ by k_mem) (fun i j' ys tl => LotsIn (tl ++ (R2 ++ tl3)) ys (lotsAt (lotsOf (gK d) (c.2.take j) [[]]) (gK d f) i j')) ?h0c ?hJn ?hszc ⟨?it2⟩ ⟨?stc⟩ (fun C D I5 mC ys tl5 h5 tk5 ac bc apc hJc => Blk.asg rfl rfl rfl ac bc fun h6 tk6 F7 N10 => ?fin)
        case h0c => rw [lotsAt_zero]; exact .nil
        case hJn =>
          intro i' ys tl hJ hi
          rw [hPl, lotsAt_next (by rw [← hXl]; exact hi)] at hJ
          exact hJ
        case hszc =>
          intro i' j' ys tl hJ hi hj
          rw [hXl] at hi
          rw [hPl] at hj
          rw [hJ.length]
          refine Nat.le_trans (lotsAt_len hi hj) ?_
          have q1 := lots_len1 (gK_len hd3) (c.2.take j) (by have := cons_two hc; have := (List.getElem?_eq_some_iff.mp hf).1; rw [List.length_take]; omega)
          have q2 := gK_len hd3 f
          exact Nat.le_trans (Nat.mul_le_mul q1 q2) (by decide)
        case it2 =>
          intro C oC mC D ys I5 o5 tl h5 tk5 Rr E5 hoC F7 N10 cont
          w_strict (walk_at "my steps")
          exact cont _
        case stc =>
          intro i' j' v v' C oC I5 o5 I6 o6 D mC ys tl h5 tk5 E5 e1 e3 hoC q1 q2 hJ F7 N10
          obtain ⟨ll, vv, nn, xs, rfl, hll, hvv, hx⟩ := hLots.at e1
          obtain ⟨x, hvx, hx2⟩ := hwp.at' e3
          have hz : vv.length + [v'].length ≤ 100000 := by
            have z1 := lots_each (g := gK d) (c.2.take j) 0 [[]] (by simp) xs (List.mem_of_getElem? hx)
            have z3 := cons_two hc
            have z4 := (List.length_take_le (j) c.2 : _)
            rw [hvv.length, z1, List.length_singleton]
            rw [List.length_take] at *
            omega
          w_strict (walk_at "my steps")
          refine Made.mk [(_, _), (_, _)] (by k_asm) (news_swap (A := [_, _]) (by k_asm)) (apart_cons (by walk_at "my all") (apart_cons (by walk_at "my all") apart_nil)) ?_
          rw [lotsAt_step hx hx2]
          exact LotsIn.snoc List.mem_cons_self (ValsIn.snoc (hvx.mono (fun q hq => by k_mem)) (hvv.mono (fun q hq => by k_mem))) (hJ.mono (fun q hq => by
            rcases List.mem_append.mp hq with hq | hq <;> k_mem))
        case fin =>
          rw [hXl, lotsAt_end, ← lotsOf_step hf] at hJc
          w_strict (walk_at "my steps")
          have n1 : ∀ p ∈ (D, lstO ys ys.length) :: tl5, p.1 ≠ L1 + 1 := fun p hp => Ne.symm (apc (L1 + 1, o1n) (by simp) p hp)
          have n2 : ∀ p ∈ (D, lstO ys ys.length) :: tl5, p.1 ≠ L1 + 1 + 1 := fun p hp => Ne.symm (apc (L1 + 1 + 1, o2n) (by simp) p hp)
          have n3 : ∀ p ∈ (D, lstO ys ys.length) :: tl5, p.1 ≠ I := fun p hp => Ne.symm (apc (I, oI) (by simp) p hp)
          have n4 : ∀ p ∈ (D, lstO ys ys.length) :: tl5, p.1 ≠ I2 := fun p hp => Ne.symm (apc (I2, oI2) (by simp) p hp)
          have n5 : ∀ q ∈ news, ∀ p ∈ (D, lstO ys ys.length) :: tl5, q.1 ≠ p.1 := fun q hq => apc q (by simp [hq])
          have t1' : ∀ p ∈ tl3, p.1 ≠ L1 + 1 := fun p hp => Ne.symm (ap3 (L1 + 1, o1n) (by simp) p hp)
          have t2' : ∀ p ∈ tl3, p.1 ≠ L1 + 1 + 1 := fun p hp => Ne.symm (ap3 (L1 + 1 + 1, o2') (by simp) p hp)
          have t3' : ∀ p ∈ tl3, p.1 ≠ I := fun p hp => Ne.symm (ap3 (I, oI) (by simp) p hp)
          have t4' : ∀ p ∈ tl3, p.1 ≠ I2 := fun p hp => Ne.symm (ap3 (I2, oI2) (by simp) p hp)
          have t5' : ∀ q ∈ news, ∀ p ∈ tl3, q.1 ≠ p.1 := fun q hq => ap3 q (by simp [hq])
          refine TurnEnd.mk ((I, oI) :: (L1 + 1 + 1, o2n) :: (L1 + 1, o1n) :: (((D, lstO ys ys.length) :: tl5) ++ (R2 ++ tl3))) (by k_asm) (news_sub (by k_asm) (by intro q hq; simp only [List.mem_cons, List.mem_append, List.cons_append] at hq ⊢; grind)) (all_cons (Ne.symm y3) (all_cons (Ne.symm y2) (all_cons (Ne.symm y1) (off_app n4 (off_app y4 t4'))))) ⟨o2n, _, ((D, lstO ys ys.length) :: tl5) ++ (R2 ++ tl3), D, ys, ys.length, wf', nf', rfl, by assumption, off_app n1 (off_app d1 t1'), off_app n2 (off_app d2 t2'), off_app n3 (off_app d3 t3'), (fun q hq => off_app (n5 q hq) (off_app (d4 q hq) (t5' q hq))), rfl, rfl, rfl, by k_mem, hV'.mono (fun q hq => by k_mem), by k_mem, hJc.mono (fun q hq => by
            rcases List.mem_append.mp hq with hq | hq <;> k_mem)⟩
theorem news_h2 {h₀ h : Heap} {L : Addr} {a b c : Addr × Obj} {r : Led} (N : News h₀ L h (a :: b :: c :: r)) : News h₀ L h (r ++ [a]) := fun q hq => N q (by simp only [List.mem_cons, List.mem_append, List.not_mem_nil, or_false] at hq ⊢; grind)
theorem val_I (w : World) (loose mean mg mb) (d : Nat) : Tell PySem.Challenge.rw_og0007_01.row.prog w (hd.heap_39 w.params) hd.view_39 loose mean mg mb 467 valT (.I, d) := by
  w_on
  unfold Tell
  k_fill
  intro dp un gd cn cs a ccd cl outer A₀ base h₀ L m news kept s vs Q E B F X N T hk hsub hR hd hu hret
  obtain ⟨hd3, t1, t2, rfl⟩ := hR
  simp only at hret hd hu hd3 ⊢
  have hne : (kdName .I == Str.ofString "I") = true := by decide +kernel
  refine wpAny_call ?_
  k_dflt (walk_at "my enterC")
  refine let_A ?_
  intro A9
  try (refine let_env ?_; intro e9)
  w_strict (walk_at "my steps")
  refine hret _ [(_, _)] _ _ (by k_asm) (news_h2 (by k_asm)) (apart_cons (fun q hq => Nat.ne_of_lt (ktn_ltOf (And.right (And.right (by assumption))) q hq)) apart_nil) ⟨_, [_, _, _], 0, rfl, List.mem_cons_self, ?_⟩
  cases d <;> exact .cons .int (.cons .int (.cons .int .nil))
theorem val_tells (w : World) (loose mean mg mb) : ∀ d, Tell PySem.Challenge.rw_og0007_01.row.prog w (hd.heap_39 w.params) hd.view_39 loose mean mg mb 467 valT d := by
  have all : ∀ d k, Tell PySem.Challenge.rw_og0007_01.row.prog w (hd.heap_39 w.params) hd.view_39 loose mean mg mb 467 valT (k, d) := by
    intro d
    induction d with
    | zero => exact fun k => if h : k = .I then h ▸ val_I w loose mean mg mb 0 else val_K w loose mean mg mb k 0 h fun _ q => absurd rfl q
    | succ d ih => exact fun k => if h : k = .I then h ▸ val_I w loose mean mg mb (d + 1) else val_K w loose mean mg mb k (d + 1) h fun f _ => ih f
  exact fun d => all d.2 d.1
end ValText
section OneText
set_option hygiene false
theorem item_kind {prog : Program} {w : World} {A : Around} {E : Value → Shared → Prop} {s : Shared} {r : Int} {t u : Tok} {value slice : PySem.Expr} {Q : Value → Shared → Prop} (h0 : 0 ≤ r) (h1 : r < 5) (h : ∀ (k : Kd) t tk, Q (.str (kdName k) t) { s with toks := tk })
    (hs : subscripted slice false (.str (Str.ofString "TNPLI") t) (.int r u) = operate [.str (Str.ofString "TNPLI") t, .int r u] (getItem (.str (Str.ofString "TNPLI") t) (.int r u)) := by with_unfolding_all rfl)
    (ht : ∀ r, letTemporaryGo value (.str (Str.ofString "TNPLI") t) r = pure () := by intro _; with_unfolding_all rfl) :
    wpAny (model prog w) A (subscriptTail value slice (.str (Str.ofString "TNPLI") t) (.int r u)) Q E s := by
  have e : ∃ k, Txt.item (Str.ofString "TNPLI") r = kdName k := by
    have : r = 0 ∨ r = 1 ∨ r = 2 ∨ r = 3 ∨ r = 4 := by omega
    rcases this with rfl | rfl | rfl | rfl | rfl
    · exact ⟨.T, by decide +kernel⟩
    · exact ⟨.N, by decide +kernel⟩
    · exact ⟨.P, by decide +kernel⟩
    · exact ⟨.L, by decide +kernel⟩
    · exact ⟨.I, by decide +kernel⟩
  obtain ⟨k, e⟩ := e
  have hl : (Str.ofString "TNPLI").length = 5 := by decide +kernel
  refine item_str (fitsSsize_of (N := 9223372036854775808) (by omega) (by omega) (Int.le_refl _)) (by rw [hl]; omega) (by rw [hl]; omega) (fun _ => ?_) hs ht
  rw [e]; exact h k _ _
theorem lenK_at {prog : Program} {w : World} {A : Around} {E : Value → Shared → Prop} {s : Shared} {h₀ : Heap} {L l : Addr} {m : Str → Option Value} {K : Frag} {lo : Obj} {vs : List Value} {n : Nat} {Q : Value → Shared → Prop} (F : Fr h₀ L s.heap m) (X : K.In h₀) (hk : K.lookup l = some lo) (hc : lo.cls = .type "list") (hd : lo.data = .seq vs.toArray n) (hfit : vs.length ≤ 1000)
    (h : ∀ t tk, Q (.int (vs.length : Nat) t) { s with toks := tk }) : wpAny (model prog w) A (call (.builtin "len") [.ref l]) Q E s := by
  refine Calls.call_len_list ⟨lo, F.keep _ _ (X _ _ hk), hc, n, hd⟩ ?_ (by simpa using h _ _)
  rw [List.size_toArray]; omega
theorem itemK_at {prog : Program} {w : World} {A : Around} {E : Value → Shared → Prop} {s : Shared} {h₀ : Heap} {L l : Addr} {m : Str → Option Value} {K : Frag} {lo : Obj} {vs : List Value} {n : Nat} {r : Int} {u : Tok} {value slice : PySem.Expr} {Q : Value → Shared → Prop} (F : Fr h₀ L s.heap m) (X : K.In h₀) (hk : K.lookup l = some lo) (hc : lo.cls = .type "list") (hd : lo.data = .seq vs.toArray n) (hfit : vs.length ≤ 1000) (h0 : 0 ≤ r) (h1 : r < (vs.length : Nat))
    (h : ∀ (i : Nat) (v : Value), vs[i]? = some v → Q v s) (hs : subscripted slice false (.ref l) (.int r u) = operate [.ref l, .int r u] (getItem (.ref l) (.int r u)) := by with_unfolding_all rfl) (hg : ∀ x, letTemporaryGo value (.ref l) x = pure () := by intro _; with_unfolding_all rfl) :
    wpAny (model prog w) A (subscriptTail value slice (.ref l) (.int r u)) Q E s := by
  have hlt : r.toNat < vs.length := by omega
  exact item_list ⟨lo, F.keep _ _ (X _ _ hk), hc, n, hd⟩ h0 (by omega) (x := vs[r.toNat]) (by simp [hlt]) (h r.toNat _ (List.getElem?_eq_getElem hlt)) hs hg
local macro_rules | `(tactic| walk_at "my pr") => `(tactic| with_reducible first | assumption | exact And.left (by assumption) | exact And.left (And.right (by assumption)) | exact And.left (And.right (And.right (by assumption))) | exact And.left (And.right (And.right (And.right (by assumption)))) | exact And.left (And.right (And.right (And.right (And.right (by assumption))))) | exact And.left (And.right (And.right (And.right (And.right (And.right (by assumption)))))))
local macro_rules | `(tactic| k_ne) => `(tactic| first | exact neN (Nat.ne_of_lt (by walk_at "my pr")) | exact neN (Nat.ne_of_gt (by walk_at "my pr")) | (refine neN ?_; (try dsimp only); omega))
local macro_rules | `(tactic| walk_at "my steps") => `(tactic| (repeat' (first | (k_unfold; (try dsimp only)) | (walk1 <;> (try dsimp only)))))
local macro_rules | `(tactic| walk_at "execs cons") => `(tactic| first | ((with_reducible show wpAny _ _ _ _ _ (PySem.Shared.mk _ _ _ (_ + 1 + 1) _)); refine gen_toks ?_; intro tk) | ((try ((with_reducible rename Fr _ _ _ _ => F8); refine fr_let F8 ?_; clear F8; intro m8 F8)); (with_reducible refine wpAny_execs_cons ?_); (try dsimp only); refine let_Q ?_; intro qk))
local macro_rules | `(tactic| walk_at "my enter") => `(tactic| (refine' code_def ?k1 ?k2 ?k3 ?k4 ?k5 ?kA ?kF ?kK ?k6 ?k7 ?k8 ?k9 ?kB ?_ ?c2 ?c3 ?c4 ?c5; (case kA | kF => exact rfl); (case kK => first | exact rfl | assumption); (case k1 | k2 | k3 | k4 | k5 => k_asm); (case k6 | k7 => k_is); (case k8 => ktr_room); (case k9 => first | exact BindsTo.of_eq rfl | exact binds_K (by k_in) rfl (by k_is) rfl rfl rfl); (case c5 => decide); (case kB => exact locs rfl); (case c2 | c3 | c4 => exact rfl); k_whole; intro g' L' h' FG' F' N' B' X' T'; (try dsimp only); (try k_fold)))
local macro_rules | `(tactic| walk_at "call ref cons nil") => `(tactic| refine Hold.it ?_)
local macro_rules | `(tactic| walk_at "subscriptTail Name Call str int") => `(tactic| (k_dflt (refine item_kind (by with_reducible assumption) (by with_reducible assumption) ?_); intro k' t' tk'))
local macro_rules | `(tactic| walk_at "subscriptTail Name Call ref int") => `(tactic| (k_dflt (refine itemK_at (by k_asm) (by k_asm) (KindAt.obj (by assumption)) (KindAt.cls (by assumption)) (KindAt.data (by assumption)) (by omega) (by with_reducible assumption) (by with_reducible assumption) ?_); intro i' v' e'))
local macro_rules | `(tactic| walk_at "call builtin:len cons nil") => `(tactic| (k_dflt (refine lenK_at (by k_asm) (by k_asm) (KindAt.obj (by assumption)) (KindAt.cls (by assumption)) (KindAt.data (by assumption)) (by omega) ?_); intro t' tk'))
set_option maxHeartbeats 1000000
theorem one_str (w : World) (loose mean mg mb) (dp un : Nat) (gd : Option (List Code)) (cn : Str) (cs : Scope) (a : Addr) (ccd : Value) (cl : List (Str × Addr)) (outer : List Env) (A₀ : Around) (base h₀ : Heap) (L : Addr) (m : Str → Option Value) (news : Led) (s : Shared) (Q E : Value → Shared → Prop)
    (B : Below A₀ base outer h₀) (F : Fr h₀ L s.heap m) (X : (hd.heap_39 w.params).In h₀) {S : Addr} {x y : Int} {tx ty : Tok} {n : Nat} (N : News h₀ L s.heap ((S, lstO [.int x tx, .int y ty] n) :: news)) (off : ∀ p ∈ news, p.1 ≠ S) (T : Top hd.view_39 loose mean mg mb h₀) (hk : cs.kind = .function)
    (hin : dp + 12 < recursionLimit) (hu : un + 80 < cLine) (ts : Tok)
    (hret : ∀ (k : Kd) tr x y tx ty n h' tk', Fr h₀ L h' m → News h₀ L h' ((S, lstO [.int x tx, .int y ty] n) :: news) → Q (.str (kdName k) tr) { s with heap := h', toks := tk' }) :
    wpAny (model PySem.Challenge.rw_og0007_01.row.prog w) (ktrTop dp un gd cn cs L a ccd cl outer) (call (.ref 450) [.ref S, .str (Str.ofString "TNPLI") ts]) Q E s := by
  w_on
  revert X
  k_fill
  intro X
  refine wpAny_call ?_
  k_dflt (walk_at "my enter")
  refine let_A ?_
  intro A9
  try (refine let_env ?_; intro e9)
  w_strict (walk_at "my steps")
  refine ⟨?_⟩
  refine take_use w loose mean mg mb _ _ _ _ _ _ _ _ _ _ _ _ _ _ _ _ _ _ (by k_asm) (by k_asm) (by k_asm) (by k_asm) off (by k_asm) rfl ?hin ?huu _ (by decide +kernel) (by decide +kernel) _ ?ret
  case hin => show dp + 1 + 10 < _; omega
  case huu => show un + 3 + 64 < _; omega
  case ret =>
  intro r tr x y tx ty n h9 tk9 hr0 hr1 F9 N9
  have hr2 : r < 5 := by
    have e5 : ((Str.ofString "TNPLI").length : Int) = 5 := by decide +kernel
    exact e5 ▸ hr1
  w_strict (walk_at "my steps")
  exact hret _ _ _ _ _ _ _ _ _ (by k_asm) (by k_asm)
theorem one_list (w : World) (loose mean mg mb) (dp un : Nat) (gd : Option (List Code)) (cn : Str) (cs : Scope) (a : Addr) (ccd : Value) (cl : List (Str × Addr)) (outer : List Env) (A₀ : Around) (base h₀ : Heap) (L : Addr) (m : Str → Option Value) (news : Led) (s : Shared) (Q E : Value → Shared → Prop)
    (B : Below A₀ base outer h₀) (F : Fr h₀ L s.heap m) (X : (hd.heap_39 w.params).In h₀) {S : Addr} {x y : Int} {tx ty : Tok} {n : Nat} (N : News h₀ L s.heap ((S, lstO [.int x tx, .int y ty] n) :: news)) (off : ∀ p ∈ news, p.1 ≠ S) (T : Top hd.view_39 loose mean mg mb h₀) (hk : cs.kind = .function)
    (hin : dp + 12 < recursionLimit) (hu : un + 80 < cLine) {k : Kd} {l : Addr} {lo : Obj} {vs : List Value} {nl : Nat} (hK : KindAt (hd.heap_39 w.params) k l lo vs nl)
    (hkI : k ≠ .I) (hret : ∀ (i : Nat) (c : Str × List Kd) v x y tx ty n h' tk', k.cons[i]? = some c → PairAt (hd.heap_39 w.params) v c → Fr h₀ L h' m → News h₀ L h' ((S, lstO [.int x tx, .int y ty] n) :: news) → Q v { s with heap := h', toks := tk' }) :
    wpAny (model PySem.Challenge.rw_og0007_01.row.prog w) (ktrTop dp un gd cn cs L a ccd cl outer) (call (.ref 450) [.ref S, .ref l]) Q E s := by
  have hlen : vs.length ≤ 2 ∧ 0 < vs.length := by rw [hK.len]; cases k <;> first | exact absurd rfl hkI | (constructor <;> decide)
  w_on
  revert X
  k_fill
  intro X
  refine wpAny_call ?_
  k_dflt (walk_at "my enter")
  refine let_A ?_
  intro A9
  try (refine let_env ?_; intro e9)
  w_strict (walk_at "my steps")
  refine ⟨?_⟩
  refine take_use w loose mean mg mb _ _ _ _ _ _ _ _ _ _ _ _ _ _ _ _ _ _ (by k_asm) (by k_asm) (by k_asm) (by k_asm) off (by k_asm) rfl ?hin ?huu _ (by omega) (by omega) _ ?ret
  case hin => show dp + 1 + 10 < _; omega
  case huu => show un + 3 + 64 < _; omega
  case ret =>
  intro r tr x y tx ty n h9 tk9 hr0 hr1 F9 N9
  w_strict (walk_at "my steps")
  rename _[_]? = _ => e9
  obtain ⟨c, hc⟩ : ∃ c, k.cons[_]? = some c := ⟨_, List.getElem?_eq_getElem (by rw [← hK.len]; exact (List.getElem?_eq_some_iff.mp e9).1)⟩
  obtain ⟨v', hv', hp⟩ := hK.pair _ c hc
  rw [e9] at hv'
  cases hv'
  exact hret _ c _ _ _ _ _ _ _ _ hc hp (by k_asm) (by k_asm)
end OneText
section CompSText
open PyProof.Rows.LCg
section
variable {prog : Program} {w : World} {A : Around} {E : Value → Shared → Prop} {s : Shared} {env : Env} {h₀ : Heap} {L : Addr} {m : Str → Option Value} {news : Led}
theorem turn_one (elt t1 i1 : Expr) (scope : Scope) (pos : Pos) (it acc : Value) (env : Env) :
    compTurn (.ListComp elt [⟨t1, i1, [], 0⟩] scope pos) 0 it acc env = (standAt i1.pos >>= fun _ => pyNext it >>= fun r => match r with
      | none => pure (.done .next)
      | some v => letOwnedTupleGo t1 it v >>= fun _ => assign t1 env v >>= fun _ =>
        (eval elt env >>= fun x => call (.builtin "list.append") [acc, x] >>= fun _ => pure ()) >>= fun _ =>
          again (.compLoop (.ListComp elt [⟨t1, i1, [], 0⟩] scope pos) 0 it acc env)) := by rfl
theorem striter_of {h : Heap} {I : Addr} {T : String} {x : Str} {t : Tok} {i : Nat} (hi : h.IsStrIter I T x t i) : ∃ oI, h.get? I = some oI ∧ ∀ h' : Heap, h'.get? I = some oI → h'.IsStrIter I T x t i := by
  obtain ⟨o, e, r⟩ := hi
  exact ⟨o, e, fun h' e' => ⟨o, e', r⟩⟩
def PartEnd {α : Type} (h₀ : Heap) (L : Addr) (m : Str → Option Value) (s : Shared) (C : Addr) (oC : Obj) (D : Addr) (ys : List Value) (I1 : Addr) (o1 : Obj) (J : α → Led → Prop) (y : α) (s₂ : Shared) : Prop :=
  ∃ h' tk' full', s₂ = { s with heap := h', toks := tk' } ∧ Fr h₀ L h' m ∧ News h₀ L h' ((C, oC) :: (D, lstO ys ys.length) :: (I1, o1) :: full') ∧ (∀ p ∈ full', p.1 ≠ C ∧ p.1 ≠ D ∧ p.1 ≠ I1) ∧ J y full'
theorem PartEnd.mk {α : Type} {C : Addr} {oC : Obj} {D : Addr} {ys : List Value} {I1 : Addr} {o1 : Obj} {J : α → Led → Prop} {y : α} {h' : Heap} {tk' : Nat} (full' : Led) (F : Fr h₀ L h' m) (N : News h₀ L h' ((C, oC) :: (D, lstO ys ys.length) :: (I1, o1) :: full')) (off : ∀ p ∈ full', p.1 ≠ C ∧ p.1 ≠ D ∧ p.1 ≠ I1) (hJ : J y full') :
    PartEnd h₀ L m s C oC D ys I1 o1 J y { s with heap := h', toks := tk' } := ⟨h', tk', full', rfl, F, N, off, hJ⟩
inductive SInv (h₀ : Heap) (L : Addr) (m : Str → Option Value) (s : Shared) (D C I1 : Addr) (n : Nat) (le : Nat → Nat → Prop) (St : Nat → Heap → Prop) (J : Nat → List Value → Led → Prop) (k : Nat) (s' : Shared) : Prop
  | mk (h : Heap) (tk i : Nat) (ys : List Value) (full : Led) (mC : Str → Option Value) (e : s' = { s with heap := h, toks := tk }) (hi : i ≤ n) (hk : k = n + 1 - i) (hyl : le ys.length i) (B : Blk h₀ L m C D full h mC ys) (off : ∀ p ∈ full, p.1 ≠ I1) (hit : St i h) (hJ : J i ys full)
/-- `[elt for x in a str]`, J of the whole ledger -/
theorem comp_str {tx : Str} {t : Tok} {x1 : Str} {p1 : Pos} {elt i1 : Expr} {scope : Scope} {cl : List (Str × Addr)} {pos : Pos} {P : Addr → Addr → Shared → Prop}
    (hh : A.handled = none) (hkind : scope.kind = .function) (hx1 : scope.names.lookup x1 = some .local) (ha : tx.cps.all (· < 128) = true) (hsz : tx.cps.size ≤ 1000)
    (F : Fr h₀ L s.heap m) (N : News h₀ L s.heap news)
    (J : Nat → List Value → Led → Prop) (h0 : J 0 [] news)
    (step : Hold (∀ i c u C oC I1 o1 D mC ys full h tk (E' : Value → Shared → Prop), tx.cps[i]? = some c → NsObj oC mC → mC x1 = some (.str ⟨#[c]⟩ u) → J i ys full → Fr h₀ L h m → News h₀ L h ((C, oC) :: (D, lstO ys ys.length) :: (I1, o1) :: full) → (∀ p ∈ full, p.1 ≠ C ∧ p.1 ≠ D ∧ p.1 ≠ I1) →
      wpAny (model prog w) A (eval elt (compEnvC scope cl C env)) (PartEnd h₀ L m s C oC D ys I1 o1 fun y full' => J (i + 1) (ys ++ [y]) full') E' { s with heap := h, toks := tk }))
    (done : ∀ C D I mC ys full h tk, Ads h₀ L C D I → Blk h₀ L m C D full h mC ys → J tx.cps.size ys full → P D C { s with heap := h, toks := tk }) :
    wpAny (model prog w) A (pyIter (.str tx t)) (SetupF prog w A (.ListComp elt [⟨.Name x1 p1, i1, [], 0⟩] scope pos) scope cl env P) E s := by
  have ltN : ∀ p ∈ news, p.1 < s.heap.objs.size := fun p hp => Heap.lt_size (N p hp).1
  have ltL : L < s.heap.objs.size := F.ns.lt
  refine wpAny_pyIter_ascii ha ?_
  generalize hh2 : s.heap.push { cls := .type "str_ascii_iterator", data := .fields #[.str tx t, .int 0 0] } = g
  have hg : g.objs.size = s.heap.objs.size + 1 := by rw [← hh2, Heap.size_push]
  have hit0 : g.IsStrIter s.heap.objs.size "str_ascii_iterator" tx t 0 := ⟨_, hh2 ▸ Heap.get?_push_size _ rfl, rfl, rfl⟩
  have keep : ∀ b o, s.heap.get? b = some o → g.get? b = some o := fun b o e => hh2 ▸ Heap.get?_push_of_some _ e
  have W := Walks.strAscii (prog := prog) (w := w) hh s.heap.objs.size tx t
  refine ⟨fun s' Q' E' k q => W.self 0 _ _ _ (W.frame _ _ _ hit0 fun b _ o e => k b o e) q, fun h₁ tk₁ old accD nsC => ?_⟩
  dsimp only at old accD nsC ⊢
  have a : Ads h₀ L (g.objs.size + 1) g.objs.size s.heap.objs.size := by rw [hg]; exact ads_of F ltL rfl rfl rfl
  have lt1 : ∀ p ∈ news, p.1 ≠ g.objs.size + 1 ∧ p.1 ≠ g.objs.size := fun p hp => by rw [hg]; exact ⟨ne_add (ltN p hp) 2, ne_add (ltN p hp) 1⟩
  have ltI : ∀ p ∈ news, p.1 ≠ s.heap.objs.size := fun p hp => Nat.ne_of_lt (ltN p hp)
  have hit1 := W.frame _ _ _ hit0 fun b _ o e => old b o e
  generalize g.objs.size = D at *
  generalize D + 1 = C at *
  generalize s.heap.objs.size = I1 at *
  cases D using opq with
  | h D =>
  cases C using opq with
  | h C =>
  cases I1 using opq with
  | h I1 =>
  have B₀ : Blk h₀ L m C D news h₁ (fun _ => none) [] := ⟨F.keeps fun b o e => old b o (keep b o e), fun p hp => ⟨old _ _ (keep _ _ (N p hp).1), (N p hp).2⟩, nsC, accD, lt1⟩
  refine codeAny_loop rfl (SInv h₀ L m s D C I1 tx.cps.size Eq (fun i h => h.IsStrIter I1 "str_ascii_iterator" tx t i) J) (fun k s' hI => ?_) (tx.cps.size + 1) ⟨h₁, tk₁, 0, [], news, _, rfl, Nat.zero_le _, rfl, rfl, B₀, ltI, hit1, h0⟩
  obtain ⟨h, tk, i, ys, full, mC, rfl, hi, rfl, hyl, B, off, hit, hJ⟩ := hI
  show wpAny _ A ((compTurn (.ListComp elt [⟨.Name x1 p1, i1, [], 0⟩] scope pos) 0 (.ref I1) (.ref D) (compEnvC scope cl C env)).onRaise (fun x => do noteFrame x _; theTreesLotGoes x)) _ _ _
  refine wpAny_noted ?_
  rw [turn_one]
  refine wpAny_bind (wpAny_standAt (wpAny_bind ?_))
  by_cases hlt : i < tx.cps.size
  · refine W.item i _ _ _ hlt hit fun v h₂ tk₂ hv st₂ hk₂ => ?_
    obtain ⟨c, u, hc, rfl⟩ := hv
    have B₂ := B.keep a off hk₂
    dsimp only
    refine wpAny_bind (wpAny_of_eq (show letOwnedTupleGo (.Name x1 p1) (.ref I1) _ = pure () from rfl) ?_)
    refine wpAny_bind (wpAny_assign_Name (wpAny_storeName_local (lookup_relabel_local hx1) B₂.c (fun h₃ hn₃ hs₃ => ?_) (by simp [compEnvC, relabel, hkind])))
    have B₃ := B₂.name a hs₃ hn₃
    have it₃ : h₃.IsStrIter I1 "str_ascii_iterator" tx t (i + 1) := st₂.extBut hs₃.extBut (Ne.symm a.ci)
    obtain ⟨o1, e1, hi1⟩ := striter_of it₃
    have B₄ : Blk h₀ L m C D ((I1, o1) :: full) h₃ _ ys := B₃.more (q := (I1, o1)) e1 (Ne.symm a.li) a.i (Ne.symm a.ci) (Ne.symm a.di)
    obtain ⟨oC, hoC, N₄⟩ := B₄.led a
    refine wpAny_bind (wpAny_bind (wpAny_mono (step.it i c u C oC I1 o1 D _ ys full h₃ _ _ hc hoC (by simp) hJ B₄.F N₄ (fun p hp => ⟨(B₃.off p hp).1, (B₃.off p hp).2, off p hp⟩)) (fun y s₈ h₈ => ?_) fun _ _ e => e))
    obtain ⟨h₅, tk₅, full', rfl, F₅, N₅, off₅, hJ₅⟩ := h₈
    have oI := B₄.off (I1, o1) List.mem_cons_self
    have B₅ : Blk h₀ L m C D ((I1, o1) :: full') h₅ _ ys := Blk.of (oC := oC) F₅ N₅ hoC (fun p hp => (List.mem_cons.mp hp).elim (fun e => e ▸ oI) fun hp => ⟨(off₅ p hp).1, (off₅ p hp).2.1⟩)
    refine wpAny_bind (append_at (hsz := by rw [List.size_toArray, sizeLine_eq]; omega) B₅.d fun h₆ hs₆ hD₆ => wpAny_pure (wpAny_pure ⟨rfl, ?_⟩))
    have B₆ := B₅.app a hs₆ (y := y) (by rw [hD₆, List.length_append, List.length_singleton]; simp)
    exact ⟨tx.cps.size + 1 - (i + 1), by omega, h₆, tk₅, i + 1, ys ++ [y], full', _, rfl, hlt, rfl, by simp [hyl], B₆.less fun p hp => List.mem_cons_of_mem _ hp, fun p hp => (off₅ p hp).2.2, hi1 h₆ (B₆.N _ List.mem_cons_self).1, hJ₅⟩
  · obtain rfl : i = tx.cps.size := Nat.le_antisymm hi (Nat.not_lt.mp hlt)
    refine W.done _ _ _ hit fun h₂ tk₂ hk₂ => ?_
    have B₂ := B.keep a off hk₂
    exact wpAny_pure ⟨rfl, done _ _ _ _ _ _ _ _ a B₂ hJ⟩

theorem turn_if (elt t1 i1 c : Expr) (scope : Scope) (pos : Pos) (it acc : Value) (env : Env) :
    compTurn (.ListComp elt [⟨t1, i1, [c], 0⟩] scope pos) 0 it acc env = (do
      standAt i1.pos
      match ← pyNext it with
      | none => pure (.done .next)
      | some v =>
        letOwnedTupleGo t1 it v
        assign t1 env v
        let mut ok := true
        for c in [c] do
          if ok then ok ← isTrue c env (eval c env)
        if ok then
          (do let _ ← call (.builtin "list.append") [acc, ← eval elt env])
        again (.compLoop (.ListComp elt [⟨t1, i1, [c], 0⟩] scope pos) 0 it acc env)) := compTurn_list ..

/-- `[elt for x in a list if c]`, J of the whole ledger; elt gives the element itself -/
theorem comp_filt {ax : Addr} {vs : List Value} {n : Nat} {x1 : Str} {p1 : Pos} {elt i1 c : Expr} {scope : Scope} {cl : List (Str × Addr)} {pos : Pos} {P : Addr → Addr → Shared → Prop}
    (hh : A.handled = none) (hkind : scope.kind = .function) (hx1 : scope.names.lookup x1 = some .local) (hsz : vs.length ≤ 1000)
    (F : Fr h₀ L s.heap m) (N : News h₀ L s.heap news)
    (J : Nat → List Value → Led → Prop) (h0 : J 0 [] news) (hS : ∀ i ys full, J i ys full → (ax, lstO vs n) ∈ full)
    (eltv : Hold (∀ C oC mC v full h tk (R E' : Value → Shared → Prop), NsObj oC mC → mC x1 = some v → Fr h₀ L h m → News h₀ L h ((C, oC) :: full) → (∀ tk', R v { s with heap := h, toks := tk' }) → wpAny (model prog w) A (eval elt (compEnvC scope cl C env)) R E' { s with heap := h, toks := tk }))
    (step : Hold (∀ i v C oC I1 o1 D mC ys full h tk (E' : Value → Shared → Prop), vs[i]? = some v → NsObj oC mC → mC x1 = some v → J i ys full → Fr h₀ L h m → News h₀ L h ((C, oC) :: (D, lstO ys ys.length) :: (I1, o1) :: full) → (∀ p ∈ full, p.1 ≠ C ∧ p.1 ≠ D ∧ p.1 ≠ I1) →
      wpAny (model prog w) A (isTrue c (compEnvC scope cl C env) (eval c (compEnvC scope cl C env))) (PartEnd h₀ L m s C oC D ys I1 o1 fun ok full' => J (i + 1) (if ok then ys ++ [v] else ys) full') E' { s with heap := h, toks := tk }))
    (done : ∀ C D I mC ys full h tk, Ads h₀ L C D I → Blk h₀ L m C D full h mC ys → J vs.length ys full → P D C { s with heap := h, toks := tk }) :
    wpAny (model prog w) A (pyIter (.ref ax)) (SetupF prog w A (.ListComp elt [⟨.Name x1 p1, i1, [c], 0⟩] scope pos) scope cl env P) E s := by
  have ha := hS _ _ _ h0
  have hl1 : s.heap.IsList ax vs.toArray := ⟨_, (N _ ha).1, rfl, _, rfl⟩
  have ltN : ∀ p ∈ news, p.1 < s.heap.objs.size := fun p hp => Heap.lt_size (N p hp).1
  have ltL : L < s.heap.objs.size := F.ns.lt
  refine wpAny_pyIter_list hl1 ?_
  generalize hh2 : s.heap.push { cls := .type "list_iterator", data := .fields #[.ref ax, .int 0 0] } = g
  have hg : g.objs.size = s.heap.objs.size + 1 := by rw [← hh2, Heap.size_push]
  have hit0 : g.IsListIter s.heap.objs.size ax 0 := ⟨_, hh2 ▸ Heap.get?_push_size _ rfl, rfl, rfl⟩
  have keep : ∀ b o, s.heap.get? b = some o → g.get? b = some o := fun b o e => hh2 ▸ Heap.get?_push_of_some _ e
  refine ⟨fun s' Q' E' k q => wpAny_pyIter_listiter (hit0.at fun o e => k _ o e) q, fun h₁ tk₁ old accD nsC => ?_⟩
  dsimp only at old accD nsC ⊢
  have a : Ads h₀ L (g.objs.size + 1) g.objs.size s.heap.objs.size := by rw [hg]; exact ads_of F ltL rfl rfl rfl
  have lt1 : ∀ p ∈ news, p.1 ≠ g.objs.size + 1 ∧ p.1 ≠ g.objs.size := fun p hp => by rw [hg]; exact ⟨ne_add (ltN p hp) 2, ne_add (ltN p hp) 1⟩
  have ltI : ∀ p ∈ news, p.1 ≠ s.heap.objs.size := fun p hp => Nat.ne_of_lt (ltN p hp)
  have hit1 := hit0.at fun o e => old _ o e
  generalize g.objs.size = D at *
  generalize D + 1 = C at *
  generalize s.heap.objs.size = I1 at *
  cases D using opq with
  | h D =>
  cases C using opq with
  | h C =>
  cases I1 using opq with
  | h I1 =>
  have B₀ : Blk h₀ L m C D news h₁ (fun _ => none) [] := ⟨F.keeps fun b o e => old b o (keep b o e), fun p hp => ⟨old _ _ (keep _ _ (N p hp).1), (N p hp).2⟩, nsC, accD, lt1⟩
  have W := Walks.list (prog := prog) (w := w) hh I1 ax (ltI _ ha) vs.toArray
  refine codeAny_loop rfl (SInv h₀ L m s D C I1 vs.length LE.le (fun i h => h.IsListIter I1 ax i) J) (fun k s' hI => ?_) (vs.length + 1) ⟨h₁, tk₁, 0, [], news, _, rfl, Nat.zero_le _, rfl, Nat.le_refl _, B₀, ltI, hit1, h0⟩
  obtain ⟨h, tk, i, ys, full, mC, rfl, hi, rfl, hyl, B, off, hit, hJ⟩ := hI
  show wpAny _ A ((compTurn (.ListComp elt [⟨.Name x1 p1, i1, [c], 0⟩] scope pos) 0 (.ref I1) (.ref D) (compEnvC scope cl C env)).onRaise (fun x => do noteFrame x _; theTreesLotGoes x)) _ _ _
  refine wpAny_noted ?_
  rw [turn_if]
  refine wpAny_bind (wpAny_standAt (wpAny_bind ?_))
  have hla : ∀ {h : Heap} {full : Led}, News h₀ L h full → (ax, lstO vs n) ∈ full → h.IsList ax vs.toArray := fun N hm => ⟨_, (N _ hm).1, rfl, _, rfl⟩
  by_cases hlt : i < vs.length
  · refine W.item i _ _ _ (by simpa using hlt) ⟨hit, hla B.N (hS _ _ _ hJ)⟩ fun v h₂ tk₂ hv st₂ hk₂ => ?_
    have B₂ := B.keep a off hk₂
    dsimp only
    refine wpAny_bind (wpAny_of_eq (show letOwnedTupleGo (.Name x1 p1) (.ref I1) v = pure () from rfl) ?_)
    refine wpAny_bind (wpAny_assign_Name (wpAny_storeName_local (lookup_relabel_local hx1) B₂.c (fun h₃ hn₃ hs₃ => ?_) (by simp [compEnvC, relabel, hkind])))
    have B₃ := B₂.name a hs₃ hn₃
    have it₃ : h₃.IsListIter I1 ax (i + 1) := st₂.1.extBut hs₃.extBut (Ne.symm a.ci)
    obtain ⟨o1, e1, hi1⟩ := iter_of it₃
    have B₄ : Blk h₀ L m C D ((I1, o1) :: full) h₃ _ ys := B₃.more (q := (I1, o1)) e1 (Ne.symm a.li) a.i (Ne.symm a.ci) (Ne.symm a.di)
    obtain ⟨oC, hoC, N₄⟩ := B₄.led a
    refine wpAny_bind (wpAny_tests_one (wpAny_mono (step.it i v C oC I1 o1 D _ ys full h₃ _ _ (by simpa using hv) hoC (by simp) hJ B₄.F N₄ (fun p hp => ⟨(B₃.off p hp).1, (B₃.off p hp).2, off p hp⟩)) (fun ok s₈ h₈ => ?_) fun _ _ e => e))
    obtain ⟨h₅, tk₅, full', rfl, F₅, N₅, off₅, hJ₅⟩ := h₈
    have oI := B₄.off (I1, o1) List.mem_cons_self
    have B₅ : Blk h₀ L m C D ((I1, o1) :: full') h₅ _ ys := Blk.of (oC := oC) F₅ N₅ hoC (fun p hp => (List.mem_cons.mp hp).elim (fun e => e ▸ oI) fun hp => ⟨(off₅ p hp).1, (off₅ p hp).2.1⟩)
    cases ok with
    | false => exact wpAny_pure ⟨rfl, vs.length + 1 - (i + 1), by omega, h₅, tk₅, i + 1, ys, full', _, rfl, hlt, rfl, by omega, B₅.less fun p hp => List.mem_cons_of_mem _ hp, fun p hp => (off₅ p hp).2.2, hi1 h₅ (B₅.N _ List.mem_cons_self).1, hJ₅⟩
    | true =>
      refine wpAny_bind (wpAny_bind (eltv.it C oC _ v _ h₅ tk₅ _ _ hoC (by simp) F₅ N₅ fun tk₆ => ?_))
      refine wpAny_bind (append_at (hsz := by rw [List.size_toArray, sizeLine_eq]; omega) B₅.d fun h₆ hs₆ hD₆ => wpAny_pure (wpAny_pure ⟨rfl, ?_⟩))
      have B₆ := B₅.app a hs₆ (y := v) (by rw [hD₆, List.length_append, List.length_singleton]; simp)
      exact ⟨vs.length + 1 - (i + 1), by omega, h₆, tk₆, i + 1, ys ++ [v], full', _, rfl, hlt, rfl, by simp; omega, B₆.less fun p hp => List.mem_cons_of_mem _ hp, fun p hp => (off₅ p hp).2.2, hi1 h₆ (B₆.N _ List.mem_cons_self).1, hJ₅⟩
  · obtain rfl : i = vs.length := Nat.le_antisymm hi (Nat.not_lt.mp hlt)
    refine W.done _ _ _ (by simpa using ⟨hit, hla B.N (hS _ _ _ hJ)⟩) fun h₂ tk₂ hk₂ => ?_
    have B₂ := B.keep a off hk₂
    exact wpAny_pure ⟨rfl, done _ _ _ _ _ _ _ _ a B₂ hJ⟩
end
end CompSText
section TakText
open PyProof.Rows.LCg
set_option hygiene false
inductive TakRel (prog : Program) (w : World) (news : Led) (vs : List Value) (P : Pat) : Prop
  | mk (p : Value) (k kd : Addr) (n : Nat) (tc : Tok) (hc : Int) (cd : Addr) (e : vs = [p, .ref k]) (hp : PatIn news p P) (m1 : (k, instObj 381 kd) ∈ news) (m2 : (kd, dictOf [ent "cons" tc hc (.ref cd)] n) ∈ news) (hkn : KnownIn prog w news cd) (kk : Kd) (dd : Nat) (hok : okP kk dd P)
abbrev takT (prog : Program) (w : World) : Told Pat where
  Rel := TakRel prog w
  size := fun P => 4 * P.size + 60
  Out := fun _ _ r P => r = .bool (takes P)
theorem KnownIn.mono {prog : Program} {w : World} {news news' : Led} (hs : ∀ p ∈ news, p ∈ news') {cd : Addr} : KnownIn prog w news cd → KnownIn prog w news' cd
  | ⟨od, i1, i2, i3, a, b, c, d, e, f⟩ => ⟨od, i1, i2, i3, hs _ a, b, c, d.mono hs, e.mono hs, f.mono hs⟩
theorem okPs_at : ∀ {ps : List Pat} {ks : List Kd} {d i : Nat} {p : Pat}, okPs ks d ps → ps[i]? = some p → ∃ k, okP k d p
  | [], _, _, _, _, _, e => by simp at e
  | q :: ps, [], _, _, _, h, _ => by simp [okPs] at h
  | q :: ps, k :: ks, d, 0, p, h, e => by simp only [okPs] at h; simp at e; subst e; exact ⟨k, h.1⟩
  | q :: ps, k :: ks, d, i + 1, p, h, e => by simp only [okPs] at h; exact okPs_at h.2 (by simpa using e)
theorem con_named {k : Kd} {n : Str} {fs : List Kd} (h : (n, fs) ∈ k.cons) : n ∈ sibNames := by
  cases k <;> simp only [Kd.cons, List.mem_cons, List.not_mem_nil, or_false, Prod.mk.injEq] at h
  · rcases h with ⟨rfl, _⟩ | ⟨rfl, _⟩ <;> simp [sibNames]
  · simp [sibNames, h.1]
  · simp [sibNames, h.1]
  · rcases h with ⟨rfl, _⟩ | ⟨rfl, _⟩ <;> simp [sibNames]
theorem all_takes : ∀ {ps : List Pat} {vs : List Value}, LSm.BoolsAre vs (ps.map takes) → (ps.map takes).all id = takesZ ps
  | [], _, _ => rfl
  | p :: ps, _, .cons _ r => by simp only [List.map_cons, List.all_cons, id_eq, takesZ]; rw [all_takes r]
theorem bools_snoc {vs : List Value} {bs : List Bool} {b : Bool} (h : LSm.BoolsAre vs bs) : LSm.BoolsAre (vs ++ [.bool b]) (bs ++ [b]) := by
  induction h with
  | nil => exact .cons _ .nil
  | cons _ r ih => exact .cons _ ih
theorem take_map {ps : List Pat} {i : Nat} {p : Pat} (e : ps[i]? = some p) : (ps.take (i + 1)).map takes = (ps.take i).map takes ++ [takes p] := by
  rw [List.take_succ, e]; simp
theorem sib12 (nm : Str) : (sibN nm = 1 ∧ sib1 nm = true) ∨ (sibN nm = 2 ∧ sib1 nm = false) := by
  unfold sibN sib1
  split
  · rename_i h; left; simpa using h
  · rename_i h; right; simpa [not_or] using h
theorem tkl1 {P : Pat} (c : oneOf [72, 99, 261] P = true) : takes P = true := by cases P <;> first | rfl | exact Bool.noConfusion (show false = true from c)
inductive TK2 (P : Pat) : Prop
  | mk (q : Pat) (e : subP P = some q) (e2 : takes P = takes q) (sz : q.size + 1 ≤ P.size) (hok : ∀ k d, okP k d P → ∃ d', okP k d' q)
theorem tkl2 {P : Pat} (c : oneOf [234, 288] P = true) : TK2 P := by
  cases P <;> first | exact Bool.noConfusion (show false = true from c) | exact ⟨_, rfl, rfl, Nat.le_refl _, fun k d h => ⟨_, h.2⟩⟩
inductive TK3 (P : Pat) : Prop
  | mk (nm : Str) (ps : List Pat) (e : spr P = .con nm ps) (hn : nm ∈ sibNames) (f : sib1 nm = false → takes P = false) (t : sib1 nm = true → takes P = takesZ ps ∧ ps.length ≤ 100000 ∧ ∀ (i : Nat) (q : Pat), ps[i]? = some q → q.size + 1 ≤ P.size ∧ ∃ k d, okP k d q)
theorem tkl3 {P : Pat} {k : Kd} {d : Nat} (hok : okP k d P) (c : oneOf [153] (spr P) = true) : TK3 P := by
  cases P with
  | con nm ps =>
    obtain ⟨_, fs, hf, hs⟩ := hok
    have hl : ps.length ≤ 100000 := by
      have two : ∀ c ∈ k.cons, c.2.length ≤ 2 := by cases k <;> decide +kernel
      have := two _ hf
      rw [okPs_len hs]; simp only at this; omega
    exact ⟨nm, ps, rfl, con_named hf, fun h => by simp only [takes, h, Bool.false_and], fun h => ⟨by simp only [takes, h, Bool.true_and], hl, fun i q e => ⟨by have := sizes_at e; simp only [Pat.size]; omega, let ⟨k, hk⟩ := okPs_at hs e; ⟨k, _, hk⟩⟩⟩⟩
  | tup ps =>
    obtain ⟨_, rfl, hs⟩ := hok
    exact ⟨_, ps, rfl, by simp [sibNames], fun h => absurd h (by decide +kernel), fun _ => ⟨rfl, by rw [okPs_len hs]; decide, fun i q e => ⟨by have := sizes_at e; simp only [Pat.size]; omega, let ⟨k, hk⟩ := okPs_at hs e; ⟨k, _, hk⟩⟩⟩⟩
  | lst ps =>
    cases ps with
    | nil => exact ⟨_, [], rfl, by simp [sibNames], fun _ => rfl, fun h => absurd h (by decide +kernel)⟩
    | cons p ps => exact ⟨_, _, rfl, by simp [sibNames], fun _ => rfl, fun h => absurd h (by decide +kernel)⟩
  | _ => exact Bool.noConfusion (show false = true from c)
theorem tkl4 {P : Pat} (c1 : ¬ oneOf [72, 99, 261] P = true) (c2 : ¬ oneOf [234, 288] P = true) (c : ¬ oneOf [153] (spr P) = true) : takes P = false := by
  cases P with
  | lit i => rfl
  | lst ps => rfl
  | tup ps => exact absurd rfl c
  | con n ps => exact absurd rfl c
  | wild => exact absurd rfl c1
  | var n => exact absurd rfl c1
  | lazy p => exact absurd rfl c1
  | as_ n p => exact absurd rfl c2
  | bang p => exact absurd rfl c2
local macro_rules | `(tactic| walk_at "my pr") => `(tactic| with_reducible first | assumption | exact And.left (by assumption) | exact And.left (And.right (by assumption)) | exact And.left (And.right (And.right (by assumption))) | exact And.left (And.right (And.right (And.right (by assumption)))) | exact And.left (And.right (And.right (And.right (And.right (by assumption))))) | exact And.left (And.right (And.right (And.right (And.right (And.right (by assumption)))))))
local macro_rules | `(tactic| k_ne) => `(tactic| first | exact neN (Nat.ne_of_lt (by walk_at "my pr")) | exact neN (Nat.ne_of_gt (by walk_at "my pr")) | (refine neN ?_; (try dsimp only); omega))
local macro_rules | `(tactic| k_mem) => `(tactic| first | exact List.mem_cons_self | assumption | (refine List.mem_cons_of_mem _ ?_; k_mem) | (refine List.mem_append.mpr (.inr ?_); k_mem) | (refine List.mem_append.mpr (.inl ?_); k_mem))
local macro_rules | `(tactic| walk_at "my sub") => `(tactic| (intro q hq; first | exact hq | (simp only [List.mem_cons, List.mem_append, List.not_mem_nil, or_false, false_or] at hq ⊢; grind)))
local macro_rules | `(tactic| walk_at "my steps") => `(tactic| (repeat' (first | (k_unfold; (try dsimp only)) | (walk1 <;> (try dsimp only)))))
local macro_rules | `(tactic| walk_at "execs cons") => `(tactic| first | ((with_reducible show wpAny _ _ _ _ _ (PySem.Shared.mk _ _ _ (_ + 1 + 1) _)); refine gen_toks ?_; intro tk) | ((try ((with_reducible rename Fr _ _ _ _ => F8); refine fr_let F8 ?_; clear F8; intro m8 F8)); (with_reducible refine wpAny_execs_cons ?_); (try dsimp only); refine let_Q ?_; intro qk))
local macro_rules | `(tactic| walk_at "eval ListComp") => `(tactic| (k_dflt (refine LCg.ListComp_U (F₀ := by k_asm) (by with_unfolding_all rfl) (by decide) (by rfl) (by decide) (by rfl) ?_)))
local macro_rules | `(tactic| walk_at "call builtin:len cons nil") => `(tactic| (k_dflt (refine len_at (by assumption) (by k_mem) (by assumption) (by decide) ?_); intro t' tk'))
local macro_rules | `(tactic| walk_at "call builtin:all cons nil") => `(tactic| (k_dflt (refine LSm.all_bools (by k_asm) (by k_asm) rfl (list_of (by assumption) (by k_mem)) (by assumption) ?_); intro h' tk' F' N'))
local macro_rules | `(tactic| walk_at "call ref cons nil") => `(tactic| refine Hold.it ?_)
local macro_rules | `(tactic| walk_at "CompSrc Call cons ref") => `(tactic| refine Hold.it ?_)
local macro_rules | `(tactic| walk_at "ite") => `(tactic| first | (refine ite_neg (by first | with_reducible assumption | (simp only [decide_eq_true_eq, beq_iff_eq]; with_reducible assumption)) ?_) | (refine ite_pos (by first | with_reducible assumption | (simp only [decide_eq_true_eq, beq_iff_eq]; with_reducible assumption)) ?_) | (refine ite_neg (by decide) ?_) | (refine ite_pos (by decide) ?_) | refine Hold.it ?_)
local macro_rules | `(tactic| walk_at "my glo") => `(tactic| (refine ⟨?_, rfl, rfl⟩; with_reducible first | exact gn72 _ | exact gn99 _ | exact gn126 _ | exact gn153 _ | exact gn180 _ | exact gn207 _ | exact gn234 _ | exact gn261 _ | exact gn288 _))
local macro_rules | `(tactic| walk_at "my kit") => `(tactic| with_reducible first | exact (kitP _ _).k72 | exact (kitP _ _).k126 | exact (kitP _ _).k153 | exact (kitP _ _).k180 | exact (kitP _ _).k207 | exact (kitP _ _).k234 | exact (kitP _ _).k261 | exact (kitP _ _).k288 | exact (kitP _ _).kTL | exact (kitP _ _).kVA | exact (kitP _ _).kAB | exact (kitP _ _).kALB | exact (kitP _ _).kVWL)
local macro_rules | `(tactic| walk_at "my d") => `(tactic| (k_dflt (exact rfl)))
local macro_rules | `(tactic| walk_at "my j") => `(tactic| (k_whole; intro h' tk' F' N'; (try k_sweep)))
local macro_rules | `(tactic| walk_at "isTrue Call Name cons nil") => `(tactic| (first | ((with_reducible refine isP1 (by k_asm) (by k_asm) (by k_asm) (by k_asm) (by walk_at "my d") (by walk_at "my d") (by assumption) (by k_dflt (walk_at "my glo")) (by walk_at "my kit") (by walk_at "my d") (by walk_at "my d") (by walk_at "my d") (by walk_at "my d") ?_); walk_at "my j") | ((with_reducible refine isP2 (by k_asm) (by k_asm) (by k_asm) (by k_asm) (by walk_at "my d") (by walk_at "my d") (by assumption) (by k_dflt (walk_at "my glo")) (by k_dflt (walk_at "my glo")) (by walk_at "my kit") (by walk_at "my d") (by walk_at "my d") (by walk_at "my d") (by walk_at "my d") ?_); walk_at "my j") | ((with_reducible refine isP3 (by k_asm) (by k_asm) (by k_asm) (by k_asm) (by walk_at "my d") (by walk_at "my d") (by assumption) (by k_dflt (walk_at "my glo")) (by k_dflt (walk_at "my glo")) (by k_dflt (walk_at "my glo")) (by walk_at "my kit") (by walk_at "my d") (by walk_at "my d") (by walk_at "my d") (by walk_at "my d") ?_); walk_at "my j")))
local macro_rules | `(tactic| walk_at "my g") => `(tactic| first | exact fun _ h => h | assumption | (intro q hq; k_mem))
local macro_rules | `(tactic| walk_at "getAttr ref") => `(tactic| (k_dflt (first | ((with_reducible refine gat_pattern (by k_asm) (by k_asm) (by k_asm) (by assumption) (by walk_at "my g") (by assumption) ?_); intro y tk hq) | ((with_reducible refine gat_args (by k_asm) (by k_asm) (by k_asm) (by assumption) (by walk_at "my g") (by assumption) ?_); intro l vs n tk ml hq) | ((with_reducible refine gat_itemsAt (by k_asm) (by k_asm) (by k_asm) (by assumption) (by walk_at "my g") (by assumption) ?_); intro tk) | ((with_reducible refine gat_items (by k_asm) (by k_asm) (by k_asm) (by assumption) (by walk_at "my g") (by assumption) ?_); intro l vs n tk ml hq) | ((with_reducible refine gat_kind (by k_asm) (by k_asm) (by k_asm) (by assumption) (by walk_at "my g") (by assumption) ?_); intro t tk) | ((with_reducible refine gat_value (by k_asm) (by k_asm) (by k_asm) (by assumption) (by walk_at "my g") (by assumption) ?_); intro t tk) | ((with_reducible refine gat_name (by k_asm) (by k_asm) (by k_asm) (by assumption) (by walk_at "my g") (by assumption) ?_); intro t tk))))
set_option maxHeartbeats 2000000
theorem tak_tells (w : World) (loose mean mg mb) : ∀ d, Tell PySem.Challenge.rw_og0007_01.row.prog w (hd.heap_39 w.params) hd.view_39 loose mean mg mb 390 (takT PySem.Challenge.rw_og0007_01.row.prog w) d := by
  refine tell_of fun P IH => ?_
  w_on
  unfold Tell
  k_fill
  intro dp un gd cn cs a ccd cl outer A₀ base h₀ L m news kept s vs Q E B F X N T hk hsub hR hd hu hret
  obtain ⟨p, k, kd, n0, tc, hc, cd, rfl, hp, m1, m2, hkn, kk, dd, hok⟩ := hR
  obtain ⟨x, _, _, rfl, _, _⟩ := hp.inst
  simp only at hret hd hu ⊢
  refine wpAny_call ?_
  refine' code_defC ?k1 ?k2 ?k3 ?k4 ?k5 ?kA ?kF ?kK ?k6 ?k7 ?k8 ?k9 ?kB ?kD ?_ ?c2 ?c3 ?c4
  (case kA => exact rfl)
  (case kF => exact rfl)
  (case kK => first | exact rfl | assumption)
  (case k1 => k_asm)
  (case k2 => k_asm)
  (case k3 => k_asm)
  (case k4 => k_asm)
  (case k5 => k_asm)
  (case k6 => k_is)
  (case k7 => k_is)
  (case k8 => ktr_room)
  (case k9 => exact BindsTo.of_eq rfl)
  (case kB => exact rfl)
  (case kD => decide +kernel)
  (case c2 => exact rfl)
  (case c3 => exact rfl)
  (case c4 => exact rfl)
  k_whole
  intro g1 L1 h1 tk1 cells1 FG1 F1 N1 Y1 B1 X1 T1 l1
  obtain ⟨oc, hE, ec⟩ := CellsAre.one Y1
  subst hE
  replace ec : oc.data = .cell (some (.ref k)) := ec
  obtain ⟨mf, Fe⟩ := fr_form1 (a := Str.ofString "pattern") (v := .ref x) F1 rfl
  obtain ⟨W, hWn, mc, hp, m1, m2, hkn, N2⟩ : ∃ W : Led, (∀ q ∈ news, q ∈ W) ∧ (L1 + 1, oc) ∈ W ∧ PatIn W (.ref x) P ∧ (k, instObj 381 kd) ∈ W ∧ (kd, dictOf [ent "cons" tc hc (.ref cd)] n0) ∈ W ∧ KnownIn PG w W cd ∧ News g1 L1 h1 W :=
    ⟨_, fun q hq => List.mem_append.mpr (.inr hq), List.mem_append.mpr (.inl List.mem_cons_self), hp.mono fun q hq => List.mem_append.mpr (.inr (hsub q hq)), List.mem_append.mpr (.inr (hsub _ m1)), List.mem_append.mpr (.inr (hsub _ m2)), hkn.mono fun q hq => List.mem_append.mpr (.inr (hsub q hq)), N1⟩
  clear F1 N1 Y1 l1 hsub N F
  try dsimp only
  refine anyE fun E0 => ?_
  refine let_A ?_
  intro A9
  try (refine let_env ?_; intro e9)
  try k_fold
  w_strict (walk_at "my steps")
  refine ⟨?_⟩
  by_cases c1 : oneOf [72, 99, 261] P = true
  · refine ite_pos c1 ?_
    w_strict (walk_at "my steps")
    exact hret _ [] _ _ (by k_asm) (by rw [List.append_nil]; exact news_sub (by k_asm) hWn) apart_nil (congrArg Value.bool (tkl1 c1).symm)
  refine ite_neg c1 ?_
  w_strict (walk_at "my steps")
  refine ⟨?_⟩
  by_cases c2 : oneOf [234, 288] P = true
  · refine ite_pos c2 ?_
    obtain ⟨q, eq, et, sz, hokq⟩ := tkl2 c2
    obtain ⟨d', hokq⟩ := hokq _ _ hok
    w_strict (walk_at "my steps")
    refine ⟨?_⟩
    rename PatIn _ _ q => hq1
    refine tell_use (c := takT PG w) (d := q) W (by k_asm) (by k_asm) (by k_asm) (by k_asm) (by k_asm) rfl (fun _ h => h) ⟨_, k, kd, n0, tc, hc, cd, rfl, hq1, m1, m2, hkn, kk, d', hokq⟩ (IH _ ?lt) ?hd ?hu ?ret
    case lt => show 4 * q.size + 60 < 4 * P.size + 60; omega
    case hd => show dp + 1 + (4 * q.size + 60) < _; omega
    case hu => show un + 3 + 8 * (4 * q.size + 60) < _; omega
    case ret =>
    intro r9 tl9 h9 tk9 F9 N9 ha9 ho9
    obtain rfl : r9 = .bool (takes P) := by rw [et]; exact ho9
    w_strict (walk_at "my steps")
    exact hret _ [] _ _ (by k_asm) (by rw [List.append_nil]; exact news_sub (by k_asm) fun q hq => List.mem_append.mpr (.inl (hWn q hq))) apart_nil rfl
  refine ite_neg c2 ?_
  w_strict (walk_at "my steps")
  refine ⟨?_⟩
  refine tell_use (c := sprT) (d := P) W (by k_asm) (by k_asm) (by k_asm) (by k_asm) (by k_asm) rfl (fun _ h => h) ⟨_, rfl, hp, two_of hok⟩ (spr_tells w _ _ _ _ _) ?hd ?hu ?ret
  case hd => show dp + 1 + 20 < _; omega
  case hu => show un + 3 + 8 * 20 < _; omega
  case ret =>
  intro r8 tl8 h8 tk8 F8 N8 ha8 ho8
  obtain ⟨W2, g1', g2', N3⟩ := led_mono N8
  have hs8 : PatIn W2 r8 (spr P) := PatIn.mono (fun q hq => (List.mem_append.mp hq).elim (g1' q) (g2' q)) ho8
  obtain ⟨x8, _, _, rfl, _, _⟩ := hs8.inst
  replace hWn := fun q hq => g1' q (hWn q hq)
  replace mc := g1' _ mc
  replace m1 := g1' _ m1
  replace m2 := g1' _ m2
  replace hkn := hkn.mono g1'
  clear g1' g2' N8 ha8 ho8 hp
  w_strict (walk_at "my steps")
  refine ⟨?_⟩
  by_cases c3 : oneOf [153] (spr P) = true
  · refine ite_neg (by simp [c3]) ?_
    obtain ⟨nm, ps, es, hn, hf, ht⟩ := tkl3 hok c3
    rw [es] at hs8
    have en : nameP (.con nm ps) = some nm := rfl
    have ea : argsP (.con nm ps) = some ps := rfl
    w_strict (walk_at "my steps")
    refine ⟨?_⟩
    refine tell_use (c := sibT PG w) (d := nm) W2 (by k_asm) (by k_asm) (by k_asm) (by k_asm) (by k_asm) rfl (fun _ h => h) ⟨hn, k, kd, n0, tc, hc, cd, _, rfl, m1, m2, hkn⟩ (sib_tells w loose mean mg mb _) ?hd ?hu ?ret
    case hd => show dp + 1 + 20 < _; omega
    case hu => show un + 3 + 8 * 20 < _; omega
    case ret =>
    intro r7 tl7 h7 tk7 F7 N7 ha7 ho7
    obtain ⟨l7, ws7, n7, rfl, hl7, hw7⟩ := ho7
    obtain ⟨W3, g1', g2', N4⟩ := led_mono N7
    replace hWn := fun q hq => g1' q (hWn q hq)
    replace hl7 := g2' _ hl7
    replace mc := g1' _ mc
    replace m1 := g1' _ m1
    replace m2 := g1' _ m2
    replace hkn := hkn.mono g1'
    replace hs8 := hs8.mono g1'
    clear g1' g2' N7 ha7
    rcases sib12 nm with ⟨e1, e2⟩ | ⟨e1, e2⟩
    · have hw8 : (ws7.length : Int) = 1 := by rw [hw7, e1]; rfl
      obtain ⟨ht1, hlen, hps⟩ := ht e2
      w_strict (walk_at "my steps")
      refine ⟨?_⟩
      rename PatsIn _ _ ps => hps8
      refine comp_mapB rfl (by k_asm) (by k_asm) (by assumption) (hps8.length ▸ hlen) (fun i ys _ => LSm.BoolsAre ys ((ps.take i).map takes)) .nil ?hst ?hdn
      case hst =>
        intro i v I oI C oC D m₂ ys tl h tk E' hv hoC hx2 hJ F2 N2 off hne
        obtain ⟨p1, e3, hp1⟩ := hps8.at hv
        obtain ⟨sz, k1, d1, hk1⟩ := hps i p1 e3
        w_strict (walk_at "my steps")
        refine ⟨?_⟩
        refine tell_use (c := takT PG w) (d := p1) W3 (by k_asm) (by k_asm) (by k_asm) (by k_asm) (by k_asm) rfl (fun q hq => by k_mem) ⟨_, k, kd, n0, tc, hc, cd, rfl, hp1, m1, m2, hkn, k1, d1, hk1⟩ (IH _ ?lt) ?hd ?hu ?ret
        case lt => show 4 * p1.size + 60 < 4 * P.size + 60; omega
        case hd => show dp + 1 + (4 * p1.size + 60) < _; omega
        case hu => show un + 3 + 8 * (4 * p1.size + 60) < _; omega
        case ret =>
        intro r9 tl9 h9 tk9 F9 N9 ha9 ho9
        obtain rfl : r9 = .bool (takes p1) := ho9
        w_strict (walk_at "my steps")
        refine MapEnd.mk ((tl ++ tl9) ++ W3) (by k_asm) (news_sub (by k_asm) (by walk_at "my sub")) (apart_all off ha9) ⟨tl ++ tl9, rfl, ?_⟩
        rw [take_map e3]; exact bools_snoc hJ
      case hdn =>
        intro D ys tl h tk F2 N2 off hJ
        rw [hps8.length, List.take_length] at hJ
        w_strict (walk_at "my steps")
        exact hret _ [] _ _ (by k_asm) (by rw [List.append_nil]; exact news_sub (by k_asm) fun q hq => by have := hWn q hq; k_mem) apart_nil (congrArg Value.bool ((all_takes hJ).trans ht1.symm))
    · have hw8 : (ws7.length : Int) = 2 := by rw [hw7, e1]; rfl
      w_strict (walk_at "my steps")
      exact hret _ [] _ _ (by k_asm) (by rw [List.append_nil]; exact news_sub (by k_asm) hWn) apart_nil (congrArg Value.bool (hf e2).symm)
  · refine ite_pos (by simp [c3]) ?_
    w_strict (walk_at "my steps")
    exact hret _ [] _ _ (by k_asm) (by rw [List.append_nil]; exact news_sub (by k_asm) hWn) apart_nil (congrArg Value.bool (tkl4 c1 c2 c3).symm)
end TakText
section PatText
open PyProof.Rows.LCg
set_option hygiene false
abbrev srcO (x y : Int) (tx ty : Tok) (n : Nat) : Obj := lstO [.int x tx, .int y ty] n
def NamesOk (names : List Str) : Prop := ∀ nm ∈ names, nm.length ≤ 100
/-- what _law_pattern answers -/
def PTell (w : World) (loose : List Str) (mean : ExcName → Option Value) (mg mb : Str → Option Value) (k : Kd) (d : Nat) : Prop :=
  ∀ (dp un : Nat) (gd : Option (List Code)) (cn : Str) (cs : Scope) (a : Addr) (ccd : Value) (cl : List (Str × Addr)) (outer : List Env) (A₀ : Around) (base h₀ : Heap) (L : Addr) (m : Str → Option Value) (news : Led) (s : Shared) (S Lb : Addr) (x y : Int) (tx ty : Tok) (n : Nat) (ls : List Value) (nl : Nat) (names : List Str) (t1 t2 : Tok)
    (Q E : Value → Shared → Prop),
    Below A₀ base outer h₀ → Fr h₀ L s.heap m → (hd.heap_39 w.params).In h₀ → News h₀ L s.heap ((S, srcO x y tx ty n) :: (Lb, lstO ls nl) :: news) → (@Ne Nat Lb S) → (∀ p ∈ news, p.1 ≠ S) → (∀ p ∈ news, p.1 ≠ Lb) → Top hd.view_39 loose mean mg mb h₀ → cs.kind = .function →
    StrsAre ls names → NamesOk names → names.length + 2 ^ (d + 1) ≤ 40 → dp + (20 * d + 20) < recursionLimit → un + 8 * (20 * d + 20) < cLine →
    (∀ p P tl x y tx ty n ls' nl' h' tk', Fr h₀ L h' m → News h₀ L h' ((S, srcO x y tx ty n) :: (Lb, lstO ls' nl') :: (news ++ tl)) → (∀ q ∈ news, ∀ p ∈ tl, q.1 ≠ p.1) → (∀ p ∈ tl, p.1 ≠ S) → (∀ p ∈ tl, p.1 ≠ Lb) → PatIn tl p P → okP k d P → StrsAre ls' (names ++ vars P) → NamesOk (names ++ vars P) → (vars P).length + 1 ≤ 2 ^ (d + 1) → Q p { s with heap := h', toks := tk' }) →
    wpAny (model PySem.Challenge.rw_og0007_01.row.prog w) (ktrTop dp un gd cn cs L a ccd cl outer) (call (.ref 455) [.ref S, .str (kdName k) t1, .int (d : Nat) t2, .ref Lb]) Q E s
def SrcEnd (h₀ : Heap) (L : Addr) (m : Str → Option Value) (s : Shared) (S : Addr) (R : Led) (P : Value → Prop) (v : Value) (s' : Shared) : Prop :=
  ∃ x y tx ty n h tk, s' = { s with heap := h, toks := tk } ∧ P v ∧ Fr h₀ L h m ∧ News h₀ L h ((S, srcO x y tx ty n) :: R)
theorem SrcEnd.mk {h₀ h : Heap} {L : Addr} {m : Str → Option Value} {s : Shared} {S : Addr} {R : Led} {P : Value → Prop} {v : Value} {x y : Int} {tx ty : Tok} {n tk : Nat} (hp : P v) (F : Fr h₀ L h m) (N : News h₀ L h ((S, srcO x y tx ty n) :: R)) : SrcEnd h₀ L m s S R P v { s with heap := h, toks := tk } := ⟨x, y, tx, ty, n, h, tk, rfl, hp, F, N⟩
theorem src_cut {prog : Program} {w : World} {A : Around} {E : Value → Shared → Prop} {s : Shared} {h₀ : Heap} {L : Addr} {m : Str → Option Value} {t : Sem Value} {S : Addr} {R : Led} {x₀ y₀ : Int} {tx₀ ty₀ : Tok} {n₀ : Nat} {Q : Value → Shared → Prop} (_F : Fr h₀ L s.heap m) (_N : News h₀ L s.heap ((S, srcO x₀ y₀ tx₀ ty₀ n₀) :: R)) (P : Value → Prop)
    (h1 : wpAny (model prog w) A t (SrcEnd h₀ L m s S R P) E s)
    (h2 : ∀ v x y tx ty n h tk, P v → Fr h₀ L h m → News h₀ L h ((S, srcO x y tx ty n) :: R) → Q v { s with heap := h, toks := tk }) : wpAny (model prog w) A t Q E s := by
  refine wpAny_mono h1 (fun v s' hq => ?_) fun _ _ e => e
  obtain ⟨x, y, tx, ty, n, h, tk, rfl, hp, F, N⟩ := hq
  exact h2 v x y tx ty n h tk hp F N
theorem lenL_at {prog : Program} {w : World} {A : Around} {E : Value → Shared → Prop} {s : Shared} {h₀ : Heap} {L l : Addr} {news : Led} {vs : List Value} {n : Nat} {Q : Value → Shared → Prop} (N : News h₀ L s.heap news) (hm : (l, lstO vs n) ∈ news) (hz : vs.length ≤ 1000)
    (h : ∀ t tk, Q (.int (vs.length : Nat) t) { s with toks := tk }) : wpAny (model prog w) A (call (.builtin "len") [.ref l]) Q E s := by
  refine Calls.call_len_list (list_of N hm) (by rw [List.size_toArray]; omega) ?_
  have := h (s.toks + 1) (s.toks + 1 + 1)
  simpa using this
theorem app_L {prog : Program} {w : World} {A : Around} {E : Value → Shared → Prop} {s : Shared} {h₀ : Heap} {L S D : Addr} {m : Str → Option Value} {oS : Obj} {W : Led} {vs : List Value} {n : Nat} {x : Value} {Q : Value → Shared → Prop} (F : Fr h₀ L s.heap m) (N : News h₀ L s.heap ((S, oS) :: (D, lstO vs n) :: W)) (hSD : @Ne Nat D S) (off : ∀ p ∈ W, p.1 ≠ D) (hz : vs.length ≤ 1000)
    (h : ∀ h', Fr h₀ L h' m → News h₀ L h' ((S, oS) :: (D, lstO (vs ++ [x]) (n + 1)) :: W) → Q .none { s with heap := h' }) : wpAny (model prog w) A (call (.builtin "list.append") [.ref D, x]) Q E s := by
  have z := N (D, lstO vs n) (List.mem_cons_of_mem _ List.mem_cons_self)
  refine append_at (hsz := by rw [List.size_toArray, sizeLine_eq]; omega) z.1 fun h' hs hD => h h' (F.change hs z.2.1 z.2.2) fun p hp => ?_
  simp only [List.mem_cons] at hp
  rcases hp with rfl | rfl | hp
  · have := N (S, oS) List.mem_cons_self
    exact ⟨hs.extBut _ _ (Ne.symm hSD) this.1, this.2⟩
  · exact ⟨by rw [hD]; simp, z.2⟩
  · have := N p (List.mem_cons_of_mem _ (List.mem_cons_of_mem _ hp))
    exact ⟨hs.extBut _ _ (off p hp) this.1, this.2⟩
theorem last_L {prog : Program} {w : World} {A : Around} {E : Value → Shared → Prop} {s : Shared} {h₀ : Heap} {L l : Addr} {news : Led} {vs : List Value} {n : Nat} {x : Value} {u : Tok} {value slice : PySem.Expr} {Q : Value → Shared → Prop} (N : News h₀ L s.heap news) (hm : (l, lstO (vs ++ [x]) n) ∈ news) (h : Q x s)
    (hs : subscripted slice false (.ref l) (.int (-1) u) = operate [.ref l, .int (-1) u] (getItem (.ref l) (.int (-1) u)) := by with_unfolding_all rfl) :
    wpAny (model prog w) A (subscriptTail value slice (.ref l) (.int (-1) u)) Q E s := by
  refine kde_neg (j := vs.length) (list_of N hm) (by decide) (by decide) ?_ (by simp) h hs
  unfold seqIndex?
  simp
  omega
section
variable {h₀ h : Heap} {L S Lb : Addr} {oS oL : Obj} {A W t news : Led}
theorem fin0 (N : News h₀ L h (A ++ ((S, oS) :: (Lb, oL) :: W))) (hW : ∀ q ∈ news, q ∈ W) : News h₀ L h ((S, oS) :: (Lb, oL) :: (news ++ A)) := fun q hq => N q (by
  simp only [List.mem_cons, List.mem_append] at hq ⊢
  rcases hq with h | h | h | h
  · exact .inr (.inl h)
  · exact .inr (.inr (.inl h))
  · exact .inr (.inr (.inr (hW q h)))
  · exact .inl h)
theorem fin1 (N : News h₀ L h (A ++ ((S, oS) :: (Lb, oL) :: (W ++ t)))) (hW : ∀ q ∈ news, q ∈ W) : News h₀ L h ((S, oS) :: (Lb, oL) :: (news ++ (A ++ t))) := fun q hq => N q (by
  simp only [List.mem_cons, List.mem_append] at hq ⊢
  rcases hq with h | h | h | h | h
  · exact .inr (.inl h)
  · exact .inr (.inr (.inl h))
  · exact .inr (.inr (.inr (.inl (hW q h))))
  · exact .inl h
  · exact .inr (.inr (.inr (.inr h))))
/-- two objects newer than all that stood -/
theorem new_two {d x : Addr} {od ox : Obj} (l1 : ∀ p ∈ (S, oS) :: (Lb, oL) :: (W ++ t), @LT.lt Nat _ p.1 d) (l2 : @LT.lt Nat _ d x) (hW : ∀ q ∈ news, q ∈ W) : (∀ q ∈ news, ∀ p ∈ [(x, ox), (d, od)], q.1 ≠ p.1) ∧ (∀ p ∈ [(x, ox), (d, od)], p.1 ≠ S) ∧ (∀ p ∈ [(x, ox), (d, od)], p.1 ≠ Lb) := by
  have s1 : @LT.lt Nat _ S d := l1 (S, oS) List.mem_cons_self
  have s2 : @LT.lt Nat _ Lb d := l1 (Lb, oL) (List.mem_cons_of_mem _ List.mem_cons_self)
  refine ⟨fun q hq => ?_, all_cons (Nat.ne_of_gt (Nat.lt_trans s1 l2)) (all_cons (Nat.ne_of_gt s1) fun _ h => nomatch h), all_cons (Nat.ne_of_gt (Nat.lt_trans s2 l2)) (all_cons (Nat.ne_of_gt s2) fun _ h => nomatch h)⟩
  have s3 : @LT.lt Nat _ q.1 d := l1 q (List.mem_cons_of_mem _ (List.mem_cons_of_mem _ (List.mem_append.mpr (.inl (hW q hq)))))
  exact all_cons (Nat.ne_of_lt (Nat.lt_trans s3 l2)) (all_cons (Nat.ne_of_lt s3) fun _ h => nomatch h)
theorem new_two0 {d x : Addr} {od ox : Obj} (l1 : ∀ p ∈ (S, oS) :: (Lb, oL) :: W, @LT.lt Nat _ p.1 d) (l2 : @LT.lt Nat _ d x) (hW : ∀ q ∈ news, q ∈ W) : (∀ q ∈ news, ∀ p ∈ [(x, ox), (d, od)], q.1 ≠ p.1) ∧ (∀ p ∈ [(x, ox), (d, od)], p.1 ≠ S) ∧ (∀ p ∈ [(x, ox), (d, od)], p.1 ≠ Lb) :=
  new_two (W := W) (t := []) (by rw [List.append_nil]; exact l1) l2 hW
end

def lbl (n : Nat) : Str := Str.ofString "v." ++ Str.ofString (toString ((n : Int) + 1))
theorem lbl_len {n : Nat} (h : n ≤ 40) : (lbl n).length ≤ 100 := by
  have all : ∀ n : Nat, n < 41 → (lbl n).length ≤ 100 := by decide +kernel
  exact all n (by omega)
theorem names_snoc {names : List Str} {n : Nat} (h : NamesOk names) (hn : n ≤ 40) : NamesOk (names ++ [lbl n]) := fun nm hm => (List.mem_append.mp hm).elim (h nm) fun hm => by rw [List.mem_singleton.mp hm]; exact lbl_len hn
theorem strs_snoc {ls : List Value} {names : List Str} {nm : Str} {t : Tok} (h : StrsAre ls names) : StrsAre (ls ++ [.str nm t]) (names ++ [nm]) := strs_app h (.cons nm t .nil)
theorem pat_use {w : World} {loose : List Str} {mean : ExcName → Option Value} {mg mb : Str → Option Value} {k : Kd} {d : Nat} {dp un : Nat} {gd : Option (List Code)} {cn : Str} {cs : Scope} {a : Addr} {ccd : Value} {cl : List (Str × Addr)} {outer : List Env} {A₀ : Around} {base h₀ : Heap} {L : Addr} {m : Str → Option Value} {news : Led} {s : Shared} {S Lb : Addr} {x y : Int} {tx ty : Tok} {n : Nat} {ls : List Value} {nl : Nat} {names : List Str} {t1 t2 : Tok} {Q E : Value → Shared → Prop}
    (P : PTell w loose mean mg mb k d) (B : Below A₀ base outer h₀) (F : Fr h₀ L s.heap m) (X : (hd.heap_39 w.params).In h₀) (N : News h₀ L s.heap ((S, srcO x y tx ty n) :: (Lb, lstO ls nl) :: news)) (hSL : @Ne Nat Lb S) (offS : ∀ p ∈ news, p.1 ≠ S) (offL : ∀ p ∈ news, p.1 ≠ Lb) (T : Top hd.view_39 loose mean mg mb h₀) (hk : cs.kind = .function)
    (hls : StrsAre ls names) (hnm : NamesOk names) (hbd : names.length + 2 ^ (d + 1) ≤ 40) (hd : dp + (20 * d + 20) < recursionLimit) (hu : un + 8 * (20 * d + 20) < cLine)
    (ret : ∀ p P tl x y tx ty n ls' nl' h' tk', Fr h₀ L h' m → News h₀ L h' ((S, srcO x y tx ty n) :: (Lb, lstO ls' nl') :: (news ++ tl)) → (∀ q ∈ news, ∀ p ∈ tl, q.1 ≠ p.1) → (∀ p ∈ tl, p.1 ≠ S) → (∀ p ∈ tl, p.1 ≠ Lb) → PatIn tl p P → okP k d P → StrsAre ls' (names ++ vars P) → NamesOk (names ++ vars P) → (vars P).length + 1 ≤ 2 ^ (d + 1) → Q p { s with heap := h', toks := tk' }) :
    wpAny (model PySem.Challenge.rw_og0007_01.row.prog w) (ktrTop dp un gd cn cs L a ccd cl outer) (call (.ref 455) [.ref S, .str (kdName k) t1, .int (d : Nat) t2, .ref Lb]) Q E s :=
  P _ _ _ _ _ _ _ _ _ _ _ _ _ _ _ _ _ _ _ _ _ _ _ _ _ _ _ _ _ _ B F X N hSL offS offL T hk hls hnm hbd hd hu ret
theorem pow_half {d : Nat} (h : d ≠ 0) : 2 ^ (d + 1) = 2 ^ (d - 1 + 1) + 2 ^ (d - 1 + 1) := by
  obtain ⟨e, rfl⟩ := Nat.exists_eq_succ_of_ne_zero h
  simp only [Nat.succ_sub_one]
  rw [Nat.pow_succ 2 (e + 1)]; omega
theorem pow_ge (d : Nat) : 2 ≤ 2 ^ (d - 1 + 1) := by
  rw [Nat.pow_succ]; have := Nat.one_le_two_pow (n := d - 1); omega
theorem pat_useI {w : World} {loose : List Str} {mean : ExcName → Option Value} {mg mb : Str → Option Value} {dp un : Nat} {gd : Option (List Code)} {cn : Str} {cs : Scope} {a : Addr} {ccd : Value} {cl : List (Str × Addr)} {outer : List Env} {A₀ : Around} {base h₀ : Heap} {L : Addr} {m : Str → Option Value} {news : Led} {s : Shared} {S Lb : Addr} {x y : Int} {tx ty : Tok} {n : Nat} {ls : List Value} {nl : Nat} {names : List Str} {t1 t2 : Tok} {Q E : Value → Shared → Prop}
    (P : PTell w loose mean mg mb .I 0) (B : Below A₀ base outer h₀) (F : Fr h₀ L s.heap m) (X : (hd.heap_39 w.params).In h₀) (N : News h₀ L s.heap ((S, srcO x y tx ty n) :: (Lb, lstO ls nl) :: news)) (hSL : @Ne Nat Lb S) (offS : ∀ p ∈ news, p.1 ≠ S) (offL : ∀ p ∈ news, p.1 ≠ Lb) (T : Top hd.view_39 loose mean mg mb h₀) (hk : cs.kind = .function)
    (hls : StrsAre ls names) (hnm : NamesOk names) (hbd : names.length + 2 ≤ 40) (hd : dp + 20 < recursionLimit) (hu : un + 8 * 20 < cLine)
    (ret : ∀ p P tl x y tx ty n ls' nl' h' tk', Fr h₀ L h' m → News h₀ L h' ((S, srcO x y tx ty n) :: (Lb, lstO ls' nl') :: (news ++ tl)) → (∀ q ∈ news, ∀ p ∈ tl, q.1 ≠ p.1) → (∀ p ∈ tl, p.1 ≠ S) → (∀ p ∈ tl, p.1 ≠ Lb) → PatIn tl p P → okP .I 0 P → StrsAre ls' (names ++ vars P) → NamesOk (names ++ vars P) → (vars P).length + 1 ≤ 2 → Q p { s with heap := h', toks := tk' }) :
    wpAny (model PySem.Challenge.rw_og0007_01.row.prog w) (ktrTop dp un gd cn cs L a ccd cl outer) (call (.ref 455) [.ref S, .str (Str.ofString "I") t1, .int 0 t2, .ref Lb]) Q E s := by
  rw [← kdName_I]
  exact pat_use P B F X N hSL offS offL T hk hls hnm hbd hd hu ret
theorem okPs_snoc : ∀ {ks : List Kd} {ps : List Pat} {d : Nat} {k : Kd} {p : Pat}, okPs ks d ps → okP k d p → okPs (ks ++ [k]) d (ps ++ [p])
  | [], [], _, _, _, _, h => by simp only [List.nil_append, okPs]; exact ⟨h, trivial⟩
  | k :: ks, p :: ps, _, _, _, h, h' => by simp only [okPs, List.cons_append] at h ⊢; exact ⟨h.1, okPs_snoc h.2 h'⟩
theorem pats_snoc {news : Led} {v : Value} {p : Pat} (h : PatIn news v p) : ∀ {vs ps}, PatsIn news vs ps → PatsIn news (vs ++ [v]) (ps ++ [p])
  | _, _, .nil => .cons h .nil
  | _, _, .cons a b => .cons a (pats_snoc h b)
theorem varsZ_snoc : ∀ (ps : List Pat) (p : Pat), varsZ (ps ++ [p]) = varsZ ps ++ vars p
  | [], p => by simp [varsZ]
  | q :: ps, p => by simp [varsZ, varsZ_snoc ps p]
/-- between the parts of a pattern: what has been drawn -/
inductive PJ (S Lb : Addr) (W : Led) (names : List Str) (ks : List Kd) (d : Nat) (ys : List Value) (full : Led) : Prop
  | mk (x y : Int) (tx ty : Tok) (n : Nat) (ls : List Value) (nl : Nat) (tl : Led) (Ps : List Pat) (e : full = (S, srcO x y tx ty n) :: (Lb, lstO ls nl) :: (W ++ tl)) (ap : ∀ q ∈ W, ∀ p ∈ tl, q.1 ≠ p.1) (aS : ∀ p ∈ tl, p.1 ≠ S) (aL : ∀ p ∈ tl, p.1 ≠ Lb) (hPs : PatsIn tl ys Ps) (hok : okPs ks d Ps) (hls : StrsAre ls (names ++ varsZ Ps)) (hnm : NamesOk (names ++ varsZ Ps)) (hbd : (varsZ Ps).length + ks.length ≤ ks.length * 2 ^ (d + 1))
theorem PJ.zero {S Lb : Addr} {W : Led} {names : List Str} {d : Nat} {x y : Int} {tx ty : Tok} {n nl : Nat} {ls : List Value} (h1 : StrsAre ls names) (h2 : NamesOk names) : PJ S Lb W names [] d [] ((S, srcO x y tx ty n) :: (Lb, lstO ls nl) :: W) :=
  ⟨x, y, tx, ty, n, ls, nl, [], [], by rw [List.append_nil], (fun _ _ _ h => nomatch h), (fun _ h => nomatch h), (fun _ h => nomatch h), .nil, trivial, by simpa [varsZ] using h1, by simpa [varsZ] using h2, by simp [varsZ]⟩
theorem mul_succ_le {a b i H : Nat} (h1 : a + i ≤ i * H) (h2 : b + 1 ≤ H) : a + b + (i + 1) ≤ (i + 1) * H := by
  rw [Nat.add_mul, Nat.one_mul]; omega
/-- the list of the parts, and two objects newer still -/
theorem new_three {S Lb : Addr} {oS oL : Obj} {W t news : Led} {d x D : Addr} {od ox oD : Obj} (l1 : ∀ p ∈ (D, oD) :: (S, oS) :: (Lb, oL) :: (W ++ t), @LT.lt Nat _ p.1 d) (l2 : @LT.lt Nat _ d x) (l3 : ∀ p ∈ (S, oS) :: (Lb, oL) :: (W ++ t), p.1 ≠ D) (hW : ∀ q ∈ news, q ∈ W) : (∀ q ∈ news, ∀ p ∈ [(x, ox), (d, od), (D, oD)], q.1 ≠ p.1) ∧ (∀ p ∈ [(x, ox), (d, od), (D, oD)], p.1 ≠ S) ∧ (∀ p ∈ [(x, ox), (d, od), (D, oD)], p.1 ≠ Lb) := by
  obtain ⟨a, b, c⟩ := new_two (od := od) (ox := ox) (fun p hp => l1 p (List.mem_cons_of_mem _ hp)) l2 hW
  refine ⟨fun q hq p hp => ?_, fun p hp => ?_, fun p hp => ?_⟩
  all_goals
    have hp' : p ∈ [(x, ox), (d, od)] ∨ p = (D, oD) := by simp only [List.mem_cons, List.not_mem_nil, or_false] at hp ⊢; rcases hp with h | h | h <;> simp [h]
    rcases hp' with hp' | rfl
  · exact a q hq p hp'
  · exact l3 q (List.mem_cons_of_mem _ (List.mem_cons_of_mem _ (List.mem_append.mpr (.inl (hW q hq)))))
  · exact b p hp'
  · exact Ne.symm (l3 (S, oS) List.mem_cons_self)
  · exact c p hp'
  · exact Ne.symm (l3 (Lb, oL) (List.mem_cons_of_mem _ List.mem_cons_self))
local macro_rules | `(tactic| walk_at "my pr") => `(tactic| with_reducible first | assumption | exact And.left (by assumption) | exact And.left (And.right (by assumption)) | exact And.left (And.right (And.right (by assumption))) | exact And.left (And.right (And.right (And.right (by assumption)))) | exact And.left (And.right (And.right (And.right (And.right (by assumption))))) | exact And.left (And.right (And.right (And.right (And.right (And.right (by assumption)))))))
local macro_rules | `(tactic| k_ne) => `(tactic| first | exact neN (Nat.ne_of_lt (by walk_at "my pr")) | exact neN (Nat.ne_of_gt (by walk_at "my pr")) | (refine neN ?_; (try dsimp only); omega))
local macro_rules | `(tactic| k_mem) => `(tactic| first | exact List.mem_cons_self | assumption | (refine List.mem_cons_of_mem _ ?_; k_mem) | (refine List.mem_append.mpr (.inr ?_); k_mem) | (refine List.mem_append.mpr (.inl ?_); k_mem))
local macro_rules | `(tactic| walk_at "my sub") => `(tactic| (intro q hq; first | exact hq | (simp only [List.mem_cons, List.mem_append, List.not_mem_nil, or_false, false_or] at hq ⊢; grind)))
local macro_rules | `(tactic| walk_at "my steps") => `(tactic| (repeat' (first | (k_unfold; (try dsimp only)) | (walk1 <;> (try dsimp only)))))
local macro_rules | `(tactic| walk_at "execs cons") => `(tactic| first | ((with_reducible show wpAny _ _ _ _ _ (PySem.Shared.mk _ _ _ (_ + 1 + 1) _)); refine gen_toks ?_; intro tk) | ((try ((with_reducible rename Fr _ _ _ _ => F8); refine fr_let F8 ?_; clear F8; intro m8 F8)); (with_reducible refine wpAny_execs_cons ?_); (try dsimp only); refine let_Q ?_; intro qk))
local macro_rules | `(tactic| walk_at "my all") => `(tactic| (first | assumption | k_all | exact fun p hp => Nat.ne_of_lt (ktn_ltOf (by assumption) p hp) | exact fun p hp => Nat.ne_of_lt (Nat.lt_succ_of_lt (ktn_ltOf (by assumption) p hp))))
local macro_rules | `(tactic| walk_at "subscriptTail Name Name ref str") => `(tactic| (k_dflt (refine' topItem_K ?F ?X ?l ?k ?e ?_; (case F | X => k_asm); (case l => k_is); (case k => k_keys); (case e => exact KindAt.at_ (by assumption)))))
local macro_rules | `(tactic| walk_at "pyIter str") => `(tactic| refine Hold.it ?_)
local macro_rules | `(tactic| walk_at "call ref cons nil") => `(tactic| refine Hold.it ?_)
local macro_rules | `(tactic| walk_at "assign Tuple cons ref") => `(tactic| (k_dflt (refine' unpackK ?uF ?uN ?uX ?uk ?uc ?ud ?uk1 ?uk2 ?uk3 ?_; (case uF | uN | uX => k_asm); (case uk | uc | ud => assumption); (case uk1 | uk2 | uk3 => exact rfl)); intro h' F' N'; (try k_sweep)))
local macro_rules | `(tactic| walk_at "exec Assign cons ListComp") => `(tactic| (k_dflt (refine comp_setupA (by with_unfolding_all rfl) (by with_unfolding_all rfl) (by decide) (by rfl) (by decide) ?_)))
local macro_rules | `(tactic| walk_at "eval IfExp Compare Call Call") => `(tactic| refine Hold.it ?_)
local macro_rules | `(tactic| walk_at "call builtin:len cons nil") => `(tactic| (k_dflt (refine lenL_at (by k_asm) (by k_mem) (by omega) ?_); intro t' tk'))
local macro_rules | `(tactic| walk_at "call builtin:list.append nil") => `(tactic| (k_dflt (refine app_L (by k_asm) (by k_asm) (by with_reducible assumption) (by with_reducible assumption) (by omega) ?_); intro h' F' N'))
local macro_rules | `(tactic| walk_at "subscriptTail Name UnaryOp ref int") => `(tactic| (k_dflt (refine last_L (by k_asm) (List.mem_cons_of_mem _ List.mem_cons_self) ?_)))
local macro_rules | `(tactic| walk_at "ite") => `(tactic| first | (refine ite_neg (by first | with_reducible assumption | (simp only [decide_eq_true_eq, beq_iff_eq]; with_reducible assumption)) ?_) | (refine ite_pos (by first | with_reducible assumption | (simp only [decide_eq_true_eq, beq_iff_eq]; with_reducible assumption)) ?_))
local macro_rules | `(tactic| walk_at "eval ListComp") => `(tactic| (k_dflt (refine LCg.ListComp_U (F₀ := by k_asm) (by with_unfolding_all rfl) (by decide) (by rfl) (by decide) (by rfl) ?_)))
local macro_rules | `(tactic| walk_at "CompSrc Call cons ref") => `(tactic| refine Hold.it ?_)
local macro_rules | `(tactic| walk_at "exec If BoolOp") => `(tactic| refine Hold.it ?_)
local macro_rules | `(tactic| walk_at "eval IfExp BoolOp") => `(tactic| refine Hold.it ?_)
local macro_rules | `(tactic| walk_at "ite") => `(tactic| first | (refine ite_neg (by first | with_reducible assumption | (simp only [decide_eq_true_eq, beq_iff_eq]; with_reducible assumption)) ?_) | (refine ite_pos (by first | with_reducible assumption | (simp only [decide_eq_true_eq, beq_iff_eq]; with_reducible assumption)) ?_) | (refine ite_neg (by decide) ?_) | (refine ite_pos (by decide) ?_) | refine Hold.it ?_)
def BoolEnd (h₀ : Heap) (L : Addr) (m : Str → Option Value) (s : Shared) (R : Led) (b : Bool) (v : Bool) (s' : Shared) : Prop :=
  v = b ∧ ∃ h tk, s' = { s with heap := h, toks := tk } ∧ Fr h₀ L h m ∧ News h₀ L h R
theorem BoolEnd.mk {h₀ h : Heap} {L : Addr} {m : Str → Option Value} {s : Shared} {R : Led} {b v : Bool} {tk : Nat} (e : v = b) (F : Fr h₀ L h m) (N : News h₀ L h R) : BoolEnd h₀ L m s R b v { s with heap := h, toks := tk } := ⟨e, h, tk, rfl, F, N⟩
theorem bool_cut {prog : Program} {w : World} {A : Around} {E : Value → Shared → Prop} {s : Shared} {h₀ : Heap} {L : Addr} {m : Str → Option Value} {t : Sem Bool} {R : Led} {Q : Bool → Shared → Prop} (b : Bool) (_F : Fr h₀ L s.heap m) (_N : News h₀ L s.heap R)
    (h1 : wpAny (model prog w) A t (BoolEnd h₀ L m s R b) E s)
    (h2 : ∀ h tk, Fr h₀ L h m → News h₀ L h R → Q b { s with heap := h, toks := tk }) : wpAny (model prog w) A t Q E s := by
  refine wpAny_mono h1 (fun v s' hq => ?_) fun _ _ e => e
  obtain ⟨rfl, h, tk, rfl, F, N⟩ := hq
  exact h2 h tk F N
theorem pzr {r k : Int} (h : r < 3) (e : r = k) (hk : 3 ≤ k) : False := by omega
theorem pzs {r : Int} (h0 : 0 ≤ r) (h : r < 3) (a : ¬ r = 0) (b : ¬ r = 1) (c : ¬ r = 2) : False := by omega
theorem pzp {d : Nat} (h : d ≠ 0) : (0 : Int) < (d : Int) := by omega
theorem pzn {n d : Nat} (h : n + 2 ^ (d + 1) ≤ 40) : n + 2 ^ (d - 1 + 1) ≤ 40 := Nat.le_trans (Nat.add_le_add_left (Nat.pow_le_pow_right (by decide) (by omega)) _) h
theorem pzn1 {n d : Nat} (h : n + 2 ^ (d + 1) ≤ 40) (h0 : d ≠ 0) : n + 1 + 2 ^ (d - 1 + 1) ≤ 40 := by
  have e : d - 1 + 1 = d := by omega
  rw [e]; rw [Nat.pow_succ] at h; have := Nat.one_le_two_pow (n := d); omega
theorem pz10 {dp d k : Nat} (h : dp + (20 * d + 20) < k) : dp + 1 + 10 < k := by omega
theorem pz12 {dp d k : Nat} (h : dp + (20 * d + 20) < k) : dp + 1 + 12 < k := by omega
theorem pz64 {un d k : Nat} (h : un + 8 * (20 * d + 20) < k) : un + 3 + 64 < k := by omega
theorem pz80 {un d k : Nat} (h : un + 8 * (20 * d + 20) < k) : un + 3 + 80 < k := by omega
theorem pzI {dp d k : Nat} (h : dp + (20 * d + 20) < k) (h0 : d ≠ 0) : dp + 1 + 1 + (20 * (d - 1) + 20) < k := by omega
theorem pzI1 {dp d k : Nat} (h : dp + (20 * d + 20) < k) (h0 : d ≠ 0) : dp + 1 + (20 * (d - 1) + 20) < k := Nat.lt_of_le_of_lt (by omega) (pzI h h0)
theorem pzJ {un d k : Nat} (h : un + 8 * (20 * d + 20) < k) (h0 : d ≠ 0) : un + 3 + 3 + 8 * (20 * (d - 1) + 20) < k := by omega
theorem pzJ1 {un d k : Nat} (h : un + 8 * (20 * d + 20) < k) (h0 : d ≠ 0) : un + 3 + 8 * (20 * (d - 1) + 20) < k := Nat.lt_of_le_of_lt (by omega) (pzJ h h0)
theorem pz20 {dp d k : Nat} (h : dp + (20 * d + 20) < k) (h0 : d ≠ 0) : dp + 1 + 1 + 20 < k := by omega
theorem pz21 {dp d k : Nat} (h : dp + (20 * d + 20) < k) (h0 : d ≠ 0) : dp + 1 + 20 < k := by omega
theorem pz60 {un d k : Nat} (h : un + 8 * (20 * d + 20) < k) (h0 : d ≠ 0) : un + 3 + 3 + 8 * 20 < k := by omega
theorem pz61 {un d k : Nat} (h : un + 8 * (20 * d + 20) < k) (h0 : d ≠ 0) : un + 3 + 8 * 20 < k := by omega
theorem pzd {d : Nat} (h0 : d ≠ 0) : (d : Int) - 1 = ((d - 1 : Nat) : Int) := by omega
set_option maxHeartbeats 4000000
theorem pat_step (w : World) (loose mean mg mb) (k : Kd) (d : Nat) (hd2 : d ≤ 2) (IH : d ≠ 0 → ∀ k, PTell w loose mean mg mb k (d - 1)) (IH0 : d ≠ 0 → PTell w loose mean mg mb .I 0) : PTell w loose mean mg mb k d := by
  w_on
  unfold PTell
  k_fill
  intro dp un gd cn cs a ccd cl outer A₀ base h₀ L m news s S Lb x y tx ty n ls nl names t1 t2 Q E B F X N hSL offS offL T hk hls hnm hbd hd hu hret
  refine wpAny_call ?_
  refine' code_defC ?k1 ?k2 ?k3 ?k4 ?k5 ?kA ?kF ?kK ?k6 ?k7 ?k8 ?k9 ?kB ?kD ?_ ?c2 ?c3 ?c4; (case kA => exact rfl); (case kF => exact rfl); (case kK => first | exact rfl | assumption); (case k1 => k_asm); (case k2 => k_asm); (case k3 => k_asm); (case k4 => k_asm); (case k5 => k_asm); (case k6 => k_is); (case k7 => k_is); (case k8 => ktr_room); (case k9 => exact BindsTo.of_eq rfl); (case kB => exact rfl); (case kD => decide +kernel); (case c2 => exact rfl); (case c3 => exact rfl); (case c4 => exact rfl); k_whole
  intro g1 L1 h1 tk1 cells1 FG1 F1 N1 Y1 B1 X1 T1 l1
  obtain ⟨oa, ob, oc, hE, ea, eb, ec⟩ := CellsAre.three Y1
  subst hE
  replace ea : oa.data = .cell (some (.ref Lb)) := ea
  replace eb : ob.data = .cell (some (.int (d : Nat) t2)) := eb
  replace ec : oc.data = .cell (some (.ref S)) := ec
  clear Y1
  have lS : @LT.lt Nat _ S L1 := l1 (S, srcO x y tx ty n) List.mem_cons_self
  have lL : @LT.lt Nat _ Lb L1 := l1 (Lb, lstO ls nl) (List.mem_cons_of_mem _ List.mem_cons_self)
  obtain ⟨W, hWn, ma, mB, mc, oWS, oWL, N2⟩ : ∃ W : Led, (∀ q ∈ news, q ∈ W) ∧ (L1 + 1 + 1 + 1, oa) ∈ W ∧ (L1 + 1 + 1, ob) ∈ W ∧ (L1 + 1, oc) ∈ W ∧ (∀ p ∈ W, p.1 ≠ S) ∧ (∀ p ∈ W, p.1 ≠ Lb) ∧ News g1 L1 h1 ((S, srcO x y tx ty n) :: (Lb, lstO ls nl) :: W) := by
    refine ⟨[(L1 + 1 + 1 + 1, oa), (L1 + 1 + 1, ob), (L1 + 1, oc)] ++ news, fun q hq => List.mem_append.mpr (.inr hq), by simp, by simp, by simp, ?_, ?_, news_sub N1 (by intro q hq; simp only [List.mem_cons, List.mem_append, List.not_mem_nil, or_false] at hq ⊢; grind)⟩
    · exact off_app (all_cons (Nat.ne_of_gt (Nat.lt_succ_of_lt (Nat.lt_succ_of_lt (Nat.lt_succ_of_lt lS)))) (all_cons (Nat.ne_of_gt (Nat.lt_succ_of_lt (Nat.lt_succ_of_lt lS))) (all_cons (Nat.ne_of_gt (Nat.lt_succ_of_lt lS)) (fun _ h => nomatch h)))) offS
    · exact off_app (all_cons (Nat.ne_of_gt (Nat.lt_succ_of_lt (Nat.lt_succ_of_lt (Nat.lt_succ_of_lt lL)))) (all_cons (Nat.ne_of_gt (Nat.lt_succ_of_lt (Nat.lt_succ_of_lt lL))) (all_cons (Nat.ne_of_gt (Nat.lt_succ_of_lt lL)) (fun _ h => nomatch h)))) offL
  clear N1 l1
  try dsimp only
  refine anyE fun E0 => ?_
  refine let_A ?_
  intro A9
  try (refine let_env ?_; intro e9)
  obtain ⟨mf, Fe⟩ := fr_form1 (a := Str.ofString "kind_one") (v := .str (kdName k) t1) F1 rfl
  clear F1
  try k_fold
  w_strict (walk_at "my steps")
  refine ⟨?_⟩
  refine src_cut (S := S) (R := (Lb, lstO ls nl) :: W) (by k_asm) (by k_asm) (fun v => ∃ (r : Int) (t : Tok), v = .int r t ∧ 0 ≤ r ∧ r < 9 ∧ (d = 0 → r < 3)) ?way ?go
  case way =>
    refine IfExp_ ?_
    by_cases hd0 : d = 0
    · subst hd0
      w_strict (walk_at "my steps")
      refine ⟨?_⟩
      refine take_use w loose mean mg mb _ _ _ _ _ _ _ _ _ _ _ _ _ _ _ _ _ _ (by k_asm) (by k_asm) (by k_asm) (by k_asm) (all_cons hSL oWS) (by k_asm) rfl ?hin ?huu 3 (by decide) (by decide) _ ?ret
      case hin => exact pz10 hd
      case huu => exact pz64 hu
      case ret =>
      intro r tr x y tx ty n h9 tk9 hr0 hr1 F9 N9
      w_strict (walk_at "my steps")
      exact SrcEnd.mk ⟨r, tr, rfl, hr0, Int.lt_trans hr1 (by decide), fun _ => hr1⟩ (by k_asm) (by k_asm)
    · have hpos : (0 : Int) < (d : Int) := pzp hd0
      w_strict (walk_at "my steps")
      refine ⟨?_⟩
      refine take_use w loose mean mg mb _ _ _ _ _ _ _ _ _ _ _ _ _ _ _ _ _ _ (by k_asm) (by k_asm) (by k_asm) (by k_asm) (all_cons hSL oWS) (by k_asm) rfl ?hin ?huu 9 (by decide) (by decide) _ ?ret
      case hin => exact pz10 hd
      case huu => exact pz64 hu
      case ret =>
      intro r tr x y tx ty n h9 tk9 hr0 hr1 F9 N9
      w_strict (walk_at "my steps")
      exact SrcEnd.mk ⟨r, tr, rfl, hr0, hr1, fun q => absurd q hd0⟩ (by k_asm) (by k_asm)
  case go =>
    clear N2
    try clear Fe
    rintro v x y tx ty n h2 tk2 ⟨r, tr, rfl, hr0, hr9, hr3⟩ F2 N3
    have hlb : ls.length ≤ 40 := by rw [strs_len hls]; exact Nat.le_trans (Nat.le_add_right _ _) hbd
    w_strict (walk_at "my steps")
    refine ⟨?_⟩
    by_cases r0 : r = 0
    · refine ite_pos (by simp [r0]) ?_
      w_strict (walk_at "my steps")
      refine ⟨?_⟩
      refine mk_pwild w loose mean mg mb _ _ _ _ _ _ _ _ _ _ _ _ _ _ _ _ _ _ (by k_asm) (by k_asm) (by k_asm) (by k_asm) (by k_asm) rfl ?hin ?huu ?hmk
      case hin => exact pz10 hd
      case huu => exact pz64 hu
      case hmk =>
      intro x1 d1 n1 t01 h01 g2 tk3 F3 N4 o1 p1
      w_strict (walk_at "my steps")
      obtain ⟨a1, a2, a3⟩ := new_two0 (ox := instObj 99 d1) (od := dictOf [ent "place" t01 h01 .none] n1) o1 p1 hWn
      exact hret _ .wild _ _ _ _ _ _ _ _ _ _ (by k_asm) (fin0 (A := [_, _]) (by k_asm) hWn) a1 a2 a3 (.wild (by k_mem) (by k_mem)) trivial (by simpa [vars] using hls) (by simpa [vars] using hnm) (by simp only [vars]; exact Nat.one_le_two_pow)
    refine ite_neg (by simp [r0]) ?_
    w_strict (walk_at "my steps")
    refine ⟨?_⟩
    refine wpAny_If ?_
    by_cases rv : r = 1 ∨ (r = 2 ∧ k ≠ .I)
    · refine bool_cut true (by k_asm) (by k_asm) ?t ?g
      case t =>
        rcases rv with r1 | ⟨r2, kI⟩
        · have r1e : (r == 1) = true := by simp [r1]
          w_strict (walk_at "my steps")
          refine BoolEnd.mk ?_ (by k_asm) (by k_asm); first | rfl | assumption | decide +kernel | simp_all
        · have r1e : ¬ (r == 1) = true := by simp [r2]
          have r2e : (r == 2) = true := by simp [r2]
          have hneB : (kdName k != Str.ofString "I") = true := by rw [bne, kdName_ne k kI]; rfl
          w_strict (walk_at "my steps")
          refine BoolEnd.mk ?_ (by k_asm) (by k_asm); first | rfl | assumption | decide +kernel | simp_all
      case g =>
        try clear F2
        try clear N3
        intro hgc tkc F2 N3
        w_strict (walk_at "my steps")
        refine ⟨?_⟩
        refine mk_pvar w loose mean mg mb _ _ _ _ _ _ _ _ _ _ _ _ _ _ _ _ _ _ (by k_asm) (by k_asm) (by k_asm) (by k_asm) (by k_asm) rfl _ ?hin ?huu ?hmk
        case hin => exact pz10 hd
        case huu => exact pz64 hu
        case hmk =>
        intro x1 d1 n1 t01 h01 t11 h11 g2 tk3 F3 N4 o1 p1
        w_strict (walk_at "my steps")
        obtain ⟨a1, a2, a3⟩ := new_two0 (ox := instObj 72 d1) (od := dictOf [ent "place" t01 h01 .none, ent "name" t11 h11 (.str (lbl ls.length) _)] n1) o1 p1 hWn
        exact hret _ (.var (lbl ls.length)) _ _ _ _ _ _ _ _ _ _ (by k_asm) (fin0 (A := [_, _]) (by k_asm) hWn) a1 a2 a3 (.var (by k_mem) (by k_mem)) trivial (strs_snoc hls) (names_snoc hnm hlb) (by simp only [vars, List.length_singleton]; rw [Nat.pow_succ]; have := Nat.one_le_two_pow (n := d); omega)
    refine bool_cut false (by k_asm) (by k_asm) ?t ?g
    case t =>
      have r1 : ¬ (r == 1) = true := by have : ¬ r = 1 := fun q => rv (.inl q)
                                        simpa using this
      by_cases r2 : r = 2
      · have r2e : (r == 2) = true := by simp [r2]
        obtain rfl : k = .I := Classical.byContradiction fun q => rv (.inr ⟨r2, q⟩)
        w_strict (walk_at "my steps")
        refine BoolEnd.mk ?_ (by k_asm) (by k_asm); first | rfl | assumption | decide +kernel | simp_all
      · have r2e : ¬ (r == 2) = true := by simpa using r2
        w_strict (walk_at "my steps")
        refine BoolEnd.mk ?_ (by k_asm) (by k_asm); first | rfl | assumption | decide +kernel | simp_all
    case g =>
    try clear F2
    try clear N3
    intro hgc tkc F2 N3
    w_strict (walk_at "my steps")
    refine ⟨?_⟩
    by_cases r3 : r = 3
    · refine ite_pos (by simp [r3]) ?_
      have hd0 : d ≠ 0 := fun q => pzr (hr3 q) r3 (by decide)
      have hdd := pzd hd0
      have hpw := pow_half hd0
      have hpg := pow_ge d
      w_strict (walk_at "my steps")
      refine ⟨?_⟩
      simp only [hdd]
      refine pat_use (IH hd0 k) (by k_asm) (by k_asm) (by k_asm) (by k_asm) hSL oWS oWL (by k_asm) rfl hls hnm (pzn hbd) ?hin ?huu ?ret
      case hin => exact pzI1 hd hd0
      case huu => exact pzJ1 hu hd0
      case ret =>
      intro p P tl x y tx ty n ls' nl' g2 tk3 F3 N4 ap aS aL hP hok hls' hnm' hbd'
      w_strict (walk_at "my steps")
      refine ⟨?_⟩
      refine mk_plazy w loose mean mg mb _ _ _ _ _ _ _ _ _ _ _ _ _ _ _ _ _ _ (by k_asm) (by k_asm) (by k_asm) (by k_asm) (by k_asm) rfl _ ?hin ?huu ?hmk
      case hin => exact pz10 hd
      case huu => exact pz64 hu
      case hmk =>
      intro x1 d1 n1 t01 h01 t11 h11 g2 tk3 F3 N4 o1 p1
      w_strict (walk_at "my steps")
      obtain ⟨b1, b2, b3⟩ := new_two (ox := instObj 261 d1) (od := dictOf [ent "place" t01 h01 .none, ent "pattern" t11 h11 p] n1) o1 p1 hWn
      exact hret _ (.lazy P) _ _ _ _ _ _ _ _ _ _ (by k_asm) (fin1 (A := [_, _]) (by k_asm) hWn) (apart_app b1 fun q hq => ap q (hWn q hq)) (off_app b2 aS) (off_app b3 aL) (.lazy (by k_mem) (by k_mem) (hP.mono fun q hq => by k_mem)) ⟨by omega, hok⟩ hls' hnm' (by simp only [vars]; omega)
    refine ite_neg (by simp [r3]) ?_
    w_strict (walk_at "my steps")
    refine ⟨?_⟩
    by_cases r4 : r = 4
    · refine ite_pos (by simp [r4]) ?_
      have hd0 : d ≠ 0 := fun q => pzr (hr3 q) r4 (by decide)
      have hdd := pzd hd0
      have hpw := pow_half hd0
      have hpg := pow_ge d
      w_strict (walk_at "my steps")
      refine ⟨?_⟩
      simp only [hdd]
      refine pat_use (IH hd0 k) (by k_asm) (by k_asm) (by k_asm) (by k_asm) hSL oWS oWL (by k_asm) rfl (strs_snoc (nm := lbl ls.length) hls) (names_snoc hnm hlb) (by rw [List.length_append, List.length_singleton]; exact pzn1 hbd hd0) ?hin ?huu ?ret
      case hin => exact pzI1 hd hd0
      case huu => exact pzJ1 hu hd0
      case ret =>
      intro p P tl x y tx ty n ls' nl' g2 tk3 F3 N4 ap aS aL hP hok hls' hnm' hbd'
      w_strict (walk_at "my steps")
      refine ⟨?_⟩
      refine mk_pas w loose mean mg mb _ _ _ _ _ _ _ _ _ _ _ _ _ _ _ _ _ _ (by k_asm) (by k_asm) (by k_asm) (by k_asm) (by k_asm) rfl _ _ ?hin ?huu ?hmk
      case hin => exact pz10 hd
      case huu => exact pz64 hu
      case hmk =>
      intro x1 d1 n1 t01 h01 t11 h11 t21 h21 g2 tk3 F3 N4 o1 p1
      w_strict (walk_at "my steps")
      obtain ⟨b1, b2, b3⟩ := new_two (ox := instObj 234 d1) (od := dictOf [ent "place" t01 h01 .none, ent "name" t11 h11 (.str (lbl ls.length) _), ent "pattern" t21 h21 p] n1) o1 p1 hWn
      rw [List.append_assoc] at hls' hnm'
      exact hret _ (.as_ (lbl ls.length) P) _ _ _ _ _ _ _ _ _ _ (by k_asm) (fin1 (A := [_, _]) (by k_asm) hWn) (apart_app b1 fun q hq => ap q (hWn q hq)) (off_app b2 aS) (off_app b3 aL) (.as_ (by k_mem) (by k_mem) (hP.mono fun q hq => by k_mem)) ⟨by omega, hok⟩ hls' hnm' (by simp only [vars, List.length_cons]; omega)
    refine ite_neg (by simp [r4]) ?_
    w_strict (walk_at "my steps")
    refine ⟨?_⟩
    refine wpAny_If ?_
    by_cases r5 : r = 5 ∧ k ≠ .N
    · refine bool_cut true (by k_asm) (by k_asm) ?t ?g
      case t =>
        obtain ⟨r5, kN⟩ := r5
        have r5e : (r == 5) = true := by simp [r5]
        have hneN : (kdName k != Str.ofString "N") = true := by cases k <;> first | exact absurd rfl kN | decide +kernel
        w_strict (walk_at "my steps")
        refine BoolEnd.mk ?_ (by k_asm) (by k_asm); first | rfl | assumption | decide +kernel | simp_all
      case g =>
        try clear F2
        try clear N3
        intro hgc tkc F2 N3
        have hd0 : d ≠ 0 := fun q => pzr (hr3 q) r5.1 (by decide)
        have hdd := pzd hd0
        have hpw := pow_half hd0
        have hpg := pow_ge d
        w_strict (walk_at "my steps")
        refine ⟨?_⟩
        simp only [hdd]
        refine pat_use (IH hd0 k) (by k_asm) (by k_asm) (by k_asm) (by k_asm) hSL oWS oWL (by k_asm) rfl hls hnm (pzn hbd) ?hin ?huu ?ret
        case hin => exact pzI1 hd hd0
        case huu => exact pzJ1 hu hd0
        case ret =>
        intro p P tl x y tx ty n ls' nl' g2 tk3 F3 N4 ap aS aL hP hok hls' hnm' hbd'
        w_strict (walk_at "my steps")
        refine ⟨?_⟩
        refine mk_pbang w loose mean mg mb _ _ _ _ _ _ _ _ _ _ _ _ _ _ _ _ _ _ (by k_asm) (by k_asm) (by k_asm) (by k_asm) (by k_asm) rfl _ ?hin ?huu ?hmk
        case hin => exact pz10 hd
        case huu => exact pz64 hu
        case hmk =>
        intro x1 d1 n1 t01 h01 t11 h11 g2 tk3 F3 N4 o1 p1
        w_strict (walk_at "my steps")
        obtain ⟨b1, b2, b3⟩ := new_two (ox := instObj 288 d1) (od := dictOf [ent "place" t01 h01 .none, ent "pattern" t11 h11 p] n1) o1 p1 hWn
        exact hret _ (.bang P) _ _ _ _ _ _ _ _ _ _ (by k_asm) (fin1 (A := [_, _]) (by k_asm) hWn) (apart_app b1 fun q hq => ap q (hWn q hq)) (off_app b2 aS) (off_app b3 aL) (.bang (by k_mem) (by k_mem) (hP.mono fun q hq => by k_mem)) ⟨by omega, hok⟩ hls' hnm' (by simp only [vars]; omega)
    refine bool_cut false (by k_asm) (by k_asm) ?t ?g
    case t =>
      by_cases r5e : r = 5
      · obtain rfl : k = .N := Classical.byContradiction fun q => r5 ⟨r5e, q⟩
        have r5f : (r == 5) = true := by simp [r5e]
        w_strict (walk_at "my steps")
        refine BoolEnd.mk ?_ (by k_asm) (by k_asm); first | rfl | assumption | decide +kernel | simp_all
      · have r5f : ¬ (r == 5) = true := by simpa using r5e
        w_strict (walk_at "my steps")
        refine BoolEnd.mk ?_ (by k_asm) (by k_asm); first | rfl | assumption | decide +kernel | simp_all
    case g =>
    try clear F2
    try clear N3
    intro hgc tkc F2 N3
    w_strict (walk_at "my steps")
    refine ⟨?_⟩
    by_cases kI : k = .I
    · subst kI
      refine ite_pos (by decide +kernel) ?_
      w_strict (walk_at "my steps")
      refine ⟨?_⟩
      refine take_use w loose mean mg mb _ _ _ _ _ _ _ _ _ _ _ _ _ _ _ _ _ _ (by k_asm) (by k_asm) (by k_asm) (by k_asm) (all_cons hSL oWS) (by k_asm) rfl ?hin ?huu 2 (by decide) (by decide) _ ?ret
      case hin => exact pz10 hd
      case huu => exact pz64 hu
      case ret =>
      intro q tq x y tx ty n h9 tk9 q0 q1 F9 N9
      w_strict (walk_at "my steps")
      refine ⟨?_⟩
      refine mk_plit w loose mean mg mb _ _ _ _ _ _ _ _ _ _ _ _ _ _ _ _ _ _ (by k_asm) (by k_asm) (by k_asm) (by k_asm) (by k_asm) rfl _ _ ?hin ?huu ?hmk
      case hin => exact pz10 hd
      case huu => exact pz64 hu
      case hmk =>
      intro x1 d1 n1 t01 h01 t11 h11 t21 h21 g2 tk3 F3 N4 o1 p1
      w_strict (walk_at "my steps")
      obtain ⟨a1, a2, a3⟩ := new_two0 (ox := instObj 126 d1) (od := dictOf [ent "place" t01 h01 .none, ent "kind" t11 h11 (.str "int" _), ent "value" t21 h21 (.int q _)] n1) o1 p1 hWn
      exact hret _ (.lit q) _ _ _ _ _ _ _ _ _ _ (by k_asm) (fin0 (A := [_, _]) (by k_asm) hWn) a1 a2 a3 (.lit (by k_mem) (by k_mem)) rfl (by simpa [vars] using hls) (by simpa [vars] using hnm) (by simp only [vars]; exact Nat.one_le_two_pow)
    refine ite_neg (by rw [kdName_ne k kI]; simp) ?_
    have r1n : ¬ r = 1 := fun q => rv (.inl q)
    have r2n : ¬ r = 2 := fun q => rv (.inr ⟨q, kI⟩)
    have hd0 : d ≠ 0 := fun q => pzs hr0 (hr3 q) r0 r1n r2n
    have hdd := pzd hd0
    have hpw := pow_half hd0
    have hpg := pow_ge d
    w_strict (walk_at "my steps")
    refine ⟨?_⟩
    refine wpAny_If ?_
    by_cases kL6 : k = .L ∧ r = 6
    · refine bool_cut true (by k_asm) (by k_asm) ?t ?g
      case t =>
        obtain ⟨kL, r6⟩ := kL6
        subst kL
        have r6e : (r == 6) = true := by simp [r6]
        have hneL : (kdName .L == Str.ofString "L") = true := by decide +kernel
        w_strict (walk_at "my steps")
        refine BoolEnd.mk ?_ (by k_asm) (by k_asm); first | rfl | assumption | decide +kernel | simp_all
      case g =>
        try clear F2
        try clear N3
        intro hgc tkc F2 N3
        obtain ⟨kL, r6⟩ := kL6
        subst kL
        w_strict (walk_at "my steps")
        refine ⟨?_⟩
        refine take_use w loose mean mg mb _ _ _ _ _ _ _ _ _ _ _ _ _ _ _ _ _ _ (by k_asm) (by k_asm) (by k_asm) (by k_asm) (all_cons hSL oWS) (by k_asm) rfl ?hin ?huu 3 (by decide) (by decide) _ ?ret
        case hin => exact pz10 hd
        case huu => exact pz64 hu
        case ret =>
        intro q tq x y tx ty n h9 tk9 q0 q1 F9 N9
        w_strict (walk_at "my steps")
        refine ⟨?_⟩
        have hq : q = 0 ∨ q = 1 ∨ q = 2 := by omega
        have hsm : Builtin.Range.small 0 q 1 = true := by rcases hq with rfl | rfl | rfl <;> decide
        obtain ⟨nq, hnq, hn2⟩ : ∃ nq : Nat, Builtin.Range.rangeSize 0 q 1 = (nq : Int) ∧ nq ≤ 2 := by
          rcases hq with rfl | rfl | rfl
          · exact ⟨0, by decide, by decide⟩
          · exact ⟨1, by decide, by decide⟩
          · exact ⟨2, by decide, by decide⟩
        refine comp_range (by exact rfl) (by k_asm) (by k_asm) (by assumption) hsm hnq (by omega) (fun i ys full => PJ S Lb W names (List.replicate i .I) 0 ys full) (PJ.zero hls hnm) ?stp ?dn
        case stp =>
          intro i v I oI C oC D m5 ys full h5 tk5 E5 hi hv hoC hx hJ F5 N5 off5 hne5
          obtain ⟨x, y, tx, ty, n, ls', nl', tl, Ps, rfl, ap, aS, aL, hPs, hok, hls', hnm', hbd'⟩ := hJ
          w_strict (walk_at "my steps")
          refine ⟨?_⟩
          have uS := off5 (S, srcO x y tx ty n) (by simp)
          have uL := off5 (Lb, lstO ls' nl') (by simp)
          rw [List.length_replicate] at hbd'
          refine pat_useI (IH0 hd0) (by k_asm) (by k_asm) (by k_asm) (show News _ _ _ ((S, srcO x y tx ty n) :: (Lb, lstO ls' nl') :: ((I, oI) :: (C, oC) :: (D, lst ys) :: (W ++ tl))) from news_sub (by k_asm) (by walk_at "my sub")) hSL (all_cons (Ne.symm uS.1) (all_cons (Ne.symm uS.2.1) (all_cons (Ne.symm uS.2.2) (off_app oWS aS)))) (all_cons (Ne.symm uL.1) (all_cons (Ne.symm uL.2.1) (all_cons (Ne.symm uL.2.2) (off_app oWL aL)))) (by k_asm) rfl hls' hnm' ?hb ?hin ?huu ?ret
          case hb => rw [List.length_append]; omega
          case hin => first | exact pz21 hd hd0 | exact pz20 hd hd0
          case huu => first | exact pz61 hu hd0 | exact pz60 hu hd0
          case ret =>
          intro p P tl2 x6 y6 tx6 ty6 n6 ls6 nl6 g6 tk6 F6 N6 ap6 aS6 aL6 hP hokP hls6 hnm6 hbd6
          w_strict (walk_at "my steps")
          refine MapEnd.mk ((S, srcO x6 y6 tx6 ty6 n6) :: (Lb, lstO ls6 nl6) :: (W ++ (tl ++ tl2))) (by k_asm) (news_sub (by k_asm) (by walk_at "my sub")) (all_cons uS (all_cons uL (off_app (fun p hp => off5 p (by simp [hp])) (off_app (fun p hp => off5 p (by simp [hp])) (fun p hp => ⟨Ne.symm (ap6 (I, oI) (by simp) p hp), Ne.symm (ap6 (C, oC) (by simp) p hp), Ne.symm (ap6 (D, lst ys) (by simp) p hp)⟩))))) ⟨x6, y6, tx6, ty6, n6, ls6, nl6, tl ++ tl2, Ps ++ [P], rfl, apart_app ap (fun q hq => ap6 q (by simp [hq])), off_app aS aS6, off_app aL aL6, pats_snoc (hP.mono fun q hq => List.mem_append.mpr (.inr hq)) (hPs.mono fun q hq => List.mem_append.mpr (.inl hq)), by rw [List.replicate_succ']; exact okPs_snoc hok hokP, by rw [varsZ_snoc, ← List.append_assoc]; exact hls6, by rw [varsZ_snoc, ← List.append_assoc]; exact hnm6, ?_⟩
          rw [varsZ_snoc, List.length_append, List.length_replicate]
          exact mul_succ_le hbd' hbd6
        case dn =>
          intro D ys full h5 tk5 F5 N5 off5 hJ
          obtain ⟨x, y, tx, ty, n, ls', nl', tl, Ps, rfl, ap, aS, aL, hPs, hok, hls', hnm', hbd'⟩ := hJ
          rw [List.length_replicate] at hbd'
          have hPl : Ps.length = nq := by have := okPs_len hok; rw [List.length_replicate] at this; omega
          w_strict (walk_at "my steps")
          refine ⟨?_⟩
          refine mk_plist w loose mean mg mb _ _ _ _ _ _ _ _ _ _ _ _ _ _ _ _ _ _ (by k_asm) (by k_asm) (by k_asm) (by k_asm) (by k_asm) rfl _ ?hin ?huu ?hmk
          case hin => exact pz10 hd
          case huu => exact pz64 hu
          case hmk =>
          intro x1 d1 n1 t01 h01 t11 h11 g2 tk3 F3 N4 o1 p1
          w_strict (walk_at "my steps")
          obtain ⟨b1, b2, b3⟩ := new_three (ox := instObj 207 d1) (od := dictOf [ent "place" t01 h01 .none, ent "items" t11 h11 (.ref D)] n1) o1 p1 off5 hWn
          exact hret _ (.lst Ps) _ _ _ _ _ _ _ _ _ _ (by k_asm) (fin1 (A := [_, _, _]) (by k_asm) hWn) (apart_app b1 fun q hq => ap q (hWn q hq)) (off_app b2 aS) (off_app b3 aL) (.lst (by k_mem) (by k_mem) (by k_mem) (hPs.mono fun q hq => by k_mem)) ⟨by omega, rfl, by omega, by rw [List.map_const', hPl]; exact hok⟩ hls' hnm' (by simp only [vars]; omega)
    refine bool_cut false (by k_asm) (by k_asm) ?t ?g
    case t =>
      by_cases kL : k = .L
      · subst kL
        have r6 : ¬ (r == 6) = true := by have : ¬ r = 6 := fun q => kL6 ⟨rfl, q⟩
                                          simpa using this
        have hneL : (kdName .L == Str.ofString "L") = true := by decide +kernel
        w_strict (walk_at "my steps")
        refine BoolEnd.mk ?_ (by k_asm) (by k_asm); first | rfl | assumption | decide +kernel | simp_all
      · have hneL : ¬ (kdName k == Str.ofString "L") = true := by cases k <;> first | exact absurd rfl kL | decide +kernel
        w_strict (walk_at "my steps")
        refine BoolEnd.mk ?_ (by k_asm) (by k_asm); first | rfl | assumption | decide +kernel | simp_all
    case g =>
    try clear F2
    try clear N3
    intro hgc tkc F2 N3
    obtain ⟨lK, loK, vsK, nK, hK⟩ := kind_at w k kI
    w_strict (walk_at "my steps")
    refine ⟨?_⟩
    refine one_list w loose mean mg mb _ _ _ _ _ _ _ _ _ _ _ _ _ _ _ _ _ _ (by k_asm) (by k_asm) (by k_asm) (by k_asm) (all_cons hSL oWS) (by k_asm) rfl ?hin ?huu hK kI ?ret
    case hin => exact pz12 hd
    case huu => exact pz80 hu
    case ret =>
    intro ic c v x y tx ty n h9 tk9 hc hp F9 N9
    obtain ⟨t, to, nt, tn, tf, tx', rfl, p1, p2, p3, p4⟩ := hp
    w_strict (walk_at "my steps")
    refine ⟨?_⟩
    have hc2 := cons_two hc
    refine comp_str (by exact rfl) rfl rfl (by rw [p4]; exact kd_ascii _) (by rw [p4]; simp; omega) (by k_asm) (by k_asm) (fun i ys full => PJ S Lb W names (c.2.take i) (d - 1) ys full) (by rw [List.take_zero]; exact PJ.zero hls hnm) ⟨?stp⟩ ?dn
    case stp =>
      intro i' ch u C oC I1 o1' D mC ys full h5 tk5 E5 hch hoC hx hJ F5 N5 off5
      obtain ⟨x, y, tx, ty, n, ls', nl', tl, Ps, rfl, ap, aS, aL, hPs, hok, hls', hnm', hbd'⟩ := hJ
      rw [p4] at hch
      obtain ⟨f, hf, rfl⟩ := kd_char hch
      have hil : i' < c.2.length := (List.getElem?_eq_some_iff.mp hf).1
      have htl : (c.2.take i').length = i' := by rw [List.length_take]; omega
      rw [htl] at hbd'
      have hrec : (varsZ Ps).length + 2 ^ (d - 1 + 1) ≤ 2 ^ (d + 1) := by
        have : i' = 0 ∨ i' = 1 := by omega
        rcases this with rfl | rfl <;> omega
      w_strict (walk_at "my steps")
      refine ⟨?_⟩
      simp only [hdd]
      have uS := off5 (S, srcO x y tx ty n) (by simp)
      have uL := off5 (Lb, lstO ls' nl') (by simp)
      refine pat_use (k := f) (IH hd0 f) (by k_asm) (by k_asm) (by k_asm) (show News _ _ _ ((S, srcO x y tx ty n) :: (Lb, lstO ls' nl') :: ((C, oC) :: (D, lstO ys ys.length) :: (I1, o1') :: (W ++ tl))) from news_sub (by k_asm) (by walk_at "my sub")) hSL (all_cons (Ne.symm uS.1) (all_cons (Ne.symm uS.2.1) (all_cons (Ne.symm uS.2.2) (off_app oWS aS)))) (all_cons (Ne.symm uL.1) (all_cons (Ne.symm uL.2.1) (all_cons (Ne.symm uL.2.2) (off_app oWL aL)))) (by k_asm) rfl hls' hnm' ?hb ?hin ?huu ?ret
      case hb => rw [List.length_append]; omega
      case hin => first | exact pzI1 hd hd0 | exact pzI hd hd0
      case huu => first | exact pzJ1 hu hd0 | exact pzJ hu hd0
      case ret =>
      intro p P tl2 x6 y6 tx6 ty6 n6 ls6 nl6 g6 tk6 F6 N6 ap6 aS6 aL6 hP hokP hls6 hnm6 hbd6
      w_strict (walk_at "my steps")
      refine PartEnd.mk ((S, srcO x6 y6 tx6 ty6 n6) :: (Lb, lstO ls6 nl6) :: (W ++ (tl ++ tl2))) (by k_asm) (news_sub (by k_asm) (by walk_at "my sub")) (all_cons uS (all_cons uL (off_app (fun p hp => off5 p (by simp [hp])) (off_app (fun p hp => off5 p (by simp [hp])) (fun p hp => ⟨Ne.symm (ap6 (C, oC) (by simp) p hp), Ne.symm (ap6 (D, lstO ys ys.length) (by simp) p hp), Ne.symm (ap6 (I1, o1') (by simp) p hp)⟩))))) ⟨x6, y6, tx6, ty6, n6, ls6, nl6, tl ++ tl2, Ps ++ [P], rfl, apart_app ap (fun q hq => ap6 q (by simp [hq])), off_app aS aS6, off_app aL aL6, pats_snoc (hP.mono fun q hq => List.mem_append.mpr (.inr hq)) (hPs.mono fun q hq => List.mem_append.mpr (.inl hq)), by rw [List.take_add_one, hf]; exact okPs_snoc hok hokP, by rw [varsZ_snoc, ← List.append_assoc]; exact hls6, by rw [varsZ_snoc, ← List.append_assoc]; exact hnm6, ?_⟩
      have htl2 : (c.2.take (i' + 1)).length = i' + 1 := by rw [List.length_take]; omega
      rw [varsZ_snoc, List.length_append, htl2]
      exact mul_succ_le hbd' hbd6
    case dn =>
      intro C D I mC ys full h5 tk5 ac bc hJ
      have hsz : c.2.take tx'.cps.size = c.2 := by rw [p4]; simp
      rw [hsz] at hJ
      obtain ⟨x, y, tx, ty, n, ls', nl', tl, Ps, rfl, ap, aS, aL, hPs, hok, hls', hnm', hbd'⟩ := hJ
      have hvb : (varsZ Ps).length + 1 ≤ 2 ^ (d + 1) := by
        have : c.2.length = 0 ∨ c.2.length = 1 ∨ c.2.length = 2 := by omega
        rcases this with h | h | h <;> rw [h] at hbd' <;> omega
      refine Blk.asg rfl rfl rfl ac bc fun h6 tk6 F7 N10 => ?_
      have off7 : ∀ p ∈ (S, srcO x y tx ty n) :: (Lb, lstO ls' nl') :: (W ++ tl), p.1 ≠ D := fun p hp => (bc.off p hp).2
      w_strict (walk_at "my steps")
      refine ⟨?_⟩
      refine IfExp_ ?_
      by_cases kP6 : k = .P ∧ r = 6
      · refine bool_cut true (by k_asm) (by k_asm) ?t ?g
        case t =>
          obtain ⟨kP, r6⟩ := kP6
          subst kP
          have r6e : (r == 6) = true := by simp [r6]
          have hneP : (kdName .P == Str.ofString "P") = true := by decide +kernel
          w_strict (walk_at "my steps")
          refine BoolEnd.mk ?_ (by k_asm) (by k_asm); first | rfl | assumption | decide +kernel | simp_all
        case g =>
        intro hgc tkc Fc Nc
        obtain ⟨kP, r6⟩ := kP6
        subst kP
        w_strict (walk_at "my steps")
        refine ⟨?_⟩
        refine mk_ptuple w loose mean mg mb _ _ _ _ _ _ _ _ _ _ _ _ _ _ _ _ _ _ (by k_asm) (by k_asm) (by k_asm) (by k_asm) (by k_asm) rfl _ ?hin ?huu ?hmk
        case hin => exact pz10 hd
        case huu => exact pz64 hu
        case hmk =>
        intro x1 d1 n1 t01 h01 t11 h11 g2 tk3 F3 N4 o1 p1
        w_strict (walk_at "my steps")
        obtain ⟨b1, b2, b3⟩ := new_three (ox := instObj 180 d1) (od := dictOf [ent "place" t01 h01 .none, ent "items" t11 h11 (.ref D)] n1) o1 p1 off7 hWn
        have hcP := List.mem_of_getElem? hc
        simp only [Kd.cons, List.mem_cons, List.not_mem_nil, or_false] at hcP
        exact hret _ (.tup Ps) _ _ _ _ _ _ _ _ _ _ (by k_asm) (fin1 (A := [_, _, _]) (by k_asm) hWn) (apart_app b1 fun q hq => ap q (hWn q hq)) (off_app b2 aS) (off_app b3 aL) (.tup (by k_mem) (by k_mem) (by k_mem) (hPs.mono fun q hq => by k_mem)) ⟨by omega, rfl, by rw [hcP] at hok; exact hok⟩ hls' hnm' (by simp only [vars]; exact hvb)
      refine bool_cut false (by k_asm) (by k_asm) ?t ?g
      case t =>
        by_cases kP : k = .P
        · subst kP
          have r6 : ¬ (r == 6) = true := by have : ¬ r = 6 := fun q => kP6 ⟨rfl, q⟩
                                            simpa using this
          have hneP : (kdName .P == Str.ofString "P") = true := by decide +kernel
          w_strict (walk_at "my steps")
          refine BoolEnd.mk ?_ (by k_asm) (by k_asm); first | rfl | assumption | decide +kernel | simp_all
        · have hneP : ¬ (kdName k == Str.ofString "P") = true := by cases k <;> first | exact absurd rfl kP | decide +kernel
          w_strict (walk_at "my steps")
          refine BoolEnd.mk ?_ (by k_asm) (by k_asm); first | rfl | assumption | decide +kernel | simp_all
      case g =>
      intro hgc tkc Fc Nc
      w_strict (walk_at "my steps")
      refine ⟨?_⟩
      refine mk_pcon w loose mean mg mb _ _ _ _ _ _ _ _ _ _ _ _ _ _ _ _ _ _ (by k_asm) (by k_asm) (by k_asm) (by k_asm) (by k_asm) rfl _ _ ?hin ?huu ?hmk
      case hin => exact pz10 hd
      case huu => exact pz64 hu
      case hmk =>
      intro x1 d1 n1 t01 h01 t11 h11 t21 h21 g2 tk3 F3 N4 o1 p1
      w_strict (walk_at "my steps")
      obtain ⟨b1, b2, b3⟩ := new_three (ox := instObj 153 d1) (od := dictOf [ent "place" t01 h01 .none, ent "name" t11 h11 (.str c.1 tn), ent "args" t21 h21 (.ref D)] n1) o1 p1 off7 hWn
      exact hret _ (.con c.1 Ps) _ _ _ _ _ _ _ _ _ _ (by k_asm) (fin1 (A := [_, _, _]) (by k_asm) hWn) (apart_app b1 fun q hq => ap q (hWn q hq)) (off_app b2 aS) (off_app b3 aL) (.con (by k_mem) (by k_mem) (by k_mem) (hPs.mono fun q hq => by k_mem)) ⟨by omega, c.2, List.mem_of_getElem? hc, hok⟩ hls' hnm' (by simp only [vars]; exact hvb)
theorem pat_tells (w : World) (loose mean mg mb) : ∀ d, d ≤ 2 → ∀ k, PTell w loose mean mg mb k d := by
  have z : ∀ k, PTell w loose mean mg mb k 0 := fun k => pat_step w loose mean mg mb k 0 (by decide) (fun h => absurd rfl h) (fun h => absurd rfl h)
  intro d
  induction d with
  | zero => exact fun _ => z
  | succ d ih => exact fun h k => pat_step w loose mean mg mb k (d + 1) h (fun _ k => ih (by omega) k) (fun _ => z .I)
end PatText
section IrrText
open PyProof.Rows.LCg
set_option hygiene false
abbrev irrT (prog : Program) (w : World) : Told Pat where
  Rel := fun news vs P => ∃ p cd, vs = [p, .ref cd] ∧ PatIn news p P ∧ KnownIn prog w news cd ∧ ∃ kk dd, okP kk dd P
  size := fun P => 4 * P.size + 80
  Out := fun _ _ r P => r = .bool (takes P)
local macro_rules | `(tactic| walk_at "my pr") => `(tactic| with_reducible first | assumption | exact And.left (by assumption) | exact And.left (And.right (by assumption)) | exact And.left (And.right (And.right (by assumption))) | exact And.left (And.right (And.right (And.right (by assumption)))) | exact And.left (And.right (And.right (And.right (And.right (by assumption))))) | exact And.left (And.right (And.right (And.right (And.right (And.right (by assumption)))))))
local macro_rules | `(tactic| k_ne) => `(tactic| first | exact neN (Nat.ne_of_lt (by walk_at "my pr")) | exact neN (Nat.ne_of_gt (by walk_at "my pr")) | (refine neN ?_; (try dsimp only); omega))
local macro_rules | `(tactic| k_mem) => `(tactic| first | exact List.mem_cons_self | assumption | (refine List.mem_cons_of_mem _ ?_; k_mem) | (refine List.mem_append.mpr (.inr ?_); k_mem) | (refine List.mem_append.mpr (.inl ?_); k_mem))
local macro_rules | `(tactic| walk_at "my sub") => `(tactic| (intro q hq; first | exact hq | (simp only [List.mem_cons, List.mem_append, List.not_mem_nil, or_false, false_or] at hq ⊢; grind)))
local macro_rules | `(tactic| walk_at "my steps") => `(tactic| (repeat' (first | (k_unfold; (try dsimp only)) | (walk1 <;> (try dsimp only)))))
local macro_rules | `(tactic| walk_at "execs cons") => `(tactic| first | ((with_reducible show wpAny _ _ _ _ _ (PySem.Shared.mk _ _ _ (_ + 1 + 1) _)); refine gen_toks ?_; intro tk) | ((try ((with_reducible rename Fr _ _ _ _ => F8); refine fr_let F8 ?_; clear F8; intro m8 F8)); (with_reducible refine wpAny_execs_cons ?_); (try dsimp only); refine let_Q ?_; intro qk))
local macro_rules | `(tactic| walk_at "my enter") => `(tactic| (refine' code_def ?k1 ?k2 ?k3 ?k4 ?k5 ?kA ?kF ?kK ?k6 ?k7 ?k8 ?k9 ?kB ?_ ?c2 ?c3 ?c4 ?c5; (case kA | kF => exact rfl); (case kK => first | exact rfl | assumption); (case k1 | k2 | k3 | k4 | k5 => k_asm); (case k6 | k7 => k_is); (case k8 => ktr_room); (case k9 => first | exact BindsTo.of_eq rfl | exact binds_K (by k_in) rfl (by k_is) rfl rfl rfl); (case c5 => decide); (case kB => exact locs rfl); (case c2 | c3 | c4 => exact rfl); k_whole; intro g' L' h' FG' F' N' B' X' T'; (try dsimp only); (try k_fold)))
local macro_rules | `(tactic| walk_at "call ref cons nil") => `(tactic| refine Hold.it ?_)
set_option maxHeartbeats 1000000
theorem irr_tells (w : World) (loose mean mg mb) : ∀ d, Tell PySem.Challenge.rw_og0007_01.row.prog w (hd.heap_39 w.params) hd.view_39 loose mean mg mb 397 (irrT PySem.Challenge.rw_og0007_01.row.prog w) d := by
  intro P
  w_on
  unfold Tell
  k_fill
  intro dp un gd cn cs a ccd cl outer A₀ base h₀ L m news kept s vs Q E B F X N T hk hsub hR hd hu hret
  obtain ⟨p, cd, rfl, hp, hkn, kk, dd, hok⟩ := hR
  simp only at hp hret hd hu ⊢
  refine wpAny_call ?_
  k_dflt (walk_at "my enter")
  refine let_A ?_
  intro A9
  try (refine let_env ?_; intro e9)
  w_strict (walk_at "my steps")
  refine ⟨?_⟩
  refine mk_constructors w loose mean mg mb _ _ _ _ _ _ _ _ _ _ _ _ _ _ _ _ _ _ (by assumption) (by assumption) (by assumption) (by assumption) (by assumption) rfl _ ?hin ?huu ?hmk
  case hin => show dp + 1 + 10 < _; omega
  case huu => show un + 3 + 64 < _; omega
  case hmk =>
  intro x1 d1 k1 t0m1 h0m1 g1 tk1 F1 N1 o1 p1
  w_strict (walk_at "my steps")
  refine ⟨?_⟩
  refine tell_use (c := takT PySem.Challenge.rw_og0007_01.row.prog w) (d := P) ((x1, instObj 381 d1) :: (d1, dictOf [ent "cons" t0m1 h0m1 (.ref cd)] k1) :: kept) (by assumption) (by assumption) (by assumption) (by assumption) (by assumption) rfl ?hs ⟨_, x1, d1, k1, t0m1, h0m1, cd, rfl, hp.mono (fun q hq => by k_mem), by k_mem, by k_mem, hkn.mono (fun q hq => by k_mem), kk, dd, hok⟩ (tak_tells w loose mean mg mb _) ?hd ?hu ?ret
  case hs =>
    intro q hq
    rcases List.mem_cons.mp hq with h | hq
    · rw [h]; k_mem
    rcases List.mem_cons.mp hq with h | hq
    · rw [h]; k_mem
    have := hsub q hq; k_mem
  case hd => show dp + 1 + _ < _; (try dsimp only); omega
  case hu => show un + 3 + _ < _; (try dsimp only); omega
  case ret =>
  intro r9 tl9 h9 tk9 F9 N9 ha9 ho9
  subst ho9
  dsimp only
  w_strict (walk_at "my steps")
  refine hret _ ([(x1, instObj 381 d1), (d1, dictOf [ent "cons" t0m1 h0m1 (.ref cd)] k1)] ++ tl9) _ _ (by assumption) (news_sub (by assumption) (by walk_at "my sub")) (apart_app (apart_sub (apart_two o1 p1) (by walk_at "my sub")) (apart_sub ha9 (by walk_at "my sub"))) rfl
end IrrText
section DictPText
theorem list_no_keys_ty : typeLookup (.type "list") "keys" = pure none := by rw [typeLookup_type, builtinLookup_eq_fast]; kernel_rfl
theorem entry_update_loop : entryFor table "dict.update.loop" = some Builtin.«dict.update.loop» := entryFor_of_tree (by kernel_rfl)
theorem plain_update_loop : plainId "dict.update.loop" = true := by decide +kernel
section
variable {prog : Program} {w : World} {A : Around} {E : Value → Shared → Prop} {s : Shared}
theorem list_no_keys {a : Addr} {xs : Array Value} {k : Nat} {Q : Option Value → Shared → Prop} (hx : s.heap.get? a = some { cls := .type "list", data := .seq xs k }) (hA : A.handled = none)
    (h : ∀ h' tk, (∀ b o, s.heap.get? b = some o → h'.get? b = some o) → Q none { s with heap := h', toks := tk }) : wpAny (model prog w) A (getAttr? (.ref a) "keys") Q E s := by
  obtain ⟨hp, g, d, tk, os⟩ := s
  have hT : ∀ tk', (⟨hp, g, d, tk', os⟩ : Shared).TypeIs (.ref a) "list" := fun _ => ⟨_, hx, rfl⟩
  have f1 := sub_AttributeError
  have f3 := F.slot_list_getattribute.lookup
  have f4 := F.slot_list_getattribute.bind (.ref a)
  have f5 := am_list_getattr_none
  unfold getAttr? getAttrBy? getAttrBy
  repeat (any_goals (first | assumption | exact hT _ | ((with_reducible show wpAny _ _ (call (Value.builtin "list.__getattribute__") _ _) _ _ _); refine call_meets F.slot_list_getattribute (hT _) am_entry_list_getattribute (F.args_list_getattribute_2 _ _) (meets_getattribute_miss_list a xs k _ _ _ list_no_keys_ty (by decide +kernel)) ⟨hx, hA, fun h' tk' e hx' => ?_⟩) | wp_step))
  obtain ⟨t', u', he⟩ := hx'.there
  have hk := hx'.of.keeps
  show wpAny _ _ (getattributeRaised _ _ _ _ _ _ _) _ _ _
  unfold getattributeRaised
  repeat (any_goals (first | assumption | wp_step))
  exact h _ _ hk
def PairsAt (h : Heap) (vs : List Value) (kvs : List (Str × Value)) : Prop := ∀ (i : Nat) (v : Value), vs[i]? = some v → ∃ (a : Addr) (c : Nat) (k : Str) (t : Tok) (x : Value), v = .ref a ∧ kvs[i]? = some (k, x) ∧ h.get? a = some (tupO [.str k t, x] c)
theorem update_loop {I ax d : Addr} {vs : List Value} {kvs : List (Str × Value)} {res : Value} {R : Result → Shared → Prop} (hh : A.handled = none) (hI : ax ≠ I) (hdI : d ≠ I) (hda : d ≠ ax) (hn : vs.length ≤ 1000) (hlen : kvs.length = vs.length) :
    ∀ (r i : Nat) (s : Shared), i + r = vs.length → s.heap.IsListIter I ax i ∧ s.heap.IsList ax vs.toArray → s.heap.DictOf (PySem.strKind prog w) d (merged [] (kvs.take i)) → PairsAt s.heap vs kvs →
      (∀ h' tk, (∀ b o, b ≠ d → b ≠ I → s.heap.get? b = some o → h'.get? b = some o) → h'.DictOf (PySem.strKind prog w) d (merged [] kvs) → R (.ok (.ret res)) { s with heap := h', toks := tk }) →
      codeAny (model prog w) A (.builtin "dict.update.loop" ⟨[.ref d, .ref I, .int i 0, res], []⟩) R s := by
  have W := Walks.list (prog := prog) (w := w) (A := A.in1) hh I ax hI vs.toArray
  have hvz : vs.toArray.size = vs.length := List.size_toArray
  intro r
  induction r with
  | zero =>
    intro i s hi hst hd hp hR
    have hin : i = vs.toArray.size := by omega
    refine codeAny_builtin entry_update_loop ?_
    rw [Around.under_plainId plain_update_loop _]
    show wpAny _ A.in1 (pyNext (.ref I) >>= _) _ _ s
    refine wpAny_bind (W.done s _ _ (hin ▸ hst) fun h' tk hm => ?_)
    show wpAny _ A.in1 (Builtin.Dict.addKeywords d [] >>= fun _ => ret res) _ _ _
    refine wpAny_bind (wpAny_pure (wpAny_pure (hR h' tk (fun b o _ hb e => hm b o (by simpa using hb) e) ?_)))
    have e1 : kvs.take i = kvs := List.take_of_length_le (by omega)
    rw [e1] at hd
    exact hd.at fun o e => hm d o (by simpa using hdI) e
  | succ r ih =>
    intro i s hi hst hd hp hR
    have hlt : i < vs.toArray.size := by omega
    refine codeAny_builtin entry_update_loop ?_
    rw [Around.under_plainId plain_update_loop _]
    show wpAny _ A.in1 (pyNext (.ref I) >>= _) _ _ s
    refine wpAny_bind (W.item i s _ _ hlt hst fun v h' tk hP hst' hm => ?_)
    have hP' : vs[i]? = some v := by simpa using hP
    obtain ⟨a, c, k, t, x, rfl, hk, ha⟩ := hp i v hP'
    have keepI : ∀ b o, b ≠ I → s.heap.get? b = some o → h'.get? b = some o := fun b o hb e => hm b o (by simpa using hb) e
    obtain ⟨oI, hoI, hcI, _⟩ := hst.1
    have haI : a ≠ I := fun e => by
      rw [e, hoI] at ha
      rw [Option.some.inj ha] at hcI
      exact absurd hcI (by simp [tupO])
    have ha' := keepI a _ haI ha
    have hd' : h'.DictOf (PySem.strKind prog w) d (merged [] (kvs.take i)) := hd.at fun o e => keepI d o hdI e
    show wpAny _ A.in1 (holding [Value.ref a] _ >>= _) _ _ _
    refine wpAny_bind (wpAny_holding ?_)
    refine wpAny_bind (wpAny_tryCatch ?_)
    unfold Builtin.Dict.pairItems
    refine wpAny_bind (wpAny_typeOf (T := "tuple") ⟨_, ha', rfl⟩ ?_)
    rw [if_pos (by decide)]
    refine wpAny_bind (wpAny_seqItems ha' rfl ?_)
    refine wpAny_pure ?_
    show wpAny _ A.in1 (holding [Value.str k t, x] (dictSet d (.str k t) x)) _ _ _
    refine wpAny_holding (wpAny_dictSet_pairs (knd := PySem.strKind prog w) (k := k) (by simp [PySem.strKind, Value.isStrOf]) hd' (fun h2 hd2 hs2 => ?_) ?hz)
    case hz =>
      have := merged_length_le [] (kvs.take i)
      rw [List.length_take] at this
      have h0 : (List.length ([] : List (Str × Value))) = 0 := rfl
      rw [sizeLine_eq]; omega
    have keepD : ∀ b o, b ≠ d → b ≠ I → s.heap.get? b = some o → h2.get? b = some o := fun b o hb hbI e => (hs2.2 b hb).trans (keepI b o hbI e)
    obtain ⟨dd, hdd, hdc⟩ := Heap.dictOf_iff.mp hd
    refine wpAny_pure ⟨plainId_quiet plain_update_loop _, ih (i + 1) _ (by omega) ⟨hst'.1.at fun o e => (hs2.2 I (Ne.symm hdI)).trans e, hst'.2.at fun o e => (hs2.2 ax (Ne.symm hda)).trans e⟩ ?_ ?_ fun h3 tk3 hk3 hd3 => ?_⟩
    · rw [merged_take_succ [] kvs i (k, x) hk]; exact hd2
    · intro j v hv
      obtain ⟨a2, c2, k2, t2, x2, rfl, hk2, ha2⟩ := hp j v hv
      refine ⟨a2, c2, k2, t2, x2, rfl, hk2, keepD a2 _ ?_ ?_ ha2⟩
      · intro e
        rw [e, hdd] at ha2
        obtain ⟨es, ep, hc, _⟩ := hdc
        rw [Option.some.inj ha2] at hc
        exact absurd hc.1 (by simp [tupO])
      · intro e
        rw [e, hoI] at ha2
        rw [Option.some.inj ha2] at hcI
        exact absurd hcI (by simp [tupO])
    · exact hR h3 tk3 (fun b o hb hbI e => hk3 b o hb hbI (keepD b o hb hbI e)) hd3
/-- dict(a list of pairs): a new dict -/
theorem dict_pairs {h₀ : Heap} {L l : Addr} {m : Str → Option Value} {news : Led} {vs : List Value} {n : Nat} {kvs : List (Str × Value)} {Q : Value → Shared → Prop} (hh : A.handled = none) (F : Fr h₀ L s.heap m) (N : News h₀ L s.heap news) (hm : (l, lstO vs n) ∈ news) (hp : PairsAt s.heap vs kvs) (hlen : kvs.length = vs.length) (hn : vs.length ≤ 1000)
    (h : ∀ D h' tk o, Fr h₀ L h' m → News h₀ L h' ((D, o) :: news) → (∀ p ∈ news, p.1 < D) → o.IsDictOf (PySem.strKind prog w) (merged [] kvs) → Q (.ref D) { s with heap := h', toks := tk }) :
    wpAny (model prog w) A (call (.type "dict") [.ref l]) Q E s := by
  refine callType_codes (Q₁ := fun obj s₁ => obj = .ref s.heap.objs.size ∧ s₁ = { s with heap := s.heap.push { cls := .type "dict", data := .dict #[] } }) PySem.F.kt_called_dict (PySem.F.kt_typeCall_dict_1 _) PySem.F.entry_dict_init (kt_code_dict_new _ ⟨rfl, rfl⟩) ?_
  rintro obj s₁ ⟨rfl, rfl⟩
  have hnew : (s.heap.push { cls := .type "dict", data := .dict #[] }).DictOf (PySem.strKind prog w) s.heap.objs.size [] := Heap.DictOf.new s.heap
  have hl := (N _ hm).1
  have hl1 : (s.heap.push { cls := .type "dict", data := .dict #[] }).get? l = some (lstO vs n) := Heap.get?_push_of_some _ hl
  refine ⟨hnew.typeIs, PySem.F.args_dict_init_2 _ _, ?_⟩
  unfold Builtin.«dict.__init__»
  refine wpAny_bind ?_
  unfold Builtin.Dict.selfAndRest
  refine wpAny_bind (wpAny_notOrdered_dict hnew.typeIs ?_)
  show wpAny _ _ (pure (s.heap.objs.size, [Value.ref l])) _ _ _
  refine wpAny_pure ?_
  show wpAny _ _ (Builtin.Dict.updateFrom "dict.__init__" s.heap.objs.size (.ref l) [] .none) _ _ _
  unfold Builtin.Dict.updateFrom
  refine wpAny_bind (wpAny_typeOf (T := "list") ⟨_, hl1, rfl⟩ ?_)
  rw [if_pos (by decide)]
  refine wpAny_bind (list_no_keys (xs := vs.toArray) (k := n) hl1 hh fun h1 tk1 k1 => ?_)
  rw [if_pos (show (none : Option Value).isNone = true from rfl)]
  refine wpAny_bind (wpAny_rule ?_)
  have hl2 := k1 _ _ hl1
  refine wpAny_bind (wpAny_pyIter_list ⟨_, hl2, rfl, _, rfl⟩ ?_)
  have lt1 : l < s.heap.objs.size := Heap.lt_size hl
  obtain ⟨oD, hoD, hoDD⟩ := Heap.dictOf_iff.mp hnew
  have hD1 := k1 _ _ hoD
  have lt2 : s.heap.objs.size < h1.objs.size := Heap.lt_size hD1
  refine wpAny_pure ⟨plainId_quiet plain_update_loop _, update_loop (A := A.in1) hh (Nat.ne_of_lt (Nat.lt_trans lt1 lt2)) (Nat.ne_of_lt lt2) (Nat.ne_of_gt lt1) hn hlen vs.length 0 _ (Nat.zero_add _) ⟨⟨_, Heap.get?_push_size _ rfl, rfl, rfl⟩, ⟨_, Heap.get?_push_of_some _ hl2, rfl, _, rfl⟩⟩ ?_ ?_ fun h' tk hk hd' => ?_⟩
  · exact ((hnew.at fun o e => k1 _ _ e).push _)
  · intro i v hv
    obtain ⟨a, c, k, t, x, rfl, hk, ha⟩ := hp i v hv
    exact ⟨a, c, k, t, x, rfl, hk, Heap.get?_push_of_some _ (k1 _ _ (Heap.get?_push_of_some _ ha))⟩
  · refine ⟨rfl, ?_⟩
    obtain ⟨o', ho', hd2⟩ := Heap.dictOf_iff.mp hd'
    have keep : ∀ b o, s.heap.get? b = some o → h'.get? b = some o := fun b o e =>
      hk b o (Nat.ne_of_lt (Heap.lt_size e)) (Nat.ne_of_lt (Nat.lt_trans (Heap.lt_size e) lt2)) (Heap.get?_push_of_some _ (k1 _ _ (Heap.get?_push_of_some _ e)))
    have N1 := News.push F N { cls := .type "dict", data := .dict #[] }
    refine h _ _ _ o' (F.after keep) ?_ (fun p hp => Heap.lt_size (N p hp).1) hd2
    intro p hp
    rcases List.mem_cons.mp hp with rfl | hp
    · exact ⟨ho', (N1 _ (.head _)).2⟩
    · exact ⟨keep _ _ (N p hp).1, (N p hp).2⟩
end
end DictPText
section CmpText
section
variable {prog : Program} {w : World} {A : Around} {E : Value → Shared → Prop} {s : Shared}
theorem ne_alike {a b : Addr} {vs ws : List Value} {n k : Nat} {h₀ : Heap} {L : Addr} {news : Led} {Q : Value → Shared → Prop} (N : News h₀ L s.heap news) (ha : (a, lstO vs n) ∈ news) (hb : (b, lstO ws k) ∈ news) (hlen : vs.length = ws.length) (hu : A.units < cLine)
    (he : ∀ (j : Nat) (x y : Value), vs[j]? = some x → ws[j]? = some y → SeqAt.EqAt A.in1 s x y true) (h : Q (.bool false) s) : wpAny (model prog w) A (compareOp .NotEq (.ref a) (.ref b)) Q E s := by
  refine SeqAt.RcNeAt.lists (items := vs.toArray) (items2 := ws.toArray) (e := fun _ => true) ⟨_, (N _ ha).1, rfl, _, rfl⟩ ⟨_, (N _ hb).1, rfl, _, rfl⟩ (by simpa using hlen) hu (fun j h1 h2 => ?_) prog w E Q ?_
  · exact he j _ _ (by simp at h1 ⊢) (by simp at h2 ⊢)
  · have : (List.range vs.toArray.size).all (fun _ => true) = true := by simp
    rw [this]; exact h
theorem ne_same {a b : Addr} {vs : List Value} {n k : Nat} {h₀ : Heap} {L : Addr} {news : Led} {Q : Value → Shared → Prop} (N : News h₀ L s.heap news) (ha : (a, lstO vs n) ∈ news) (hb : (b, lstO vs k) ∈ news) (hu : A.units < cLine) (h : Q (.bool false) s) : wpAny (model prog w) A (compareOp .NotEq (.ref a) (.ref b)) Q E s :=
  ne_alike N ha hb rfl hu (fun j x y hx hy => by rw [hx] at hy; cases hy; exact SeqAt.EqAt.same x) h
theorem strs_at : ∀ {vs : List Value} {ns : List Str} {j : Nat} {x : Value}, StrsAre vs ns → vs[j]? = some x → ∃ nm t, x = .str nm t ∧ ns[j]? = some nm
  | _, _, 0, _, .cons nm t _, h => ⟨nm, t, by simpa using h.symm, rfl⟩
  | _, _, j + 1, _, .cons _ _ r, h => by simpa using strs_at r (by simpa using h)
theorem ne_strs {a b : Addr} {vs ws : List Value} {n k : Nat} {ns : List Str} {h₀ : Heap} {L : Addr} {news : Led} {Q : Value → Shared → Prop} (N : News h₀ L s.heap news) (ha : (a, lstO vs n) ∈ news) (hb : (b, lstO ws k) ∈ news) (hv : StrsAre vs ns) (hw : StrsAre ws ns) (hu : A.units < cLine) (h : Q (.bool false) s) : wpAny (model prog w) A (compareOp .NotEq (.ref a) (.ref b)) Q E s :=
  ne_alike N ha hb ((strs_len hv).trans (strs_len hw).symm) hu (fun j x y hx hy => by
    obtain ⟨nm, t, rfl, h1⟩ := strs_at hv hx
    obtain ⟨nm', t', rfl, h2⟩ := strs_at hw hy
    rw [h1] at h2
    cases h2
    have := SeqAt.EqAt.str_str (A := A.in1) (s := s) nm t nm t'
    rwa [beq_self_eq_true] at this) h
end
section
variable {prog : Program} {w : World} {A : Around} {E : Value → Shared → Prop} {s : Shared} {env : Env} {h₀ : Heap} {x : Str} {body : List Stmt} {Q : Flow → Shared → Prop}
/-- one turn's end of a loop over a range -/
def RngEnd (h₀ : Heap) (L I : Addr) (oI : Obj) (J : (Str → Option Value) → Led → Prop) (s : Shared) (f : Flow) (s' : Shared) : Prop :=
  f = .next ∧ UnrEnd h₀ L s I oI J s'
theorem RngEnd.mk {L I : Addr} {oI : Obj} {J : (Str → Option Value) → Led → Prop} {h' : Heap} {tk' : Nat} {m' : Str → Option Value} (tl' : Led) (F : Fr h₀ L h' m') (N : News h₀ L h' ((I, oI) :: tl')) (ho : ∀ p ∈ tl', p.1 ≠ I) (hJ : J m' tl') :
    RngEnd h₀ L I oI J s .next { s with heap := h', toks := tk' } := ⟨rfl, h', tk', m', tl', rfl, F, N, ho, hJ⟩
theorem range_rest {I : Addr} {n : Nat} (J : Nat → (Str → Option Value) → Led → Prop)
    (step : Hold (∀ i t oI m₁ news₁ h tk, i < n → J i m₁ news₁ → Fr h₀ env.locals h (fun y => if y = x then some (.int (i : Int) t) else m₁ y) → News h₀ env.locals h ((I, oI) :: news₁) → (∀ p ∈ news₁, p.1 ≠ I) →
      wpAny (model prog w) A (execs body env) (RngEnd h₀ env.locals I oI (J (i + 1)) { s with heap := h, toks := tk }) E { s with heap := h, toks := tk }))
    (done : Hold (∀ h tk m' news', Fr h₀ env.locals h m' → News h₀ env.locals h news' → J n m' news' → Q .next { s with heap := h, toks := tk })) :
    ∀ (k i : Nat) (m : Str → Option Value) (news : Led), i + k = n → J i m news → (∀ p ∈ news, p.1 ≠ I) → RangeRest prog w A E h₀ env x body Q s I 0 n k i m news
  | 0, i, m, news, e, hJ, _ => RangeRest.zero fun h tk F N => done.it h tk m news F N (e ▸ hJ)
  | k + 1, i, m, news, e, hJ, off => by
    refine RangeRest.succ fun t h tk F N => ?_
    rw [Int.zero_add] at F
    refine wpAny_mono (step.it i t _ m news h tk (by omega) hJ F N off) (fun f s' hq => ?_) fun _ _ e => e
    obtain ⟨rfl, h', tk', m', news', rfl, F', N', off', hJ'⟩ := hq
    exact ⟨h', tk', m', news', rfl, F', N', off', range_rest J step done k (i + 1) m' news' (by omega) hJ' off'⟩
theorem range_inv {r L : Addr} {b₀ : Int} {t₀ u₀ v₀ : Tok} {n : Nat} {m₀ : Str → Option Value} {news : Led} (hh : A.handled = none) (hLe : env.locals = L) (hr : IsRange s.heap r 0 b₀ 1 t₀ u₀ v₀) (hsmall : Builtin.Range.small 0 b₀ 1 = true) (hn : Builtin.Range.rangeSize 0 b₀ 1 = (n : Int)) (F : Fr h₀ L s.heap m₀) (N : News h₀ L s.heap news)
    (J : Nat → (Str → Option Value) → Led → Prop) (h0 : J 0 m₀ news)
    (hE : PassesOwn (model prog w) A env E) (step : Hold (∀ I i t oI m₁ news₁ h tk (E' : Value → Shared → Prop), PassesOwn (model prog w) A env E' → i < n → J i m₁ news₁ → Fr h₀ L h (fun y => if y = x then some (.int (i : Int) t) else m₁ y) → News h₀ L h ((I, oI) :: news₁) → (∀ p ∈ news₁, p.1 ≠ I) →
      wpAny (model prog w) A (execs body env) (RngEnd h₀ L I oI (J (i + 1)) { s with heap := h, toks := tk }) E' { s with heap := h, toks := tk }))
    (done : Hold (∀ h tk m' news', Fr h₀ L h m' → News h₀ L h news' → J n m' news' → Q .next { s with heap := h, toks := tk })) :
    wpAny (model prog w) A (pyIter (.ref r)) (fun it s₂ => LoopAtV prog w A h₀ env x body Q E it s₂) E s := by
  subst hLe
  exact iter_rangeUnr hh hr hsmall hn F N fun I hI => range_rest J ⟨fun i t oI m₁ news₁ h tk => step.it I i t oI m₁ news₁ h tk E hE⟩ done n 0 m₀ news (Nat.zero_add n) h0 fun p hp => Nat.ne_of_lt (hI p hp)

theorem tup_rest {I l : Addr} {news : Led} {vs : List Value} {n : Nat} {T : String} {target : Expr} (hm : (l, tupO vs n) ∈ news) (hI : ∀ p ∈ news, p.1 < I)
    (J : Nat → (Str → Option Value) → Led → Prop)
    (step : ∀ i v oI m₁ tl h tk, vs[i]? = some v → J i m₁ tl → (∀ p ∈ tl ++ news, p.1 ≠ I) → Fr h₀ env.locals h m₁ → News h₀ env.locals h ((I, oI) :: (tl ++ news)) →
      wpAny (model prog w) A (assign target env v) (fun _ s₂ => wpAny (model prog w) A (execs body env) (TurnEnd h₀ env.locals I oI news (fun m tl _ => J (i + 1) m tl) { s with heap := h, toks := tk } Q) E s₂) E { s with heap := h, toks := tk })
    (done : ∀ h tk m' tl, Fr h₀ env.locals h m' → News h₀ env.locals h (tl ++ news) → J vs.length m' tl → Q .next { s with heap := h, toks := tk }) :
    ∀ (rest : List Value) (i : Nat), vs.drop i = rest → i ≤ vs.length → ∀ m₁ tl, J i m₁ tl → (∀ p ∈ tl, p.1 ≠ I) → ItemsRest prog w A E h₀ env target body Q s [(I, T)] [(l, tupO vs n)] (rest.map .val) m₁ (tl ++ news)
  | [], i, hd, hi, m₁, tl, hJ, ho => by
    refine ItemsRest.zero fun h tk F N => ?_
    have : i = vs.length := by
      have := List.drop_eq_nil_iff.mp hd
      omega
    subst this
    exact done _ _ _ _ F N hJ
  | v :: rest, i, hd, hi, m₁, tl, hJ, ho => by
    have hlt : i < vs.length := by
      rcases Nat.lt_or_ge i vs.length with q | q
      · exact q
      · rw [List.drop_eq_nil_of_le q] at hd; cases hd
    have hv : vs[i]? = some v := by
      rw [List.drop_eq_getElem_cons hlt] at hd
      rw [List.getElem?_eq_getElem hlt]
      exact congrArg some (List.cons.inj hd).1
    have hd' : vs.drop (i + 1) = rest := by
      rw [List.drop_eq_getElem_cons hlt] at hd
      exact (List.cons.inj hd).2
    refine ItemsRest.val fun h tk F => ?_
    intro oI hoI N
    have hoff : ∀ p ∈ tl ++ news, p.1 ≠ I := fun p hp => (List.mem_append.mp hp).elim (ho p) fun hp => Nat.ne_of_lt (hI p hp)
    refine wpAny_mono (step i v oI m₁ tl h tk hv hJ hoff F N) (fun _ s₂ h₂ => wpAny_mono h₂ (fun f s₃ h₃ => ?_) fun _ _ e => e) fun _ _ e => e
    cases f with
    | ret v => exact h₃
    | brk => exact h₃.elim
    | cont => exact h₃.elim
    | next =>
      obtain ⟨h', tk', m', tl', rfl, F', N', ho', hJ'⟩ := h₃
      refine ⟨h', tk', m', tl' ++ news, rfl, F', N', ?_, ⟨(And.intro (List.mem_append.mpr (.inr hm)) trivial), tup_rest hm hI J step done rest (i + 1) hd' hlt m' tl' hJ' ho'⟩⟩
      intro p hp q hq
      rw [List.mem_singleton.mp hq]
      exact (List.mem_append.mp hp).elim (ho' p) fun hp => Nat.ne_of_lt (hI p hp)
/-- for over a tuple of the ledger -/
theorem for_tup {L l : Addr} {news tl₀ : Led} {vs : List Value} {n : Nat} {target : Expr} {m₀ : Str → Option Value} (hh : A.handled = none) (hLe : env.locals = L) (F : Fr h₀ L s.heap m₀) (N : News h₀ L s.heap (tl₀ ++ news)) (hm : (l, tupO vs n) ∈ news)
    (J : Nat → (Str → Option Value) → Led → Prop) (h0 : J 0 m₀ tl₀)
    (step : Hold (∀ i v I oI m₁ tl h tk, vs[i]? = some v → J i m₁ tl → (∀ p ∈ tl ++ news, p.1 ≠ I) → Fr h₀ L h m₁ → News h₀ L h ((I, oI) :: (tl ++ news)) →
      wpAny (model prog w) A (assign target env v) (fun _ s₂ => wpAny (model prog w) A (execs body env) (TurnEnd h₀ L I oI news (fun m tl _ => J (i + 1) m tl) { s with heap := h, toks := tk } Q) E s₂) E { s with heap := h, toks := tk }))
    (done : Hold (∀ h tk m' tl, Fr h₀ L h m' → News h₀ L h (tl ++ news) → J vs.length m' tl → Q .next { s with heap := h, toks := tk })) :
    wpAny (model prog w) A (pyIter (.ref l)) (fun it s₂ => TurnsAt prog w A h₀ env target body Q E it s₂) E s := by
  subst hLe
  exact iter_tupTurns hh F N (List.mem_append.mpr (.inr hm)) rfl rfl fun I hI => tup_rest hm (fun p hp => hI p (List.mem_append.mpr (.inr hp))) J (fun i v oI m₁ tl h tk a b c d e => step.it i v I oI m₁ tl h tk a b c d e) done.it vs 0 rfl (Nat.zero_le _) m₀ tl₀ h0 fun p hp => Nat.ne_of_lt (hI p (List.mem_append.mpr (.inl hp)))
end
def pickV (b : Val → Bool) : List Value → List Val → List Value
  | v :: vs, x :: xs => if b x then v :: pickV b vs xs else pickV b vs xs
  | _, _ => []
theorem pickV_step {b : Val → Bool} : ∀ {vs : List Value} {xs : List Val} {i : Nat} {v : Value} {x : Val}, vs[i]? = some v → xs[i]? = some x → pickV b (vs.take (i + 1)) (xs.take (i + 1)) = if b x then pickV b (vs.take i) (xs.take i) ++ [v] else pickV b (vs.take i) (xs.take i)
  | v' :: vs, x' :: xs, 0, v, x, h, k => by
    simp only [List.getElem?_cons_zero, Option.some.injEq] at h k
    subst h k
    simp [pickV]
  | v' :: vs, x' :: xs, i + 1, v, x, h, k => by
    simp only [List.getElem?_cons_succ] at h k
    simp only [List.take_succ_cons, pickV, pickV_step (b := b) h k]
    split <;> split <;> simp
  | [], _, _, _, _, h, _ => by simp at h
  | _ :: _, [], _, _, _, _, k => by simp at k
theorem pickV_len {b : Val → Bool} : ∀ {vs : List Value} {xs : List Val}, vs.length = xs.length → (pickV b vs xs).length = (xs.filter b).length
  | [], [], _ => rfl
  | v :: vs, x :: xs, h => by
    have := pickV_len (b := b) (vs := vs) (xs := xs) (by simpa using h)
    simp only [pickV, List.filter_cons]
    split <;> simp [this]
theorem pickV_eq {b b' : Val → Bool} : ∀ {vs : List Value} {xs : List Val}, (∀ x ∈ xs, b x = b' x) → pickV b vs xs = pickV b' vs xs
  | v :: vs, x :: xs, h => by
    simp only [pickV, h x List.mem_cons_self, pickV_eq (vs := vs) fun y hy => h y (List.mem_cons_of_mem _ hy)]
  | [], _, _ => by simp [pickV]
  | _ :: _, [], _ => by simp [pickV]
theorem vals_len2 {news : Led} : ∀ {vs : List Value} {xs : List Val}, ValsIn news vs xs → vs.length = xs.length
  | _, _, .nil => rfl
  | _, _, .cons _ r => congrArg (· + 1) (vals_len2 r)
theorem grow {h₀ h : Heap} {L c : Addr} {o : Obj} {W tl : Led} (N : News h₀ L h (((c, o) :: W) ++ tl)) (ap : ∀ q ∈ (c, o) :: W, ∀ p ∈ tl, q.1 ≠ p.1) (off : ∀ p ∈ W, p.1 ≠ c) :
    ∃ W' : Led, (∀ q ∈ W, q ∈ W') ∧ (∀ q ∈ tl, q ∈ W') ∧ News h₀ L h ((c, o) :: W') ∧ (∀ p ∈ W', p.1 ≠ c) :=
  ⟨W ++ tl, fun q hq => List.mem_append.mpr (.inl hq), fun q hq => List.mem_append.mpr (.inr hq), N, fun p hp => (List.mem_append.mp hp).elim (off p) fun hp => Ne.symm (ap (c, o) List.mem_cons_self p hp)⟩
/-- what stands from the drawn pattern on -/
structure LW (W : Led) (p : Value) (P : Pat) (lb : Addr × Obj) (cq : Addr × Obj) (it : Addr × Obj) : Prop where
  pat : PatIn W p P
  lab : lb ∈ W
  cel : cq ∈ W
  itr : it ∈ W
theorem LW.mono {W W' : Led} {p : Value} {P : Pat} {lb cq it : Addr × Obj} (hs : ∀ q ∈ W, q ∈ W') (h : LW W p P lb cq it) : LW W' p P lb cq it := ⟨h.pat.mono hs, hs _ h.lab, hs _ h.cel, hs _ h.itr⟩
end CmpText
section Law2Text
def PL (tl : Led) (ys : List Value) (kvs : List (Str × Value)) : Prop := kvs.length = ys.length ∧ ∀ (i : Nat) (v : Value), ys[i]? = some v → ∃ (a : Addr) (c : Nat) (k : Str) (t : Tok) (x : Value), v = .ref a ∧ kvs[i]? = some (k, x) ∧ (a, tupO [.str k t, x] c) ∈ tl
theorem PL.nil {tl : Led} : PL tl [] [] := ⟨rfl, fun i v h => by simp at h⟩
theorem PL.snoc {tl tl' : Led} {ys : List Value} {kvs : List (Str × Value)} {a : Addr} {c : Nat} {k : Str} {t : Tok} {x : Value} (h : PL tl ys kvs) (hs : ∀ q ∈ tl, q ∈ tl') (hm : (a, tupO [.str k t, x] c) ∈ tl') : PL tl' (ys ++ [.ref a]) (kvs ++ [(k, x)]) := by
  refine ⟨by simp [h.1], fun i v hv => ?_⟩
  by_cases hi : i < ys.length
  · rw [List.getElem?_append_left hi] at hv
    obtain ⟨a, c, k, t, x, e, e2, m⟩ := h.2 i v hv
    exact ⟨a, c, k, t, x, e, by rw [List.getElem?_append_left (by rw [h.1]; exact hi)]; exact e2, hs _ m⟩
  · have he : i = ys.length := by
      have := (List.getElem?_eq_some_iff.mp hv).1
      simp at this; omega
    subst he
    simp at hv
    exact ⟨a, c, k, t, x, hv.symm, by rw [← h.1]; simp, hm⟩
theorem PL.at_ {h₀ h : Heap} {L : Addr} {tl news : Led} {ys : List Value} {kvs : List (Str × Value)} (p : PL tl ys kvs) (N : News h₀ L h news) (hs : ∀ q ∈ tl, q ∈ news) : PairsAt h ys kvs := fun i v hv => by
  obtain ⟨a, c, k, t, x, e, e2, m⟩ := p.2 i v hv
  exact ⟨a, c, k, t, x, e, e2, (N _ (hs _ m)).1⟩
def InvF (f : Str → Str) (kvs : List (Str × Value)) : Prop := ∀ kv ∈ kvs, ∃ t, kv.2 = .str (f kv.1) t
theorem stored_inv {f : Str → Str} {acc : List (Str × Value)} {k : Str} {t : Tok} (h : InvF f acc) : InvF f (stored acc k (.str (f k) t)) := by
  intro kv hk
  unfold stored at hk
  split at hk
  · obtain ⟨kv', h', rfl⟩ := List.mem_map.mp hk
    split
    · rename_i e; exact ⟨t, by rw [← e]⟩
    · exact h kv' h'
  · rcases List.mem_append.mp hk with hk | hk
    · exact h kv hk
    · rw [List.mem_singleton.mp hk]; exact ⟨t, rfl⟩
theorem stored_keys {acc : List (Str × Value)} {k nm : Str} {v : Value} (h : nm ∈ acc.map (·.1) ∨ nm = k) : nm ∈ (stored acc k v).map (·.1) := by
  unfold stored
  split
  · rename_i ha
    have e : (acc.map fun kv => if kv.1 = k then (kv.1, v) else kv).map (·.1) = acc.map (·.1) := by
      rw [List.map_map]
      refine List.map_congr_left fun kv _ => ?_
      simp only [Function.comp]
      split <;> rfl
    rw [e]
    rcases h with h | rfl
    · exact h
    · obtain ⟨kv, hk, e⟩ := List.any_eq_true.mp ha
      exact List.mem_map.mpr ⟨kv, hk, of_decide_eq_true e⟩
  · rw [List.map_append, List.mem_append]
    rcases h with h | rfl
    · exact .inl h
    · exact .inr (by simp)
theorem merged_inv {f : Str → Str} : ∀ (kvs acc : List (Str × Value)), InvF f acc → InvF f kvs → InvF f (merged acc kvs) ∧ ∀ nm, (nm ∈ acc.map (·.1) ∨ nm ∈ kvs.map (·.1)) → nm ∈ (merged acc kvs).map (·.1)
  | [], acc, h, _ => ⟨h, fun nm hn => hn.elim id fun h => by simp at h⟩
  | (k, v) :: r, acc, h, g => by
    obtain ⟨t, ht⟩ := g (k, v) List.mem_cons_self
    simp only at ht
    subst ht
    have ih := merged_inv r (stored acc k (.str (f k) t)) (stored_inv h) fun kv hk => g kv (List.mem_cons_of_mem _ hk)
    refine ⟨ih.1, fun nm hn => ih.2 nm ?_⟩
    rcases hn with hn | hn
    · exact .inl (stored_keys (.inl hn))
    · rcases List.mem_cons.mp hn with e | hn
      · exact .inl (stored_keys (.inr e))
      · exact .inr hn
theorem merged_at {f : Str → Str} {kvs : List (Str × Value)} (h : InvF f kvs) {nm : Str} (hn : nm ∈ kvs.map (·.1)) : ∃ t, valueAt (merged [] kvs) nm = some (.str (f nm) t) := by
  obtain ⟨i1, i2⟩ := merged_inv kvs [] (fun _ h => nomatch h) h
  have hm := i2 nm (.inr hn)
  unfold valueAt
  cases e : (merged [] kvs).find? fun kv => decide (kv.1 = nm) with
  | none =>
    obtain ⟨kv, hk, e2⟩ := List.mem_map.mp hm
    exact absurd e2 (by simpa using List.find?_eq_none.mp e kv hk)
  | some kv =>
    have h1 : kv.1 = nm := by simpa using List.find?_some (p := fun kv : Str × Value => decide (kv.1 = nm)) e
    obtain ⟨t, ht⟩ := i1 kv (List.mem_of_find?_eq_some e)
    exact ⟨t, by simp [ht, h1]⟩
/-- neither a tuple nor a list pattern -/
def noTL : Pat → Prop
  | .tup _ => False | .lst _ => False | _ => True
theorem spr_noTL (P : Pat) : noTL (spr P) := by
  cases P with
  | lst ps => cases ps <;> exact trivial
  | _ => exact trivial
section
variable {w : World} {A : Around} {E : Value → Shared → Prop} {s : Shared} {h₀ : Heap} {L t : Addr} {m : Str → Option Value} {news : Led} {n : Nat} {Q : Value → Shared → Prop}
theorem isin_inst {p d : Addr} {od : Obj} {c : Addr} {b : Bool} (F : Fr h₀ L s.heap m) (N : News h₀ L s.heap news) (X : (hd.heap_39 w.params).In h₀) (m1 : (p, instObj c d) ∈ news) (m2 : (d, od) ∈ news) (mt : (t, tupO [.ref 180, .ref 207] n) ∈ news) (o : OwnC (hd.heap_39 w.params) c) (e : kitAny (hd.heap_39 w.params) (.ref c) [.ref 180, .ref 207] = some b)
    (h : ∀ tk, Q (.bool b) { s with toks := tk }) : wpAny (model PG w) A (call (.builtin "isinstance") [.ref p, .ref t]) Q E s :=
  kia_tup (kitx_own o.a o.b o.c o.d o.e o.f) (X.keeps F.keep) (InstAt.of_news (h₀ := h₀) (L := L) N m1 m2) (N _ mt).1 e (by intro q; cases q) h
theorem fill_l2 (w : World) : PySem.Challenge.rw_og0007_01.row.prog = PySem.Challenge.rw_og0007_01.row.prog ∧ hd.heap_39 w.params = hd.heap_39 w.params := by
  k_fill
  exact ⟨rfl, rfl⟩
theorem kits (w : World) : kitAny (hd.heap_39 w.params) (.ref 72) [.ref 180, .ref 207] = some false ∧ kitAny (hd.heap_39 w.params) (.ref 99) [.ref 180, .ref 207] = some false ∧ kitAny (hd.heap_39 w.params) (.ref 126) [.ref 180, .ref 207] = some false ∧ kitAny (hd.heap_39 w.params) (.ref 153) [.ref 180, .ref 207] = some false ∧ kitAny (hd.heap_39 w.params) (.ref 234) [.ref 180, .ref 207] = some false ∧ kitAny (hd.heap_39 w.params) (.ref 261) [.ref 180, .ref 207] = some false ∧ kitAny (hd.heap_39 w.params) (.ref 288) [.ref 180, .ref 207] = some false := by
  w_on
  refine ⟨?_, ?_, ?_, ?_, ?_, ?_, ?_⟩ <;> kit_is
theorem isin_not {v : Value} {P : Pat} (hP : noTL P) (F : Fr h₀ L s.heap m) (N : News h₀ L s.heap news) (X : (hd.heap_39 w.params).In h₀) (hp : PatIn news v P) (mt : (t, tupO [.ref 180, .ref 207] n) ∈ news)
    (h : ∀ tk, Q (.bool false) { s with toks := tk }) : wpAny (model PG w) A (call (.builtin "isinstance") [v, .ref t]) Q E s := by
  obtain ⟨k1, k2, k3, k4, k5, k6, k7⟩ := kits w
  cases hp with
  | wild a b => exact isin_inst F N X a b mt (own99 w) k2 h
  | var a b => exact isin_inst F N X a b mt (own72 w) k1 h
  | lit a b => exact isin_inst F N X a b mt (own126 w) k3 h
  | con a b _ _ => exact isin_inst F N X a b mt (own153 w) k4 h
  | tup _ _ _ _ => exact hP.elim
  | lst _ _ _ _ => exact hP.elim
  | as_ a b _ => exact isin_inst F N X a b mt (own234 w) k5 h
  | lazy a b _ => exact isin_inst F N X a b mt (own261 w) k6 h
  | bang a b _ => exact isin_inst F N X a b mt (own288 w) k7 h
end
theorem growN {h₀ h : Heap} {L c : Addr} {o : Obj} {W tl : Led} (N : News h₀ L h (((c, o) :: W) ++ tl)) (lt : ∀ q ∈ (c, o) :: W, ∀ p ∈ tl, q.1 < p.1) (off : ∀ p ∈ W, p.1 ≠ c) :
    ∃ W' : Led, (∀ q ∈ W, q ∈ W') ∧ (∀ q ∈ ((c, o) :: W) ++ tl, q ∈ (c, o) :: W') ∧ News h₀ L h ((c, o) :: W') ∧ (∀ p ∈ W', p.1 ≠ c) :=
  ⟨W ++ tl, fun q hq => List.mem_append.mpr (.inl hq), fun _ h => h, N, fun p hp => (List.mem_append.mp hp).elim (off p) fun hp => Nat.ne_of_gt (lt (c, o) List.mem_cons_self p hp)⟩
theorem addW {h₀ h : Heap} {L c : Addr} {o : Obj} {q : Addr × Obj} {W : Led} (N : News h₀ L h (q :: (c, o) :: W)) (hq : q.1 ≠ c) (off : ∀ p ∈ W, p.1 ≠ c) :
    ∃ W' : Led, (∀ x ∈ W, x ∈ W') ∧ q ∈ W' ∧ News h₀ L h ((c, o) :: W') ∧ (∀ p ∈ W', p.1 ≠ c) :=
  ⟨q :: W, fun x hx => List.mem_cons_of_mem _ hx, List.mem_cons_self, news_sub N (fun x hx => by simp only [List.mem_cons] at hx ⊢; grind), fun p hp => (List.mem_cons.mp hp).elim (fun e => e ▸ hq) (off p)⟩
mutual
theorem size_ren (f : Str → Str) : ∀ p : Pat, (ren f p).size = p.size
  | .wild => rfl | .var _ => rfl | .lit _ => rfl
  | .con _ ps => by simp only [ren, Pat.size, sizes_ren f ps]
  | .tup ps => by simp only [ren, Pat.size, sizes_ren f ps]
  | .lst ps => by simp only [ren, Pat.size, sizes_ren f ps]
  | .as_ _ p => by simp only [ren, Pat.size, size_ren f p]
  | .lazy p => by simp only [ren, Pat.size, size_ren f p]
  | .bang p => by simp only [ren, Pat.size, size_ren f p]
theorem sizes_ren (f : Str → Str) : ∀ ps : List Pat, Pat.sizes (rens f ps) = Pat.sizes ps
  | [] => rfl
  | p :: ps => by simp only [rens, Pat.sizes, size_ren f p, sizes_ren f ps]
end
theorem size_spr (p : Pat) : (spr p).size ≤ p.size + 3 := by
  cases p with
  | lst ps => cases ps <;> simp [spr, Pat.size, Pat.sizes]; omega
  | _ => simp [spr, Pat.size]
mutual
theorem okf_ren (f : Str → Str) : ∀ (p : Pat) (v : Val), Okf p v → Okf (ren f p) v
  | .wild, _, h => h | .var _, _, _ => trivial | .lit _, _, h => h
  | .lazy _, _, _ => trivial
  | .as_ _ p, v, h => by simp only [ren, Okf] at h ⊢; exact okf_ren f p v h
  | .bang p, v, h => by simp only [ren, Okf] at h ⊢; exact okf_ren f p v h
  | .con n ps, .con m vs, h => by simp only [ren, Okf] at h ⊢; exact fun e => okZ_ren f ps vs (h e)
  | .con n ps, .int i, h => by simp only [Okf] at h
  | .tup ps, .con _ vs, h => by simp only [ren, Okf] at h ⊢; exact okZ_ren f ps vs h
  | .tup ps, .int i, h => by simp only [Okf] at h
  | .lst ps, v, h => by simp only [ren, Okf] at h ⊢; exact okL_ren f ps v h
theorem okZ_ren (f : Str → Str) : ∀ (ps : List Pat) (vs : List Val), OkZ ps vs → OkZ (rens f ps) vs
  | [], _, _ => trivial
  | p :: ps, [], _ => trivial
  | p :: ps, v :: vs, h => by simp only [rens, OkZ] at h ⊢; exact ⟨okf_ren f p v h.1, okZ_ren f ps vs h.2⟩
theorem okL_ren (f : Str → Str) : ∀ (ps : List Pat) (v : Val), OkL ps v → OkL (rens f ps) v
  | [], .con _ _, _ => trivial
  | [], .int _, h => by simp only [OkL] at h
  | p :: ps, .int _, h => by simp only [OkL] at h
  | p :: ps, .con m vs, h => by
    simp only [rens, OkL] at h ⊢
    intro e
    obtain ⟨a, b, e1, h1, h2⟩ := h e
    exact ⟨a, b, e1, okf_ren f p a h1, okL_ren f ps b h2⟩
end
theorem okf_spr (p : Pat) (v : Val) (h : Okf p v) : Okf (spr p) v := by
  cases p with
  | tup ps =>
    cases v with
    | int i => simp only [Okf] at h
    | con m vs => simp only [spr, Okf] at h ⊢; exact fun _ => h
  | lst ps =>
    cases v with
    | int i => cases ps <;> simp only [Okf, OkL] at h
    | con m vs =>
      cases ps with
      | nil => simp only [spr, Okf]; exact fun _ => trivial
      | cons p ps =>
        simp only [spr, Okf, OkL] at h ⊢
        intro e
        obtain ⟨a, b, rfl, h1, h2⟩ := h e.symm
        simp only [OkZ, Okf]
        exact ⟨h1, h2, trivial⟩
  | _ => exact h
theorem Made.one {h₀ h : Heap} {L : Addr} {m : Str → Option Value} {s₀ : Shared} {news : Led} {q : Addr × Obj} {O : Led → Value → Prop} {v : Value} {tk : Nat} (F : Fr h₀ L h m) (N : News h₀ L h (q :: news)) (ap : ∀ x ∈ news, x.1 ≠ q.1) (o : O [q] v) : Made h₀ L m s₀ news O v { s₀ with heap := h, toks := tk } :=
  Made.mk [q] F (news_swap (A := [q]) N) (fun x hx y hy => by rw [List.mem_singleton.mp hy]; exact ap x hx) o
section
variable {prog : Program} {w : World} {A : Around} {E : Value → Shared → Prop} {s : Shared} {env : Env} {h₀ : Heap} {body : List Stmt} {Q : Flow → Shared → Prop}
/-- a turn's end where the loop's name is a cell c -/
def CellEnd (h₀ : Heap) (L : Addr) (m : Str → Option Value) (c : Addr) (W : Led) (s : Shared) (f : Flow) (s' : Shared) : Prop :=
  f = .next ∧ ∃ h' tk' o v, s' = { s with heap := h', toks := tk' } ∧ Fr h₀ L h' m ∧ News h₀ L h' ((c, o) :: W) ∧ o.data = .cell v
theorem CellEnd.mk {L c : Addr} {m : Str → Option Value} {W : Led} {h' : Heap} {tk' : Nat} {o : Obj} {v : Option Value} (F : Fr h₀ L h' m) (N : News h₀ L h' ((c, o) :: W)) (d : o.data = .cell v) : CellEnd h₀ L m c W s .next { s with heap := h', toks := tk' } := ⟨rfl, h', tk', o, v, rfl, F, N, d⟩
theorem for_tupC {L T c : Addr} {o : Obj} {v₀ : Option Value} {W : Led} {vs : List Value} {n : Nat} {target : Expr} {m₀ : Str → Option Value} (hh : A.handled = none) (hLe : env.locals = L) (F : Fr h₀ L s.heap m₀) (N : News h₀ L s.heap ((T, tupO vs n) :: (c, o) :: W)) (hT : @Ne Nat T c) (off : ∀ p ∈ W, p.1 ≠ c) (ho : o.data = .cell v₀)
    (step : Hold (∀ (i : Nat) (v : Value) (I : Addr) (oI ow : Obj) (vw : Option Value) (W' : Led) (h : Heap) (tk : Nat), vs[i]? = some v → ow.data = .cell vw → (∀ q ∈ W, q ∈ W') → (I, oI) ∈ W' → Fr h₀ L h m₀ → News h₀ L h ((c, ow) :: W') → (∀ p ∈ W', p.1 ≠ c) →
      wpAny (model prog w) A (assign target env v) (fun _ s₂ => wpAny (model prog w) A (execs body env) (CellEnd h₀ L m₀ c W' { s with heap := h, toks := tk }) E s₂) E { s with heap := h, toks := tk }))
    (done : Hold (∀ h tk ow vw, ow.data = .cell vw → Fr h₀ L h m₀ → News h₀ L h ((c, ow) :: W) → Q .next { s with heap := h, toks := tk })) :
    wpAny (model prog w) A (pyIter (.ref T)) (fun it s₂ => TurnsAt prog w A h₀ env target body Q E it s₂) E s := by
  refine for_tup (L := L) (news := (T, tupO vs n) :: W) (tl₀ := [(c, o)]) hh hLe F (news_sub N (fun q hq => by simp only [List.mem_cons, List.cons_append, List.nil_append] at hq ⊢; grind)) List.mem_cons_self (fun _ m tl => m = m₀ ∧ ∃ ow vw, tl = [(c, ow)] ∧ ow.data = .cell vw) ⟨rfl, o, v₀, rfl, ho⟩ ⟨?_⟩ ⟨?_⟩
  · intro i v I oI m₁ tl h tk hv hJ off5 F5 N5
    obtain ⟨rfl, ow, vw, rfl, ew⟩ := hJ
    have hcI := off5 (c, ow) (by simp)
    have hTI := off5 (T, tupO vs n) (by simp)
    refine wpAny_mono (step.it i v I oI ow vw ((I, oI) :: (T, tupO vs n) :: W) h tk hv ew (fun q hq => List.mem_cons_of_mem _ (List.mem_cons_of_mem _ hq)) List.mem_cons_self F5 (news_sub N5 (fun q hq => by simp only [List.mem_cons, List.cons_append, List.nil_append] at hq ⊢; grind)) ?_) (fun _ s₂ h₂ => wpAny_mono h₂ (fun f s₃ h₃ => ?_) fun _ _ e => e) fun _ _ e => e
    · intro p hp
      rcases List.mem_cons.mp hp with rfl | hp
      · exact Ne.symm hcI
      · rcases List.mem_cons.mp hp with rfl | hp
        · exact hT
        · exact off p hp
    · obtain ⟨rfl, h', tk', o', v', rfl, F', N', d'⟩ := h₃
      exact TurnEnd.mk [(c, o')] F' (news_sub N' (fun q hq => by simp only [List.mem_cons, List.cons_append, List.nil_append] at hq ⊢; grind)) (fun p hp => by rw [List.mem_singleton.mp hp]; exact hcI) ⟨rfl, o', v', rfl, d'⟩
  · intro h tk m' tl F5 N5 hJ
    obtain ⟨rfl, ow, vw, rfl, ew⟩ := hJ
    exact done.it h tk ow vw ew F5 (news_sub N5 (fun q hq => by simp only [List.mem_cons, List.cons_append, List.nil_append] at hq ⊢; grind))
end
end Law2Text
section LawText
open PyProof.Rows.LCg
set_option hygiene false
theorem POne.of {news : Led} {p : Value} {P : Pat} (h : PatIn news p P) : POne news [p] P := by
  obtain ⟨x, _, _, rfl, _, _⟩ := h.inst
  exact ⟨_, rfl, h⟩
theorem opqH {motive : Heap → Prop} (h : ∀ x, motive x) (n : Heap) : motive n := h n
theorem xz20 {n : Nat} (h : n ≤ 19) : 301 + 1 + (4 * n + 20) < 1000 := by omega
theorem xz20u {n : Nat} (h : n ≤ 19) : 4 + 3 + 8 * (4 * n + 20) < 9900 := by omega
theorem xz80 {n : Nat} (h : n ≤ 19) : 301 + 1 + (4 * n + 80) < 1000 := by omega
theorem xz80u {n : Nat} (h : n ≤ 19) : 4 + 3 + 8 * (4 * n + 80) < 9900 := by omega
theorem xs16 {n e : Nat} (h : n + 4 ≤ 5 * e) (h2 : e ≤ 4) : n ≤ 16 := by omega
theorem xc64 : 4 + 3 + 64 < cLine := by have hcL9 := cLine_is; omega
theorem xc80 : 4 + 3 + 80 < cLine := by have hcL9 := cLine_is; omega
theorem xcd {d : Nat} (h : d ≤ 2) : 4 + 3 + 8 * (20 * d + 20) < cLine := by have hcL9 := cLine_is; omega
theorem xv1 {d : Nat} (h : d ≤ 2) : 301 + 1 + (20 * (d + 1) + 20) < 1000 := by omega
theorem xv2 {d : Nat} (h : d ≤ 2) : 4 + 3 + 8 * (20 * (d + 1) + 20) < 9900 := by omega
theorem xd1 {d : Nat} {r : Int} (h : 1 + r = (d : Int)) : 1 + r + 1 = ((d + 1 : Nat) : Int) := by omega
theorem ints_len {vs : List Value} {ns : List Int} (h : IntsAre vs ns) : vs.length = ns.length := by
  induction h with
  | nil => rfl
  | cons n t r ih => exact congrArg (· + 1) ih
theorem law_range {b : Int} (h : b = 1 ∨ b = 2) : ∃ n : Nat, Builtin.Range.small 0 b 1 = true ∧ Builtin.Range.rangeSize 0 b 1 = (n : Int) ∧ n ≤ 2 := by
  rcases h with rfl | rfl
  · exact ⟨1, by decide, by decide, by decide⟩
  · exact ⟨2, by decide, by decide, by decide⟩
theorem m_form1 {m : Str → Option Value} {a : Str} {v1 : Value} (h1 : m a = some v1) : ∃ mf : Str → Option Value, m = fun y => if y = a then some v1 else mf y :=
  ⟨m, funext fun y => by by_cases e : y = a <;> simp [e, h1]⟩
structure LJ (L sl : Addr) (m : Str → Option Value) (news : Led) : Prop where
  it : ∃ (o1 o2 : Obj) (v1 v2 : Option Value), news = [(L + 1 + 1, o1), (L + 1, o2)] ∧ o1.data = .cell v1 ∧ o2.data = .cell v2 ∧ m (Str.ofString "script") = some (.ref sl)
local macro_rules | `(tactic| walk_at "my pr") => `(tactic| with_reducible first | assumption | exact And.left (by assumption) | exact And.left (And.right (by assumption)) | exact And.left (And.right (And.right (by assumption))) | exact And.left (And.right (And.right (And.right (by assumption)))) | exact And.left (And.right (And.right (And.right (And.right (by assumption))))) | exact And.left (And.right (And.right (And.right (And.right (And.right (by assumption)))))))
local macro_rules | `(tactic| k_ne) => `(tactic| first | exact neN (Nat.ne_of_lt (by walk_at "my pr")) | exact neN (Nat.ne_of_gt (by walk_at "my pr")) | (refine neN ?_; (try dsimp only); omega))
local macro_rules | `(tactic| walk_at "my steps") => `(tactic| (repeat' (first | (k_unfold; (try dsimp only)) | (walk1 <;> (try dsimp only)))))
local macro_rules | `(tactic| walk_at "execs cons") => `(tactic| first | ((with_reducible show wpAny _ _ _ _ _ (PySem.Shared.mk _ _ _ (_ + 1 + 1) _)); refine gen_toks ?_; intro tk) | ((try ((with_reducible rename Fr _ _ _ _ => F8); refine fr_let F8 ?_; clear F8; intro m8 F8)); (with_reducible refine wpAny_execs_cons ?_); (try dsimp only); refine let_Q ?_; intro qk))
local macro_rules | `(tactic| walk_at "my sub") => `(tactic| (intro q hq; first | exact hq | (simp only [List.mem_cons, List.mem_append, List.not_mem_nil, or_false, false_or] at hq ⊢; grind)))
local macro_rules | `(tactic| k_mem) => `(tactic| first | exact List.mem_cons_self | assumption | (refine List.mem_cons_of_mem _ ?_; k_mem) | (refine List.mem_append.mpr (.inr ?_); k_mem) | (refine List.mem_append.mpr (.inl ?_); k_mem))
local macro_rules | `(tactic| walk_at "my all") => `(tactic| (first | assumption | k_all))
local macro_rules | `(tactic| walk_at "my upd") => `(tactic| (first | (refine UpdF.head (by walk_at "my all")) | (refine UpdF.tail (by first | assumption | k_ne) (by walk_at "my upd"))))
local macro_rules | `(tactic| walk_at "storeName") => `(tactic| (k_here; k_dflt (refine' storeX_C ?sF ?sN ?sc ?sU ?sd ?_ ?sa ?sb; (case sa | sb => rfl); (case sF | sN => k_asm); (case sc => rfl); (case sU => walk_at "my upd"); (case sd => k_asm); k_whole; intro h' o' F' N' d'; (try dsimp only at N'); (try k_sweep))))
local macro_rules | `(tactic| walk_at "exec Assign cons ListComp") => `(tactic| (k_dflt (refine comp_setupA (by with_unfolding_all rfl) (by with_unfolding_all rfl) (by decide) (by rfl) (by decide) ?_)))
local macro_rules | `(tactic| walk_at "pyIter ref") => `(tactic| refine Hold.it ?_)
local macro_rules | `(tactic| walk_at "call builtin:len cons nil") => `(tactic| (k_dflt (refine lenL_at (by k_asm) (by k_mem) (by omega) ?_); intro t' tk'))
local macro_rules | `(tactic| walk_at "ite") => `(tactic| first | (refine ite_neg (by first | with_reducible assumption | (simp only [decide_eq_true_eq, beq_iff_eq]; with_reducible assumption)) ?_) | (refine ite_pos (by first | with_reducible assumption | (simp only [decide_eq_true_eq, beq_iff_eq]; with_reducible assumption)) ?_))
local macro_rules | `(tactic| walk_at "eval ListComp Tuple cons") => `(tactic| (k_dflt (refine LCg.ListComp_U (F₀ := by k_asm) (by with_unfolding_all rfl) (by decide) (by rfl) (by decide) (by rfl) ?_)))
local macro_rules | `(tactic| walk_at "eval ListComp BinOp cons") => `(tactic| (k_dflt (refine LCg.ListComp_U (F₀ := by k_asm) (by with_unfolding_all rfl) (by decide) (by rfl) (by decide) (by rfl) ?_)))
local macro_rules | `(tactic| walk_at "CompSrc Tuple nil ref") => `(tactic| refine Hold.it ?_)
local macro_rules | `(tactic| walk_at "CompSrc BinOp nil ref") => `(tactic| refine Hold.it ?_)
local macro_rules | `(tactic| walk_at "exec For Name Tuple cons nil") => `(tactic| (k_dflt (refine For_turns (by assumption) ?_ (hE := by assumption))))
local macro_rules | `(tactic| walk_at "eval ListComp Name cons") => `(tactic| (k_dflt (refine comp_setupE (by with_unfolding_all rfl) (by decide) (by rfl) (by decide) ?_)))
local macro_rules | `(tactic| walk_at "compareOp NotEq ref ref") => `(tactic| refine Hold.it ?_)
local macro_rules | `(tactic| walk_at "call type:dict cons nil") => `(tactic| refine Hold.it ?_)
local macro_rules | `(tactic| walk_at "call builtin:isinstance cons nil") => `(tactic| refine Hold.it ?_)
local macro_rules | `(tactic| walk_at "call ref nil nil") => `(tactic| refine Hold.it ?_)
local macro_rules | `(tactic| walk_at "call ref nil") => `(tactic| refine Hold.it ?_)
local macro_rules | `(tactic| walk_at "call ref cons nil") => `(tactic| refine Hold.it ?_)
set_option maxHeartbeats 2000000
theorem X : PySem.Challenge.rw_og0007_01.Holds := hd (by
  k_go0
  rename_i w s0 s1 mg mb G Y fa o pm doc ho hg KX X V GL T B TE TW a1 a2 M a3 a4 hcd xs hs hlay0 hLp hr0 hl2 a5 a6 sl vs as_ hL ra w1 r0 hI hr hc hc2 hB hD h1 tk1 F1 o1 o2 e1 e2 N0 X0
  clear ra w1 r0 hr hc2 hD
  try dsimp only [PyProof.Rows.Top.heap] at F1
  try dsimp only [PyProof.Rows.Top.heap] at N0
  try dsimp only [PyProof.Rows.Top.heap] at X0
  try dsimp only [PyProof.Rows.Top.heap] at hB
  try dsimp only [PyProof.Rows.Top.heap] at KX
  have hlen := ints_len hI
  w_strict (walk_at "my steps")
  refine ⟨?_⟩
  rename IsRange _ _ _ _ _ _ _ _ => hrg
  obtain ⟨n, r1, r2, r3⟩ := law_range (b := (if (if 2 < ((List.length xs : Nat) : Int) then 2 else ((List.length xs : Nat) : Int)) > 1 then if 2 < ((List.length xs : Nat) : Int) then 2 else ((List.length xs : Nat) : Int) else 1)) (by split <;> split <;> omega)
  refine range_inv (by exact rfl) rfl hrg r1 r2 (by k_asm) (by k_asm) (fun _ m news => LJ s1.heap.objs.size sl m news) ?h0 (by passes_own) ⟨?step⟩ ⟨?done⟩
  case h0 =>
    refine ⟨_, _, _, _, rfl, by assumption, by assumption, ?hm⟩
    rfl
  case done =>
    intro h tk m' news' F' N' hJ
    obtain ⟨o1, o2, v1, v2, rfl, e1, e2, hm⟩ := hJ
    w_strict (walk_at "my steps")
    k_end
    wrow_close
  case step =>
    try clear G
    try clear Y
    try clear ho
    try clear X
    try clear V
    try clear GL
    try clear B
    try clear TE
    try clear M
    try clear hcd
    try clear hs
    try clear hlay0
    try clear hLp
    try clear hr0
    try clear hl2
    try clear hg
    try clear TW
    intro I i t oI m₁ news₁ h tk E' hE' hi hJ F2 N2 off
    try clear hrg
    try clear X0
    try clear e1
    try clear e2
    try clear F1
    try clear N0
    obtain ⟨o1, o2, v1, v2, rfl, e1, e2, hm⟩ := hJ
    obtain ⟨mf, rfl⟩ := m_form1 hm
    generalize s1.heap.objs.size = L at *
    generalize s1.heap = g at *
    cases L using opq with
    | h L =>
    cases g using opqH with
    | h g =>
    refine let_A ?_
    intro A9
    try (refine let_env ?_; intro e9)
    w_strict (walk_at "my steps")
    refine ⟨?_⟩
    refine pool_use w _ _ _ _ _ _ _ _ _ _ _ _ _ _ _ _ _ _ _ _ _ _ hB (by k_asm) (by k_asm) (by k_asm) (by k_asm) rfl ?hin ?huu hL hI (by omega) i (by omega) t ?ret
    case hin => decide
    case huu => exact xc64
    case ret =>
    intro S x y tx ty n2 h3 tk3 F3 N3 o3
    try clear N2
    try clear F2
    w_strict (walk_at "my steps")
    refine ⟨?_⟩
    rename_i Lb hb1 ll Dt hb3 l9 z5 z6 hb2 N4
    have oS : ∀ p ∈ (L + 1, o2) :: (L + 1 + 1, o1) :: [(I, oI)], p.1 ≠ S := fun p hp => Nat.ne_of_lt (o3 p (by simp only [List.mem_cons] at hp ⊢; grind))
    have oL : ∀ p ∈ (L + 1, o2) :: (L + 1 + 1, o1) :: [(I, oI)], p.1 ≠ Lb := all_cons (Nat.ne_of_lt ll.2.2.2) (all_cons (Nat.ne_of_lt ll.2.2.1) (all_cons (Nat.ne_of_lt ll.2.1) fun _ h => nomatch h))
    have hLS : @Ne Nat Lb S := Nat.ne_of_gt ll.1
    have N5 : News g L hb2 ((S, srcO x y tx ty n2) :: (Lb, lstO [] 0) :: (L + 1, o2) :: (L + 1 + 1, o1) :: [(I, oI)]) := news_sub N4 (by walk_at "my sub")
    try clear N4
    try clear o3
    try clear l9
    try clear ll
    refine one_str w _ _ _ _ _ _ _ _ _ _ _ _ _ _ _ _ _ _ _ _ _ _ hB (by k_asm) (by k_asm) N5 (all_cons hLS oS) (by k_asm) rfl ?hin ?huu _ ?ret
    case hin => decide
    case huu => exact xc80
    case ret =>
    intro k tr x y tx ty n2 h6 tk6 F6 N6
    try clear N5
    try clear F4
    w_strict (walk_at "my steps")
    refine ⟨?_⟩
    refine take_use w _ _ _ _ _ _ _ _ _ _ _ _ _ _ _ _ _ _ _ _ _ _ hB (by k_asm) (by k_asm) (by k_asm) (all_cons hLS oS) (by k_asm) rfl ?hin ?huu 2 (by decide) (by decide) _ ?ret
    case hin => decide
    case huu => exact xc64
    case ret =>
    intro r tr2 x y tx ty n2 h7 tk7 hr0 hr1 F7 N7
    w_strict (walk_at "my steps")
    refine ⟨?_⟩
    obtain ⟨d, hdd, hd1, hd2⟩ : ∃ d : Nat, 1 + r = (d : Int) ∧ 1 ≤ d ∧ d ≤ 2 := ⟨(1 + r).toNat, by omega, by omega, by omega⟩
    simp only [hdd]
    have hpw : 2 ^ (d + 1) ≤ 8 := Nat.pow_le_pow_right (i := d + 1) (j := 3) (by decide) (by omega)
    refine pat_use (pat_tells w _ _ _ _ d hd2 k) hB (by k_asm) (by k_asm) (by k_asm) hLS oS oL (by k_asm) rfl (names := []) .nil (fun _ h => nomatch h) (by simp only [List.length_nil]; omega) ?hin ?huu ?ret
    case hin => have : d = 1 ∨ d = 2 := by omega
                rcases this with rfl | rfl <;> decide
    case huu => exact xcd hd2
    case ret =>
    intro p P tl x y tx ty n2 ls nl h8 tk8 F8 N8 apT aS aL hP hok hls hnm hvb
    obtain ⟨W, mL, hPW, hN9, w1, w2, wI, mI⟩ : ∃ W : Led, (Lb, lstO ls nl) ∈ W ∧ PatIn W p P ∧ News g L h8 ((L + 1, o2) :: (L + 1 + 1, o1) :: W) ∧ (∀ p ∈ W, p.1 ≠ L + 1) ∧ (∀ p ∈ W, p.1 ≠ L + 1 + 1) ∧ True ∧ (I, oI) ∈ W := by
      refine ⟨(Lb, lstO ls nl) :: (I, oI) :: tl, by simp, hP.mono fun q hq => by simp [hq], news_sub N8 (by walk_at "my sub"), ?_, ?_, trivial, by simp⟩
      · exact all_cons (Ne.symm (oL (L + 1, o2) (by simp))) (all_cons (Ne.symm (off (L + 1, o2) (by simp))) fun q hq => Ne.symm (apT (L + 1, o2) (by simp) q hq))
      · exact all_cons (Ne.symm (oL (L + 1 + 1, o1) (by simp))) (all_cons (Ne.symm (off (L + 1 + 1, o1) (by simp))) fun q hq => Ne.symm (apT (L + 1 + 1, o1) (by simp) q hq))
    have c12 : @Ne Nat (L + 1 + 1) (L + 1) := Nat.succ_ne_self _
    have off1 := off (L + 1, o2) (by simp)
    have off2 := off (L + 1 + 1, o1) (by simp)
    try clear hLS
    try clear oS
    try clear oL
    try clear apT
    try clear aS
    try clear aL
    try clear N8
    try clear off
    try clear hP
    rw [List.nil_append] at hls hnm
    have w3 : ∀ p ∈ (L + 1 + 1, o1) :: W, p.1 ≠ L + 1 := all_cons c12 w1
    w_strict (walk_at "my steps")
    rename Heap => hq
    rename Obj => oq
    with_reducible (rename News _ _ _ _ => Nq)
    with_reducible (rename Obj.data _ = _ => dq)
    refine ⟨?_⟩
    obtain ⟨W, hW, mL, N9, w1⟩ : ∃ W' : Led, LW W' p P (Lb, lstO ls nl) (L + 1, oq) (I, oI) ∧ True ∧ News g L hq ((L + 1 + 1, o1) :: W') ∧ (∀ p ∈ W', p.1 ≠ L + 1 + 1) :=
      ⟨(L + 1, oq) :: W, ⟨hPW.mono fun q hq => List.mem_cons_of_mem _ hq, List.mem_cons_of_mem _ mL, List.mem_cons_self, List.mem_cons_of_mem _ mI⟩, trivial, news_sub Nq (by walk_at "my sub"), all_cons (Ne.symm c12) w2⟩
    try clear mL
    try clear hN9
    try clear Nq
    try clear w2
    try clear w3
    try clear hPW
    try clear mI
    have hdd2 := xd1 hdd
    simp only [hdd2]
    refine tell_use (c := valT) (d := (k, d + 1)) [] hB (by k_asm) (by k_asm) N9 (by k_asm) rfl (fun _ h => nomatch h) ⟨Nat.succ_le_succ hd2, _, _, rfl⟩ (val_tells w _ _ _ _ _) ?hin ?huu ?ret
    case hin => exact xv1 hd2
    case huu => exact xv2 hd2
    case ret =>
    intro r9 tl9 h9 tk9 F9 N10 ap9 ho9
    obtain ⟨lo, ws, nw, rfl, mlo, hws⟩ := ho9
    obtain ⟨W2, g1, g2, N11, w4⟩ := grow N10 ap9 w1
    replace hW := hW.mono g1
    replace mlo := g2 _ mlo
    replace hws := hws.mono g2
    try clear N9
    try clear N10
    try clear ap9
    try clear w1
    try clear g1
    try clear g2
    w_strict (walk_at "my steps")
    refine ⟨?_⟩
    have hPs := size_of hok
    have hp2 : 2 ^ d ≤ 4 := Nat.pow_le_pow_right (i := d) (j := 2) (by decide) hd2
    have hP16 := xs16 hPs hp2
    have hP19 : P.size ≤ 19 := Nat.le_trans hP16 (by decide)
    have mcel := hW.cel
    have mlab := hW.lab
    have hwl : ws.length = (valsK (d + 1) k).length := vals_len2 hws
    have hwl2 : (valsK (d + 1) k).length ≤ 100 := vals_len (by omega) k
    refine comp_filt (by exact rfl) rfl rfl (by rw [hwl]; omega) (by k_asm) (by k_asm) (fun i ys full => full = (L + 1 + 1, o1) :: W2 ∧ ys = pickV (fits P) (ws.take i) ((valsK (d + 1) k).take i)) ⟨rfl, by simp [pickV]⟩ (by rintro i ys full ⟨rfl, _⟩; exact List.mem_cons_of_mem _ mlo) ⟨?eltv⟩ ⟨?stp⟩ ?dn
    case eltv =>
      intro C oC mC v full h tk R E5 hoC hx F5 N5 hR
      w_strict (walk_at "my steps")
      exact hR _
    case stp =>
      intro i v C oC I1 o1' D mC ys full h5 tk5 E5 hv hoC hx hJ F5 N5 off5
      obtain ⟨rfl, rfl⟩ := hJ
      obtain ⟨xv, hxa1, hxb⟩ := hws.at' hv
      w_strict (walk_at "my steps")
      refine ⟨?_⟩
      refine tellsN_use (c := fitsT) (d := (P, xv)) hB (by k_asm) (by k_asm) (by k_asm) (by k_asm) rfl ⟨p, v, rfl, hW.pat.mono fun q hq => by simp [hq], hxa1.mono fun q hq => by simp [hq]⟩ (fits_tells w _ _ _ _ _) (okf_of hok (vals_ok _ _ _ (List.mem_of_getElem? hxb))) ?hin ?huu ?ret
      case hin => exact xz20 hP19
      case huu => exact xz20u hP19
      case ret =>
      intro r8 tl8 h8 tk8 F8 N8 lt8 ht8 ho8
      obtain rfl : tl8 = [] := ht8
      obtain rfl : r8 = .bool (fits P xv) := ho8
      rw [List.append_nil] at N8
      w_strict (walk_at "my steps")
      refine PartEnd.mk ((L + 1 + 1, o1) :: W2) (by k_asm) (by k_asm) off5 ⟨rfl, ?_⟩
      rw [pickV_step hv hxb]
    case dn =>
      intro C D I1 mC ys full h5 tk5 ac bc hJ
      obtain ⟨rfl, rfl⟩ := hJ
      refine Blk.asg rfl rfl rfl ac bc fun h6 tk6 F7 N12 => ?_
      have offD : ∀ p ∈ (L + 1 + 1, o1) :: W2, p.1 ≠ D := fun p hp => (bc.off p hp).2
      rw [hwl, List.take_length, ← hwl, List.take_length] at N12
      have htl : (pickV (fits P) ws (valsK (d + 1) k)).length = ((valsK (d + 1) k).filter (fits P)).length := pickV_len hwl
      generalize hts : pickV (fits P) ws (valsK (d + 1) k) = ts at N12 htl
      have hfl := List.length_filter_le (fits P) (valsK (d + 1) k)
      w_strict (walk_at "my steps")
      refine ⟨?_⟩
      rename News _ _ _ _ => Na
      obtain ⟨W3, g3, mts, Nb, w5⟩ := addW Na (Ne.symm (offD (L + 1 + 1, o1) List.mem_cons_self)) w4
      replace hW := hW.mono g3
      replace mlo := g3 _ mlo
      replace hws := hws.mono g3
      try clear g3
      try clear w4
      try clear offD
      try clear Na
      try clear mcel
      try clear mlab
      refine tell_use (c := knoT PG w) (d := ()) [] hB (by k_asm) (by k_asm) Nb (by k_asm) rfl (fun _ h => nomatch h) rfl (kno_tells w _ _ _ _ _) ?hin ?huu ?ret
      case hin => show 301 + 1 + 40 < 1000; decide
      case huu => show 4 + 3 + 8 * 40 < 9900; decide
      case ret =>
      intro r10 tl10 h10 tk10 F10 N14 ap10 ho10
      obtain ⟨cd, rfl, hkn⟩ := ho10
      obtain ⟨W4, g1, g2, N15, w6⟩ := grow N14 ap10 w5
      replace hW := hW.mono g1
      replace mlo := g1 _ mlo
      replace hws := hws.mono g1
      replace mts := g1 _ mts
      replace hkn := hkn.mono g2
      try clear g1
      try clear g2
      try clear N14
      try clear ap10
      try clear Nb
      try clear w5
      w_strict (walk_at "my steps")
      refine ⟨?_⟩
      refine tell_use (c := irrT PG w) (d := P) W4 hB (by k_asm) (by k_asm) N15 (by k_asm) rfl (fun q hq => List.mem_cons_of_mem _ hq) ⟨p, cd, rfl, hW.pat, hkn, k, d, hok⟩ (irr_tells w _ _ _ _ _) ?hin ?huu ?ret
      case hin => exact xz80 hP19
      case huu => exact xz80u hP19
      case ret =>
      intro r11 tl11 h11 tk11 F11 N16 ap11 ho11
      obtain ⟨W5, g1, g2, N17, w7⟩ := grow N16 ap11 w6
      replace hW := hW.mono g1
      replace mlo := g1 _ mlo
      replace hws := hws.mono g1
      replace mts := g1 _ mts
      try clear g1
      try clear g2
      try clear N15
      try clear N16
      try clear ap11
      try clear w6
      try clear hkn
      have htk : takes P = decide ((ts.length : Int) = (ws.length : Int)) := by rw [takes_iff hok, htl, hwl]; simp only [Int.natCast_inj]
      obtain rfl : r11 = .bool (decide ((ts.length : Int) = (ws.length : Int))) := by rw [← htk]; exact ho11
      have mcel := hW.cel
      have mlab := hW.lab
      have hne0 : ¬ (decide ((ts.length : Int) = (ws.length : Int)) != ((ts.length : Int) == (ws.length : Int))) = true := by rw [show ((ts.length : Int) == (ws.length : Int)) = decide ((ts.length : Int) = (ws.length : Int)) from rfl]; simp
      w_strict (walk_at "my steps")
      refine ⟨?_⟩
      refine tell_use (c := varsT) (d := P) _ hB (by k_asm) (by k_asm) N17 (by k_asm) rfl (fun q hq => List.mem_cons_of_mem _ hq) (POne.of hW.pat) (vars_tells w _ _ _ _ _) ?hin ?huu ?ret
      case hin => exact xz20 hP19
      case huu => exact xz20u hP19
      case ret =>
      intro r12 tl12 h12 tk12 F12 N18 lt12 ho12
      obtain ⟨lv, wv, nv, rfl, mlv, hwv⟩ := ho12
      obtain ⟨W6, g1, g2, N19, w8⟩ := grow N18 lt12 w7
      replace hW := hW.mono g1
      replace mlo := g1 _ mlo
      replace hws := hws.mono g1
      replace mts := g1 _ mts
      replace mlv := g2 _ mlv
      try clear g1
      try clear g2
      try clear N17
      try clear N18
      try clear lt12
      try clear w7
      try clear mcel
      try clear mlab
      try clear hne0
      try clear htk
      have mcel := hW.cel
      have mlab := hW.lab
      w_strict (walk_at "my steps")
      refine ⟨?_⟩
      refine ne_strs N19 (List.mem_cons_of_mem _ mlv) (List.mem_cons_of_mem _ hW.lab) hwv hls (by show 4 + 3 < 9900; decide) ?_
      w_strict (walk_at "my steps")
      refine ⟨?_⟩
      have hll : ls.length = (vars P).length := strs_len hls
      have hll2 : ls.length ≤ 20 := by have := vars_len P; omega
      refine comp_mapA (by exact rfl) (by k_asm) (by k_asm) (show (Lb, lstO ls nl) ∈ _ from List.mem_cons_of_mem _ hW.lab) (by omega) (fun i ys tl => ∃ kvs, PL tl ys kvs ∧ InvF (fun nm => Str.ofString "w." ++ nm) kvs ∧ kvs.map (·.1) = (vars P).take i) ⟨[], PL.nil, (fun _ h => nomatch h), by simp⟩ ⟨?st⟩ ⟨?dn⟩
      case st =>
        intro i' v I5 o5 C oC D m5 ys tl h5 tk5 E5 hv hoC hx hJ F5 N5
        obtain ⟨kvs, hpl, hinv, hkeys⟩ := hJ
        obtain ⟨nm, tn, rfl, hnm'⟩ := strs_at hls hv
        have hnl : nm.length ≤ 100 := hnm nm (List.mem_of_getElem? hnm')
        w_strict (walk_at "my steps")
        rename News _ _ _ _ => Nt
        rename Fr _ _ _ _ => Ft
        rename _ < _ ∧ _ => lt1
        refine Made.one Ft Nt (all_cons (Nat.ne_of_lt lt1.1) (all_cons (Nat.ne_of_lt lt1.2.1) (all_cons (Nat.ne_of_lt lt1.2.2.1) fun p hp => Nat.ne_of_lt (ktn_ltOf lt1.2.2.2 p hp)))) ⟨kvs ++ [(nm, .str (Str.ofString "w." ++ nm) _)], hpl.snoc (fun q hq => List.mem_cons_of_mem _ hq) List.mem_cons_self, ?_, ?_⟩
        · exact fun kv hk => (List.mem_append.mp hk).elim (hinv kv) fun h => by rw [List.mem_singleton.mp h]; exact ⟨_, rfl⟩
        · rw [List.map_append, hkeys, List.take_add_one, hnm']; rfl
      case dn =>
        intro D ys tl h5 tk5 F5 N5 apD hJ
        obtain ⟨kvs, hpl, hinv, hkeys⟩ := hJ
        rw [hll, List.take_length] at hkeys
        have hyl : ys.length = (vars P).length := by rw [← hpl.1, ← hkeys, List.length_map]
        w_strict (walk_at "my steps")
        refine ⟨?_⟩
        refine dict_pairs (by exact rfl) (by k_asm) N5 List.mem_cons_self (hpl.at_ N5 fun q hq => by simp [hq]) hpl.1 (by omega) ?_
        intro Dd h13 tk13 od F13 N20 lt13 hod
        have N20b : News g L h13 ((Dd, od) :: (L + 1 + 1, o1) :: W6) := news_sub N20 (by walk_at "my sub")
        obtain ⟨W7, g1, md, N21, w9⟩ := addW N20b (Nat.ne_of_gt (lt13 (L + 1 + 1, o1) (by simp))) w8
        replace hW := hW.mono g1
        replace mlo := g1 _ mlo
        replace hws := hws.mono g1
        replace mts := g1 _ mts
        try clear g1
        try clear N20
        try clear N20b
        try clear N5
        try clear lt13
        try clear apD
        try clear w8
        try clear hpl
        try clear N19
        try clear mlv
        try clear mcel
        try clear mlab
        w_strict (walk_at "my steps")
        refine ⟨?_⟩
        refine tell_use (c := renT PG w) (d := (P, fun nm => Str.ofString "w." ++ nm)) W7 hB (by k_asm) (by k_asm) N21 (by k_asm) rfl (fun q hq => List.mem_cons_of_mem _ hq) ⟨p, Dd, od, _, rfl, hW.pat, md, hod, fun n hn => merged_at hinv (by rw [hkeys]; exact hn)⟩ (ren_tells w _ _ _ _ _) ?hin ?huu ?ret
        case hin => exact xz20 hP19
        case huu => exact xz20u hP19
        case ret =>
        intro po tl14 h14 tk14 F14 N22 ap14 ho14
        obtain ⟨W8, g1, g2, N23, w10⟩ := grow N22 ap14 w9
        have hR : PatIn W8 po (ren (fun nm => Str.ofString "w." ++ nm) P) := PatIn.mono (fun q hq => (List.mem_append.mp hq).elim (g1 q) (g2 q)) ho14
        replace hW := hW.mono g1
        replace mlo := g1 _ mlo
        replace hws := hws.mono g1
        replace mts := g1 _ mts
        try clear g1
        try clear g2
        try clear N21
        try clear N22
        try clear ap14
        try clear ho14
        try clear w9
        try clear hod
        try clear md
        try clear hinv
        w_strict (walk_at "my steps")
        refine ⟨?_⟩
        refine tell_use (c := varsT) (d := ren (fun nm => Str.ofString "w." ++ nm) P) _ hB (by k_asm) (by k_asm) (by k_asm) (by k_asm) rfl (fun q hq => List.mem_cons_of_mem _ hq) (POne.of hR) (vars_tells w _ _ _ _ _) ?hin ?huu ?ret
        case hin => exact xz20 (Nat.le_trans (Nat.le_of_eq (size_ren _ P)) hP19)
        case huu => exact xz20u (Nat.le_trans (Nat.le_of_eq (size_ren _ P)) hP19)
        case ret =>
        intro r15 tl15 h15 tk15 F15 N24 lt15 ho15
        obtain ⟨lv, wv, nv, rfl, mlv, hwv⟩ := ho15
        rw [vars_ren] at hwv
        obtain ⟨W9, g1, g2, N25, w11⟩ := grow N24 lt15 w10
        replace hW := hW.mono g1
        replace hR := hR.mono g1
        replace mlo := g1 _ mlo
        replace hws := hws.mono g1
        replace mts := g1 _ mts
        replace mlv := g2 _ mlv
        try clear g1
        try clear g2
        try clear N23
        try clear N24
        try clear lt15
        try clear w10
        w_strict (walk_at "my steps")
        refine ⟨?_⟩
        refine comp_mapA (by exact rfl) (by k_asm) (by k_asm) (show (Lb, lstO ls nl) ∈ _ from List.mem_cons_of_mem _ hW.lab) (by omega) (fun i ys tl => StrsAre ys (((vars P).take i).map fun nm => Str.ofString "w." ++ nm)) (by rw [List.take_zero]; exact .nil) ⟨?st2⟩ ⟨?dn2⟩
        case st2 =>
          intro i' v I5 o5 C oC D m5 ys tl h5 tk5 E5 hv hoC hx hJ F5 N5
          obtain ⟨nm, tn, rfl, hnm'⟩ := strs_at hls hv
          have hnl : nm.length ≤ 100 := hnm nm (List.mem_of_getElem? hnm')
          w_strict (walk_at "my steps")
          refine Made.mk [] (by k_asm) (by rw [List.append_nil]; k_asm) apart_nil ?_
          rw [List.take_add_one, hnm', List.map_append]
          exact strs_app hJ (.cons _ _ .nil)
        case dn2 =>
          intro D ys tl h5 tk5 F5 N5 apD hJ
          rw [hll, List.take_length] at hJ
          w_strict (walk_at "my steps")
          refine ⟨?_⟩
          refine ne_strs N5 (List.mem_append.mpr (.inr (List.mem_cons_of_mem _ mlv))) List.mem_cons_self hwv hJ (by show 4 + 3 < 9900; decide) ?_
          have N26 : News g L h5 ((L + 1 + 1, o1) :: W9) := news_sub N5 fun q hq => List.mem_append.mpr (.inr hq)
          have mcel := hW.cel
          have mlab := hW.lab
          try clear N5
          try clear N25
          try clear apD
          try clear hJ
          try clear mlv
          try clear hwv
          w_strict (walk_at "my steps")
          refine ⟨?_⟩
          refine tell_use (c := sprT) (d := P) W9 hB (by k_asm) (by k_asm) N26 (by k_asm) rfl (fun q hq => List.mem_cons_of_mem _ hq) ⟨p, rfl, hW.pat, two_of hok⟩ (spr_tells w _ _ _ _ _) ?hin ?huu ?ret
          case hin => show 301 + 1 + 20 < 1000; decide
          case huu => show 4 + 3 + 8 * 20 < 9900; decide
          case ret =>
          intro ps tl16 h16 tk16 F16 N27 ap16 ho16
          obtain ⟨W10, g1, g2, N28, w12⟩ := grow N27 ap16 w11
          have hS : PatIn W10 ps (spr P) := PatIn.mono (fun q hq => (List.mem_append.mp hq).elim (g1 q) (g2 q)) ho16
          replace hW := hW.mono g1
          replace hR := hR.mono g1
          replace mlo := g1 _ mlo
          replace hws := hws.mono g1
          replace mts := g1 _ mts
          try clear g1
          try clear g2
          try clear N26
          try clear N27
          try clear ap16
          try clear ho16
          try clear w11
          try clear mcel
          try clear mlab
          w_strict (walk_at "my steps")
          refine ⟨?_⟩
          rename News _ _ _ _ => Nt
          rename Fr _ _ _ _ => Ft
          rename _ < _ ∧ _ => lt2
          refine for_tupC (by exact rfl) rfl Ft Nt (Nat.ne_of_gt lt2.1) w12 e1 ⟨?turn⟩ ⟨?fin⟩
          case turn =>
            intro i' v I2 oI2 ow vw W11 h17 tk17 hv ew g1 mI2 F17 N29 w13
            obtain ⟨Q, hQ, hQf, hQo, hQs⟩ : ∃ Q : Pat, PatIn W11 v Q ∧ (∀ x ∈ valsK (d + 1) k, fits P x = fits Q x) ∧ (∀ x ∈ valsK (d + 1) k, Okf Q x) ∧ Q.size ≤ 19 := by
              match i', hv with
              | 0, hv => simp only [List.getElem?_cons_zero, Option.some.injEq] at hv; subst hv; exact ⟨_, hR.mono g1, fun x hx => (fits_ren _ P x).symm, fun x hx => okf_ren _ P x (okf_of hok (vals_ok _ _ x hx)), Nat.le_trans (Nat.le_of_eq (size_ren _ P)) hP19⟩
              | 1, hv => simp only [List.getElem?_cons_succ, List.getElem?_cons_zero, Option.some.injEq] at hv; subst hv; exact ⟨_, hS.mono g1, fun x hx => (fits_spr hok (vals_ok _ _ x hx)).symm, fun x hx => okf_spr P x (okf_of hok (vals_ok _ _ x hx)), Nat.le_trans (size_spr P) (Nat.add_le_add_right hP16 3)⟩
              | i' + 2, hv => simp at hv
            replace hW := hW.mono g1
            replace mlo := g1 _ mlo
            replace hws := hws.mono g1
            replace mts := g1 _ mts
            try clear Nt
            try clear lt2
            try clear hv
            try clear g1
            try clear hR
            try clear hS
            w_strict (walk_at "my steps")
            rename Heap => hq2
            rename Obj => oq2
            with_reducible (rename News _ _ _ _ => Nq2)
            with_reducible (rename Obj.data _ = _ => dq2)
            refine ⟨?_⟩
            refine comp_filt (by exact rfl) rfl rfl (by rw [hwl]; omega) (by k_asm) Nq2 (fun i ys full => full = (L + 1 + 1, oq2) :: W11 ∧ ys = pickV (fits Q) (ws.take i) ((valsK (d + 1) k).take i)) ⟨rfl, by simp [pickV]⟩ (by rintro i ys full ⟨rfl, _⟩; exact List.mem_cons_of_mem _ mlo) ⟨?eltv2⟩ ⟨?stp2⟩ ?dn3
            case eltv2 =>
              intro C oC mC v full h tk R E5 hoC hx F5 N5 hR
              w_strict (walk_at "my steps")
              exact hR _
            case stp2 =>
              intro i3 v3 C oC I1 o1' D mC ys full h5 tk5 E5 hv hoC hx hJ F5 N5 off5
              obtain ⟨rfl, rfl⟩ := hJ
              obtain ⟨xv, hxa1, hxb⟩ := hws.at' hv
              w_strict (walk_at "my steps")
              refine ⟨?_⟩
              refine tellsN_use (c := fitsT) (d := (Q, xv)) hB (by k_asm) (by k_asm) (by k_asm) (by k_asm) rfl ⟨v, v3, rfl, hQ.mono fun q hq => by simp [hq], hxa1.mono fun q hq => by simp [hq]⟩ (fits_tells w _ _ _ _ _) (hQo _ (List.mem_of_getElem? hxb)) ?hin ?huu ?ret
              case hin => exact xz20 hQs
              case huu => exact xz20u hQs
              case ret =>
              intro r8 tl8 h8 tk8 F8 N8 lt8 ht8 ho8
              obtain rfl : tl8 = [] := ht8
              obtain rfl : r8 = .bool (fits Q xv) := ho8
              rw [List.append_nil] at N8
              w_strict (walk_at "my steps")
              refine PartEnd.mk ((L + 1 + 1, oq2) :: W11) (by k_asm) (by k_asm) off5 ⟨rfl, ?_⟩
              rw [pickV_step hv hxb]
            case dn3 =>
              intro C D I1 mC ys full h5 tk5 ac bc hJ
              obtain ⟨rfl, rfl⟩ := hJ
              refine Blk.expr ac bc fun h6 tk6 F7 N12 => ?_
              rw [hwl, List.take_length, ← hwl, List.take_length, ← pickV_eq (b := fits P) hQf, hts] at N12
              w_strict (walk_at "my steps")
              refine ⟨?_⟩
              refine ne_same N12 List.mem_cons_self (List.mem_cons_of_mem _ (List.mem_cons_of_mem _ mts)) (by show 4 + 3 < 9900; decide) ?_
              w_strict (walk_at "my steps")
              exact CellEnd.mk (by k_asm) (news_sub N12 fun q hq => List.mem_cons_of_mem _ hq) dq2
          case fin =>
            intro h17 tk17 ow vw ew F17 N29
            try clear Nt
            try clear lt2
            have mcel := hW.cel
            w_strict (walk_at "my steps")
            refine ⟨?_⟩
            refine tell_use (c := sprT) (d := P) W10 hB (by k_asm) (by k_asm) N29 (by k_asm) rfl (fun q hq => List.mem_cons_of_mem _ hq) ⟨p, rfl, hW.pat, two_of hok⟩ (spr_tells w _ _ _ _ _) ?hin ?huu ?ret
            case hin => show 301 + 1 + 20 < 1000; decide
            case huu => show 4 + 3 + 8 * 20 < 9900; decide
            case ret =>
            intro ps2 tl18 h18 tk18 F18 N30 ap18 ho18
            obtain ⟨W12, g1, g2, N31, w14⟩ := grow N30 ap18 w12
            have hS2 : PatIn W12 ps2 (spr P) := PatIn.mono (fun q hq => (List.mem_append.mp hq).elim (g1 q) (g2 q)) ho18
            replace hW := hW.mono g1
            try clear g1
            try clear g2
            try clear N29
            try clear N30
            try clear ap18
            try clear ho18
            try clear mcel
            have mcel := hW.cel
            w_strict (walk_at "my steps")
            refine ⟨?_⟩
            rename News _ _ _ _ => Nt2
            refine isin_not (spr_noTL P) (by k_asm) Nt2 (by k_asm) (hS2.mono fun q hq => List.mem_cons_of_mem _ (List.mem_cons_of_mem _ hq)) List.mem_cons_self ?_
            intro tk19
            have N32 := news_sub Nt2 (show ∀ q ∈ (L + 1 + 1, ow) :: W12, q ∈ _ from fun q hq => List.mem_cons_of_mem _ hq)
            try clear Nt2
            try clear N31
            w_strict (walk_at "my steps")
            refine ⟨?_⟩
            refine tell_use (c := sprT) (d := P) W12 hB (by k_asm) (by k_asm) N32 (by k_asm) rfl (fun q hq => List.mem_cons_of_mem _ hq) ⟨p, rfl, hW.pat, two_of hok⟩ (spr_tells w _ _ _ _ _) ?hin ?huu ?ret
            case hin => show 301 + 1 + 20 < 1000; decide
            case huu => show 4 + 3 + 8 * 20 < 9900; decide
            case ret =>
            intro ps3 tl20 h20 tk20 F20 N33 ap20 ho20
            obtain ⟨W13, g1, g2, N34, w15⟩ := grow N33 ap20 w14
            have hS3 : PatIn W13 ps3 (spr P) := PatIn.mono (fun q hq => (List.mem_append.mp hq).elim (g1 q) (g2 q)) ho20
            replace hW := hW.mono g1
            try clear g1
            try clear g2
            try clear N32
            try clear N33
            try clear ap20
            try clear ho20
            try clear mcel
            w_strict (walk_at "my steps")
            refine ⟨?_⟩
            have hsp := size_spr P
            refine tell_use (c := varsT) (d := spr P) _ hB (by k_asm) (by k_asm) N34 (by k_asm) rfl (fun q hq => List.mem_cons_of_mem _ hq) (POne.of hS3) (vars_tells w _ _ _ _ _) ?hin ?huu ?ret
            case hin => exact xz20 (Nat.le_trans hsp (Nat.add_le_add_right hP16 3))
            case huu => exact xz20u (Nat.le_trans hsp (Nat.add_le_add_right hP16 3))
            case ret =>
            intro r21 tl21 h21 tk21 F21 M21 lt21 ho21
            obtain ⟨lv21, wv21, nv21, rfl, mlv21, hwv21⟩ := ho21
            rw [vars_spr] at hwv21
            obtain ⟨W14, g1, g2, N35, w16⟩ := grow M21 lt21 w15
            replace hW := hW.mono g1
            replace mlv21 := g2 _ mlv21
            try clear g1
            try clear g2
            try clear M21
            try clear lt21
            try clear N34
            have mcel := hW.cel
            have mlab := hW.lab
            w_strict (walk_at "my steps")
            refine ⟨?_⟩
            refine ne_strs N35 (List.mem_cons_of_mem _ mlv21) (List.mem_cons_of_mem _ hW.lab) hwv21 hls (by show 4 + 3 < 9900; decide) ?_
            w_strict (walk_at "my steps")
            refine ⟨?_⟩
            refine tell_use (c := varsT) (d := P) _ hB (by k_asm) (by k_asm) N35 (by k_asm) rfl (fun q hq => List.mem_cons_of_mem _ hq) (POne.of hW.pat) (vars_tells w _ _ _ _ _) ?hin ?huu ?ret
            case hin => exact xz20 hP19
            case huu => exact xz20u hP19
            case ret =>
            intro r22 tl22 h22 tk22 F22 M22 lt22 ho22
            obtain ⟨lv22, wv22, nv22, rfl, mlv22, hwv22⟩ := ho22
            obtain ⟨W15, g1, g2, N36, w17⟩ := grow M22 lt22 w16
            replace hW := hW.mono g1
            replace mlv22 := g2 _ mlv22
            try clear g1
            try clear g2
            try clear M22
            try clear lt22
            try clear N35
            have mcel := hW.cel
            have mlab := hW.lab
            w_strict (walk_at "my steps")
            refine ⟨?_⟩
            refine ne_strs N36 (List.mem_cons_of_mem _ mlv22) (List.mem_cons_of_mem _ hW.lab) hwv22 hls (by show 4 + 3 < 9900; decide) ?_
            w_strict (walk_at "my steps")
            refine RngEnd.mk [(L + 1 + 1, ow), (L + 1, oq)] (by k_asm) (news_sub N36 fun q hq => ?_) ?_ ⟨ow, oq, _, _, rfl, ew, dq, ?_⟩
            · simp only [List.mem_cons, List.not_mem_nil, or_false] at hq
              rcases hq with rfl | rfl | rfl
              · exact List.mem_cons_of_mem _ hW.itr
              · exact List.mem_cons_self
              · exact List.mem_cons_of_mem _ hW.cel
            · exact all_cons off2 (all_cons off1 fun _ h => nomatch h)
            · rfl)
end LawText
end Mine
theorem PySem.Challenge.cw_og0007_01_holds : PySem.Challenge.rw_og0007_01.Holds :=
  Mine.X
