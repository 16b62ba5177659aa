import PyProof.Rows.All
import Wide.All
import OpenK.AllK
import Wide.FinOn
import PySem.Challenge.RW_pb0207_01

open PySem PySem.W PyProof.Rows
set_option Elab.async false
set_option maxRecDepth 100000
set_option maxHeartbeats 4000000
set_option rowWalk.seconds 0
set_option compiler.extract_closed false
set_option genInjectivity false
set_option genSizeOf false
namespace Mine
theorem tyStr : PySem.Manifest.ty_str = PySem.Manifest.ty_str := rfl
name_quick tw8204122198557586990 for PySem.Manifest.ty_str by Mine.tyStr
name_quick tw8075568018651887793 for PySem.Manifest.ty_str by Mine.tyStr
name_quick tw12703099611423764353 for PySem.Manifest.ty_str by Mine.tyStr
name_quick tw5730655312508077314 for PySem.Manifest.ty_str by Mine.tyStr
name_quick tw14385942598474689953 for PySem.Manifest.ty_str by Mine.tyStr
name_quick tw3040143736804776676 for PySem.Manifest.ty_str by Mine.tyStr
name_quick tw14325701944645716230 for PySem.Manifest.ty_str by Mine.tyStr
name_quick tw14979626087600564940 for PySem.Manifest.ty_str by Mine.tyStr
name_quick tw6544416930500052332 for PySem.Manifest.ty_str by Mine.tyStr
name_quick tw14305297421684437798 for PySem.Manifest.ty_str by Mine.tyStr
name_quick tw14127181297215883289 for PySem.Manifest.ty_str by Mine.tyStr
name_quick tw17807336471464407845 for PySem.Manifest.ty_str by Mine.tyStr
name_quick tw18081866645286916028 for PySem.Manifest.ty_str by Mine.tyStr
name_quick tw5059338700186464400 for PySem.Manifest.ty_str by Mine.tyStr
name_quick tw785904758220388488 for PySem.Manifest.ty_str by Mine.tyStr
name_quick tw13251646731365433171 for PySem.Manifest.ty_str by Mine.tyStr
name_quick tw1975554356029942138 for PySem.Manifest.ty_str by Mine.tyStr
name_quick tw11825729669827539873 for PySem.Manifest.ty_str by Mine.tyStr
name_quick tw1708024556718086227 for PySem.Manifest.ty_str by Mine.tyStr
name_quick tw7483462131439158144 for PySem.Manifest.ty_str by Mine.tyStr
name_quick tw1719230996375869582 for PySem.Manifest.ty_str by Mine.tyStr
name_quick tw6967401301877209104 for PySem.Manifest.ty_str by Mine.tyStr
name_quick tw274283560391228834 for PySem.Manifest.ty_str by Mine.tyStr
name_quick tw6479045924364825042 for PySem.Manifest.ty_str by Mine.tyStr
name_quick tw7121420154978148399 for PySem.Manifest.ty_str by Mine.tyStr
name_quick tw197866417366892390 for PySem.Manifest.ty_str by Mine.tyStr
name_quick tw18011898689540126615 for PySem.Manifest.ty_str by Mine.tyStr
name_quick tw14981143343336467331 for PySem.Manifest.ty_str by Mine.tyStr
name_quick tw7094674258960923220 for PySem.Manifest.ty_str by Mine.tyStr
name_quick tw1156252341971683116 for PySem.Manifest.ty_str by Mine.tyStr
name_quick tw11974353845819946628 for PySem.Manifest.ty_str by Mine.tyStr
name_quick tw11013792430000457035 for PySem.Manifest.ty_str by Mine.tyStr
name_quick tw5596329374482053843 for PySem.Manifest.ty_str by Mine.tyStr
name_quick tw5026404672973973886 for PySem.Manifest.ty_str by Mine.tyStr
name_quick tw3094477031063562474 for PySem.Manifest.ty_str by Mine.tyStr
name_quick tw12017898878966707257 for PySem.Manifest.ty_str by Mine.tyStr
name_quick tw13374210024742059513 for PySem.Manifest.ty_str by Mine.tyStr
name_quick tw7458083566234694290 for PySem.Manifest.ty_str by Mine.tyStr
name_quick tw16374537267813192141 for PySem.Manifest.ty_str by Mine.tyStr
name_quick tw13789449189825218787 for PySem.Manifest.ty_str by Mine.tyStr
name_quick tw12850107946570832962 for PySem.Manifest.ty_str by Mine.tyStr
name_quick tw4921902886906138986 for PySem.Manifest.ty_str by Mine.tyStr
name_quick tw5974533124943420526 for PySem.Manifest.ty_str by Mine.tyStr
name_quick tw6135381517318000843 for PySem.Manifest.ty_str by Mine.tyStr
name_quick tw14224011070414065920 for PySem.Manifest.ty_str by Mine.tyStr
name_quick tw17244072584429378644 for PySem.Manifest.ty_str by Mine.tyStr
name_quick tw13615603153576403970 for PySem.Manifest.ty_str by Mine.tyStr
name_quick tw8620020772036689432 for PySem.Manifest.ty_str by Mine.tyStr
name_quick tw2611137233208623240 for PySem.Manifest.ty_str by Mine.tyStr
name_quick tw16687058600856472310 for PySem.Manifest.ty_str by Mine.tyStr
name_quick tw7840439059173320295 for PySem.Manifest.ty_str by Mine.tyStr
name_quick tw17111948838632640456 for PySem.Manifest.ty_str by Mine.tyStr
name_quick tw14530364306720264245 for PySem.Manifest.ty_str by Mine.tyStr
name_quick tw3880421473898291048 for PySem.Manifest.ty_str by Mine.tyStr
name_quick tw6363645014702824404 for PySem.Manifest.ty_str by Mine.tyStr
name_quick tw3698559305507148144 for PySem.Manifest.ty_str by Mine.tyStr
name_quick tw7397068168572129948 for PySem.Manifest.ty_str by Mine.tyStr
name_quick tw16437185098154296904 for PySem.Manifest.ty_str by Mine.tyStr
name_quick tw17274371674624000324 for PySem.Manifest.ty_str by Mine.tyStr
name_quick tw14223099787259518943 for PySem.Manifest.ty_str by Mine.tyStr
name_quick tw1041845030581493396 for PySem.Manifest.ty_str by Mine.tyStr
name_quick tw12659028871203227004 for PySem.Manifest.ty_str by Mine.tyStr
name_quick tw4681523508651956083 for PySem.Manifest.ty_str by Mine.tyStr
name_quick tw2460228577881660442 for PySem.Manifest.ty_str by Mine.tyStr
name_quick tw15263041282635125899 for PySem.Manifest.ty_str by Mine.tyStr
name_quick tw7299303143086499733 for PySem.Manifest.ty_str by Mine.tyStr
name_quick tw607167704815816724 for PySem.Manifest.ty_str by Mine.tyStr
name_quick tw7232422423428716515 for PySem.Manifest.ty_str by Mine.tyStr
name_quick tw6587116730350146372 for PySem.Manifest.ty_str by Mine.tyStr
name_quick tw1638017585896720355 for PySem.Manifest.ty_str by Mine.tyStr
name_quick tw3131671291697673992 for PySem.Manifest.ty_str by Mine.tyStr
name_quick tw7082770336023389322 for PySem.Manifest.ty_str by Mine.tyStr
name_quick tw12945451867199242903 for PySem.Manifest.ty_str by Mine.tyStr
name_quick tw9467589175468403638 for PySem.Manifest.ty_str by Mine.tyStr
name_quick tw16643706677886111943 for PySem.Manifest.ty_str by Mine.tyStr
name_quick tw16176465441171805009 for PySem.Manifest.ty_str by Mine.tyStr
name_quick tw9281714027785469542 for PySem.Manifest.ty_str by Mine.tyStr
name_quick tw13002492023102617099 for PySem.Manifest.ty_str by Mine.tyStr
name_quick tw3560238982266916124 for PySem.Manifest.ty_str by Mine.tyStr
name_quick tw3152983702415266003 for PySem.Manifest.ty_str by Mine.tyStr
name_quick tw12981051755390344553 for PySem.Manifest.ty_str by Mine.tyStr
name_quick tw8424611434330503625 for PySem.Manifest.ty_str by Mine.tyStr
name_quick tw1706496860858754268 for PySem.Manifest.ty_str by Mine.tyStr
name_quick tw9594665118957945026 for PySem.Manifest.ty_str by Mine.tyStr
name_quick tw4879560196417449868 for PySem.Manifest.ty_str by Mine.tyStr
name_quick tw13314330512976039754 for PySem.Manifest.ty_str by Mine.tyStr
name_quick tw14112274594779413971 for PySem.Manifest.ty_str by Mine.tyStr
name_quick tw15199281503961881116 for PySem.Manifest.ty_str by Mine.tyStr
name_quick tw14714103240675001986 for PySem.Manifest.ty_str by Mine.tyStr
name_quick tw5565278806992967083 for PySem.Manifest.ty_str by Mine.tyStr
name_quick tw9529234661008812162 for PySem.Manifest.ty_str by Mine.tyStr
name_quick tw16846860572762119324 for PySem.Manifest.ty_str by Mine.tyStr
name_quick tw725871291056497461 for PySem.Manifest.ty_str by Mine.tyStr
name_quick tw16548257151911338427 for PySem.Manifest.ty_str by Mine.tyStr
name_quick tw12393455550290869266 for PySem.Manifest.ty_str by Mine.tyStr
name_quick tw4224760802259116069 for PySem.Manifest.ty_str by Mine.tyStr
name_quick tw1370275717833778536 for PySem.Manifest.ty_str by Mine.tyStr
name_quick tw8642067239939848140 for PySem.Manifest.ty_str by Mine.tyStr
name_quick tw13678640442995254988 for PySem.Manifest.ty_str by Mine.tyStr
name_quick tw12945968074294007009 for PySem.Manifest.ty_str by Mine.tyStr
name_quick tw912392155897948271 for PySem.Manifest.ty_str by Mine.tyStr
name_quick tw17842620306162639686 for PySem.Manifest.ty_str by Mine.tyStr
name_quick tw4039474712603431140 for PySem.Manifest.ty_str by Mine.tyStr
name_quick tw14210447440969649564 for PySem.Manifest.ty_str by Mine.tyStr
name_quick tw5111356299099525756 for PySem.Manifest.ty_str by Mine.tyStr
name_quick tw6434265647005701932 for PySem.Manifest.ty_str by Mine.tyStr
name_quick tw3039592710220408265 for PySem.Manifest.ty_str by Mine.tyStr
name_quick tw6245536207120538393 for PySem.Manifest.ty_str by Mine.tyStr
name_quick tw13016732220969518872 for PySem.Manifest.ty_str by Mine.tyStr
name_quick tw5068434257544371817 for PySem.Manifest.ty_str by Mine.tyStr
name_quick tw13900631225919944168 for PySem.Manifest.ty_str by Mine.tyStr
name_quick tw14323765505736481980 for PySem.Manifest.ty_str by Mine.tyStr
name_quick tw12237943961548833269 for PySem.Manifest.ty_str by Mine.tyStr
name_quick tw4275521005467322725 for PySem.Manifest.ty_str by Mine.tyStr
name_quick tw10007627690174824804 for PySem.Manifest.ty_str by Mine.tyStr
name_quick tw15490439104401381959 for PySem.Manifest.ty_str by Mine.tyStr
name_quick tw2922074901204462755 for PySem.Manifest.ty_str by Mine.tyStr
name_quick tw18056578402003937789 for PySem.Manifest.ty_str by Mine.tyStr
name_quick tw17899373020297197333 for PySem.Manifest.ty_str by Mine.tyStr
name_quick tw16966814322356759819 for PySem.Manifest.ty_str by Mine.tyStr
name_quick tw10833955939284561965 for PySem.Manifest.ty_str by Mine.tyStr
name_quick tw5882768191206486792 for PySem.Manifest.ty_str by Mine.tyStr
name_quick tw5248340912204065574 for PySem.Manifest.ty_str by Mine.tyStr
name_quick tw15900120412870309639 for PySem.Manifest.ty_str by Mine.tyStr
name_quick tw7392212959928792091 for PySem.Manifest.ty_str by Mine.tyStr
name_quick tw14778209649434054790 for PySem.Manifest.ty_str by Mine.tyStr
name_quick tw3118938333895590913 for PySem.Manifest.ty_str by Mine.tyStr
name_quick tw5832503352825792928 for PySem.Manifest.ty_str by Mine.tyStr
name_quick tw11939915149646268982 for PySem.Manifest.ty_str by Mine.tyStr
name_quick tw16697116713213952808 for PySem.Manifest.ty_str by Mine.tyStr
name_quick tw15560500314895047343 for PySem.Manifest.ty_str by Mine.tyStr
name_quick tw16406328271908756883 for PySem.Manifest.ty_str by Mine.tyStr
name_quick tw4858009861420398278 for PySem.Manifest.ty_str by Mine.tyStr
name_quick tw5345256250457102556 for PySem.Manifest.ty_str by Mine.tyStr
name_quick tw7987952416473584550 for PySem.Manifest.ty_str by Mine.tyStr
name_quick tw1204117194425446250 for PySem.Manifest.ty_str by Mine.tyStr
name_quick tw13759679279233594173 for PySem.Manifest.ty_str by Mine.tyStr
name_quick tw11790162104776037713 for PySem.Manifest.ty_str by Mine.tyStr
name_quick tw5753627639153339801 for PySem.Manifest.ty_str by Mine.tyStr
name_quick tw17300597898927385350 for PySem.Manifest.ty_str by Mine.tyStr
name_quick tw4936483359421988267 for PySem.Manifest.ty_str by Mine.tyStr
name_quick tw13512673800721320934 for PySem.Manifest.ty_str by Mine.tyStr
name_quick tw5149714755402479525 for PySem.Manifest.ty_str by Mine.tyStr
name_quick tw16189536214700107852 for PySem.Manifest.ty_str by Mine.tyStr
name_quick tw6122645084068987007 for PySem.Manifest.ty_str by Mine.tyStr
name_quick tw18345786424863182364 for PySem.Manifest.ty_str by Mine.tyStr
name_quick tw5152784196030571298 for PySem.Manifest.ty_str by Mine.tyStr
name_quick tw11306939235166856333 for PySem.Manifest.ty_str by Mine.tyStr
name_quick tw7344376507651311505 for PySem.Manifest.ty_str by Mine.tyStr
name_quick tw325292655437039998 for PySem.Manifest.ty_str by Mine.tyStr
name_quick tw8603108125212654177 for PySem.Manifest.ty_str by Mine.tyStr
name_quick tw5268983451555188008 for PySem.Manifest.ty_str by Mine.tyStr
name_quick tw12898947447245864913 for PySem.Manifest.ty_str by Mine.tyStr
name_quick tw1333364371103165705 for PySem.Manifest.ty_str by Mine.tyStr
name_quick tw14097648870716263351 for PySem.Manifest.ty_str by Mine.tyStr
name_quick tw17765544955259793912 for PySem.Manifest.ty_str by Mine.tyStr
name_quick tw12647630874787467225 for PySem.Manifest.ty_str by Mine.tyStr
name_quick tw10424941004445345732 for PySem.Manifest.ty_str by Mine.tyStr
name_quick tw17394056326795013819 for PySem.Manifest.ty_str by Mine.tyStr
name_quick tw1355338860687761863 for PySem.Manifest.ty_str by Mine.tyStr
name_quick tw18163708392712065173 for PySem.Manifest.ty_str by Mine.tyStr
name_quick tw4775785305629353868 for PySem.Manifest.ty_str by Mine.tyStr
name_quick tw9011979029575296479 for PySem.Manifest.ty_str by Mine.tyStr
name_quick tw2718901123391026995 for PySem.Manifest.ty_str by Mine.tyStr
name_quick tw6589095468515690095 for PySem.Manifest.ty_str by Mine.tyStr
name_quick tw136631920214876835 for PySem.Manifest.ty_str by Mine.tyStr
name_quick tw11317593695737139937 for PySem.Manifest.ty_str by Mine.tyStr
name_quick tw10508251915553800215 for PySem.Manifest.ty_str by Mine.tyStr
name_quick tw16643379632663270332 for PySem.Manifest.ty_str by Mine.tyStr
name_quick tw7745614565497352828 for PySem.Manifest.ty_str by Mine.tyStr
name_quick tw14214133299417103183 for PySem.Manifest.ty_str by Mine.tyStr
name_quick tw18263319221461684349 for PySem.Manifest.ty_str by Mine.tyStr
name_quick tw14971970265804392439 for PySem.Manifest.ty_str by Mine.tyStr
name_quick tw11518781747449614426 for PySem.Manifest.ty_str by Mine.tyStr
name_quick tw2862820112641550484 for PySem.Manifest.ty_str by Mine.tyStr
name_quick tw4292500188555128830 for PySem.Manifest.ty_str by Mine.tyStr
name_quick tw9674257727999782656 for PySem.Manifest.ty_str by Mine.tyStr
name_quick tw14311459727803291754 for PySem.Manifest.ty_str by Mine.tyStr
name_quick tw16349804527192203551 for PySem.Manifest.ty_str by Mine.tyStr
name_quick tw7323676302269181137 for PySem.Manifest.ty_str by Mine.tyStr
name_quick tw11495947367809530248 for PySem.Manifest.ty_str by Mine.tyStr
name_quick tw3577408171920636059 for PySem.Manifest.ty_str by Mine.tyStr
name_quick tw10706342367453228570 for PySem.Manifest.ty_str by Mine.tyStr
name_quick tw8902219603052485911 for PySem.Manifest.ty_str by Mine.tyStr
name_quick tw15112985482279097393 for PySem.Manifest.ty_str by Mine.tyStr
name_quick tw10670733350059645105 for PySem.Manifest.ty_str by Mine.tyStr
name_quick tw11420187438672877268 for PySem.Manifest.ty_str by Mine.tyStr
name_quick tw13987355940573415152 for PySem.Manifest.ty_str by Mine.tyStr
name_quick tw13254397897704925713 for PySem.Manifest.ty_str by Mine.tyStr
name_quick tw11333186260410459676 for PySem.Manifest.ty_str by Mine.tyStr
name_quick tw15560853006256673968 for PySem.Manifest.ty_str by Mine.tyStr
name_quick tw4549333791460862111 for PySem.Manifest.ty_str by Mine.tyStr
name_quick tw11964429278604863157 for PySem.Manifest.ty_str by Mine.tyStr
name_quick tw15066959818950650227 for PySem.Manifest.ty_str by Mine.tyStr
name_quick tw1735497430108182060 for PySem.Manifest.ty_str by Mine.tyStr
name_quick tw7496433998918960881 for PySem.Manifest.ty_str by Mine.tyStr
name_quick tw7365555872484859036 for PySem.Manifest.ty_str by Mine.tyStr
name_quick tw13725850141900786883 for PySem.Manifest.ty_str by Mine.tyStr
name_quick tw724751600484774222 for PySem.Manifest.ty_str by Mine.tyStr
name_quick tw282004115355043989 for PySem.Manifest.ty_str by Mine.tyStr
name_quick tw18101931140130867144 for PySem.Manifest.ty_str by Mine.tyStr
name_quick tw5862295025349918931 for PySem.Manifest.ty_str by Mine.tyStr
name_quick tw12450158673883907302 for PySem.Manifest.ty_str by Mine.tyStr
name_quick tw11994158751524154303 for PySem.Manifest.ty_str by Mine.tyStr
name_quick tw9564595351457756722 for PySem.Manifest.ty_str by Mine.tyStr
name_quick tw4679858250743294509 for PySem.Manifest.ty_str by Mine.tyStr
name_quick tw9763268239775435451 for PySem.Manifest.ty_str by Mine.tyStr
name_quick tw4075660801711882420 for PySem.Manifest.ty_str by Mine.tyStr
name_quick tw12821735335276811757 for PySem.Manifest.ty_str by Mine.tyStr
name_quick tw17520869792638436183 for PySem.Manifest.ty_str by Mine.tyStr
name_quick tw14837249469386935497 for PySem.Manifest.ty_str by Mine.tyStr
name_quick tw9413167413068371254 for PySem.Manifest.ty_str by Mine.tyStr
name_quick tw15663404670287596823 for PySem.Manifest.ty_str by Mine.tyStr
name_quick tw8796240567053077481 for PySem.Manifest.ty_str by Mine.tyStr
name_quick tw17100903815162463580 for PySem.Manifest.ty_str by Mine.tyStr
name_quick tw9787463984185863102 for PySem.Manifest.ty_str by Mine.tyStr
name_quick tw6059929106960060952 for PySem.Manifest.ty_str by Mine.tyStr
name_quick tw4407734736301137906 for PySem.Manifest.ty_str by Mine.tyStr
name_quick tw12290603225136948437 for PySem.Manifest.ty_str by Mine.tyStr
name_quick tw16349216596472256690 for PySem.Manifest.ty_str by Mine.tyStr
name_quick tw9931943479562821362 for PySem.Manifest.ty_str by Mine.tyStr
name_quick tw6144853644547557980 for PySem.Manifest.ty_str by Mine.tyStr
name_quick tw12182807814244774211 for PySem.Manifest.ty_str by Mine.tyStr
name_quick tw4405960384096086239 for PySem.Manifest.ty_str by Mine.tyStr
name_quick tw5823794197072137003 for PySem.Manifest.ty_str by Mine.tyStr
name_quick tw9396933662098498411 for PySem.Manifest.ty_str by Mine.tyStr
name_quick tw15766043655864335149 for PySem.Manifest.ty_str by Mine.tyStr
name_quick tw10057510723706494237 for PySem.Manifest.ty_str by Mine.tyStr
name_quick tw16741492637210864865 for PySem.Manifest.ty_str by Mine.tyStr
name_quick tw3362959441861295915 for PySem.Manifest.ty_str by Mine.tyStr
name_quick tw8719427161674164953 for PySem.Manifest.ty_str by Mine.tyStr
name_quick tw13833065179229638619 for PySem.Manifest.ty_str by Mine.tyStr
name_quick tw6662432510661729299 for PySem.Manifest.ty_str by Mine.tyStr
name_quick tw14023627001141898710 for PySem.Manifest.ty_str by Mine.tyStr
name_quick tw12172078356533094185 for PySem.Manifest.ty_str by Mine.tyStr
name_quick tw3282434896037501709 for PySem.Manifest.ty_str by Mine.tyStr
name_quick tw6213141578215901147 for PySem.Manifest.ty_str by Mine.tyStr
name_quick tw16417370028952169744 for PySem.Manifest.ty_str by Mine.tyStr
name_quick tw17279654841073493023 for PySem.Manifest.ty_str by Mine.tyStr
name_quick tw17069979004554194336 for PySem.Manifest.ty_str by Mine.tyStr
name_quick tw183835017167291270 for PySem.Manifest.ty_str by Mine.tyStr
name_quick tw14186486079044719983 for PySem.Manifest.ty_str by Mine.tyStr
name_quick tw15773981995205291829 for PySem.Manifest.ty_str by Mine.tyStr
name_quick tw14326252917377295143 for PySem.Manifest.ty_str by Mine.tyStr
name_quick tw14209830616999942402 for PySem.Manifest.ty_str by Mine.tyStr
name_quick tw15880737140895825463 for PySem.Manifest.ty_str by Mine.tyStr
name_quick tw13471461260053382970 for PySem.Manifest.ty_str by Mine.tyStr
name_quick tw17827458813498177553 for PySem.Manifest.ty_str by Mine.tyStr
name_quick tw11796506867022685745 for PySem.Manifest.ty_str by Mine.tyStr
name_quick tw503676674663206642 for PySem.Manifest.ty_str by Mine.tyStr
name_quick tw12825359941727978080 for PySem.Manifest.ty_str by Mine.tyStr
name_quick tw5032809538720368765 for PySem.Manifest.ty_str by Mine.tyStr
name_quick tw4658958612460137192 for PySem.Manifest.ty_str by Mine.tyStr
name_quick tw13607416678640721797 for PySem.Manifest.ty_str by Mine.tyStr
name_quick tw1414301608579184545 for PySem.Manifest.ty_str by Mine.tyStr
name_quick tw12268644228514654432 for PySem.Manifest.ty_str by Mine.tyStr
name_quick tw18123110421147349612 for PySem.Manifest.ty_str by Mine.tyStr
name_quick tw9821368406582625841 for PySem.Manifest.ty_str by Mine.tyStr
name_quick tw930746551332336609 for PySem.Manifest.ty_str by Mine.tyStr
name_quick tw2719445374943340272 for PySem.Manifest.ty_str by Mine.tyStr
name_quick tw10029231156530900338 for PySem.Manifest.ty_str by Mine.tyStr
name_quick tw9504726810853072989 for PySem.Manifest.ty_str by Mine.tyStr
name_quick tw10352308551163946355 for PySem.Manifest.ty_str by Mine.tyStr
name_quick tw15894407043143930727 for PySem.Manifest.ty_str by Mine.tyStr
name_quick tw5978237884098788730 for PySem.Manifest.ty_str by Mine.tyStr
name_quick tw13871001218405608335 for PySem.Manifest.ty_str by Mine.tyStr
name_quick tw11817470609975844035 for PySem.Manifest.ty_str by Mine.tyStr
name_quick tw2968979199505139716 for PySem.Manifest.ty_str by Mine.tyStr
name_quick tw13981391230805400906 for PySem.Manifest.ty_str by Mine.tyStr
name_quick tw4797165386629745026 for PySem.Manifest.ty_str by Mine.tyStr
name_quick tw558745408833754511 for PySem.Manifest.ty_str by Mine.tyStr
name_quick tw618205885557783147 for PySem.Manifest.ty_str by Mine.tyStr
name_quick tw17352973434858128600 for PySem.Manifest.ty_str by Mine.tyStr
name_quick tw7299951869573292228 for PySem.Manifest.ty_str by Mine.tyStr
name_quick tw10323183001455561277 for PySem.Manifest.ty_str by Mine.tyStr
name_quick tw12233582284571471492 for PySem.Manifest.ty_str by Mine.tyStr
name_quick tw15376083050721069600 for PySem.Manifest.ty_str by Mine.tyStr
name_quick tw7401281599722004195 for PySem.Manifest.ty_str by Mine.tyStr
name_quick tw16644606511662114574 for PySem.Manifest.ty_str by Mine.tyStr
name_quick tw16413264400604254196 for PySem.Manifest.ty_str by Mine.tyStr
name_quick tw9151444980202551346 for PySem.Manifest.ty_str by Mine.tyStr
name_quick tw9300948228871686676 for PySem.Manifest.ty_str by Mine.tyStr
name_quick tw3865406201487662470 for PySem.Manifest.ty_str by Mine.tyStr
name_quick tw16180582048198870337 for PySem.Manifest.ty_str by Mine.tyStr
name_quick tw12488000419048109807 for PySem.Manifest.ty_str by Mine.tyStr
name_quick tw13912434898499826684 for PySem.Manifest.ty_str by Mine.tyStr
name_quick tw17476080006546285661 for PySem.Manifest.ty_str by Mine.tyStr
name_quick tw13809362725867891129 for PySem.Manifest.ty_str by Mine.tyStr
name_quick tw2951486255847992690 for PySem.Manifest.ty_str by Mine.tyStr
name_quick tw4904739604578439355 for PySem.Manifest.ty_str by Mine.tyStr
name_quick tw16241802466949684156 for PySem.Manifest.ty_str by Mine.tyStr
name_quick tw16223305294053301992 for PySem.Manifest.ty_str by Mine.tyStr
name_quick tw11707371222683016368 for PySem.Manifest.ty_str by Mine.tyStr
name_quick tw13642483538084851733 for PySem.Manifest.ty_str by Mine.tyStr
name_quick tw11788150170368784547 for PySem.Manifest.ty_str by Mine.tyStr
name_quick tw11462045893675790159 for PySem.Manifest.ty_str by Mine.tyStr
name_quick tw878741703135273975 for PySem.Manifest.ty_str by Mine.tyStr
name_quick tw12392613427281201732 for PySem.Manifest.ty_str by Mine.tyStr
name_quick tw9305782018832362445 for PySem.Manifest.ty_str by Mine.tyStr
name_quick tw2283851925072248500 for PySem.Manifest.ty_str by Mine.tyStr
name_quick tw721709456127091705 for PySem.Manifest.ty_str by Mine.tyStr
name_quick tw1085346719588807367 for PySem.Manifest.ty_str by Mine.tyStr
name_quick tw1258299570235058372 for PySem.Manifest.ty_str by Mine.tyStr
name_quick tw11445135464325071761 for PySem.Manifest.ty_str by Mine.tyStr
name_quick tw6426273055680023932 for PySem.Manifest.ty_str by Mine.tyStr
name_quick tw8206430501311747189 for PySem.Manifest.ty_str by Mine.tyStr
name_quick tw2948108419219029167 for PySem.Manifest.ty_str by Mine.tyStr
name_quick tw11130039905162102590 for PySem.Manifest.ty_str by Mine.tyStr
name_quick tw11636919720809706868 for PySem.Manifest.ty_str by Mine.tyStr
name_quick tw14537914154153760125 for PySem.Manifest.ty_str by Mine.tyStr
name_quick tw347637069881736656 for PySem.Manifest.ty_str by Mine.tyStr
name_quick tw2905824091091238844 for PySem.Manifest.ty_str by Mine.tyStr
name_quick tw13640514254501968386 for PySem.Manifest.ty_str by Mine.tyStr
name_quick tw13036272033356848781 for PySem.Manifest.ty_str by Mine.tyStr
name_quick tw2660918139993853925 for PySem.Manifest.ty_str by Mine.tyStr
name_quick tw12635297910168745909 for PySem.Manifest.ty_str by Mine.tyStr
name_quick tw11186114360453789277 for PySem.Manifest.ty_str by Mine.tyStr
name_quick tw6019396324639902685 for PySem.Manifest.ty_str by Mine.tyStr
name_quick tw43969757491396457 for PySem.Manifest.ty_str by Mine.tyStr
name_quick tw3424931102881643321 for PySem.Manifest.ty_str by Mine.tyStr
name_quick tw3856783459128436802 for PySem.Manifest.ty_str by Mine.tyStr
name_quick tw2334299552400917057 for PySem.Manifest.ty_str by Mine.tyStr
name_quick tw563124612126607214 for PySem.Manifest.ty_str by Mine.tyStr
name_quick tw17730428716208468724 for PySem.Manifest.ty_str by Mine.tyStr
name_quick tw16865151637890581275 for PySem.Manifest.ty_str by Mine.tyStr
name_quick tw4575980220486274672 for PySem.Manifest.ty_str by Mine.tyStr
name_quick tw14126943448341045398 for PySem.Manifest.ty_str by Mine.tyStr
name_quick tw7276740287692124622 for PySem.Manifest.ty_str by Mine.tyStr
name_quick tw8032284361305108907 for PySem.Manifest.ty_str by Mine.tyStr
name_quick tw12734952128020822468 for PySem.Manifest.ty_str by Mine.tyStr
name_quick tw8727135674562949291 for PySem.Manifest.ty_str by Mine.tyStr
name_quick tw1402947280878808549 for PySem.Manifest.ty_str by Mine.tyStr
name_quick tw9501820088010722379 for PySem.Manifest.ty_str by Mine.tyStr
name_quick tw8253183596043897158 for PySem.Manifest.ty_str by Mine.tyStr
name_quick tw4172830789200971933 for PySem.Manifest.ty_str by Mine.tyStr
name_quick tw8579058602437062094 for PySem.Manifest.ty_str by Mine.tyStr
name_quick tw2001226814458364393 for PySem.Manifest.ty_str by Mine.tyStr
name_quick tw7650934615059315214 for PySem.Manifest.ty_str by Mine.tyStr
name_quick tw15079194523842364033 for PySem.Manifest.ty_str by Mine.tyStr
name_quick tw14896874001708588922 for PySem.Manifest.ty_str by Mine.tyStr
name_quick tw8047484207015712433 for PySem.Manifest.ty_str by Mine.tyStr
name_quick tw3766158894648301139 for PySem.Manifest.ty_str by Mine.tyStr
name_quick tw5902227825499142635 for PySem.Manifest.ty_str by Mine.tyStr
name_quick tw1092655722715705105 for PySem.Manifest.ty_str by Mine.tyStr
name_quick tw16947794391021106201 for PySem.Manifest.ty_str by Mine.tyStr
name_quick tw11682084944484805031 for PySem.Manifest.ty_str by Mine.tyStr
name_quick tw18260038339965228139 for PySem.Manifest.ty_str by Mine.tyStr
name_quick tw9979284746773624096 for PySem.Manifest.ty_str by Mine.tyStr
name_quick tw392140993173905013 for PySem.Manifest.ty_str by Mine.tyStr
name_quick tw8430678208038309684 for PySem.Manifest.ty_str by Mine.tyStr
name_quick tw6792406925840432001 for PySem.Manifest.ty_str by Mine.tyStr
name_quick tw15542691292777871779 for PySem.Manifest.ty_str by Mine.tyStr
name_quick tw16817318245366136608 for PySem.Manifest.ty_str by Mine.tyStr
name_quick tw10996506086634736982 for PySem.Manifest.ty_str by Mine.tyStr
name_quick tw14333388528381170442 for PySem.Manifest.ty_str by Mine.tyStr
name_quick tw11740888236361828772 for PySem.Manifest.ty_str by Mine.tyStr
name_quick tw16413963553889246368 for PySem.Manifest.ty_str by Mine.tyStr
name_quick tw3436264866546951355 for PySem.Manifest.ty_str by Mine.tyStr
name_quick tw17434858337260393937 for PySem.Manifest.ty_str by Mine.tyStr
name_quick tw704327219915372674 for PySem.Manifest.ty_str by Mine.tyStr
name_quick tw17954471519018878134 for PySem.Manifest.ty_str by Mine.tyStr
name_quick tw1829445100760108279 for PySem.Manifest.ty_str by Mine.tyStr
name_quick tw6722154040420286063 for PySem.Manifest.ty_str by Mine.tyStr
name_quick tw1218959903707654005 for PySem.Manifest.ty_str by Mine.tyStr
name_quick tw3105397867545767578 for PySem.Manifest.ty_str by Mine.tyStr
name_quick tw10015664371746657536 for PySem.Manifest.ty_str by Mine.tyStr
name_quick tw6090905460779295987 for PySem.Manifest.ty_str by Mine.tyStr
name_quick tw1055568401681811165 for PySem.Manifest.ty_str by Mine.tyStr
name_quick tw505943868828395459 for PySem.Manifest.ty_str by Mine.tyStr
name_quick tw6214688769961185500 for PySem.Manifest.ty_str by Mine.tyStr
name_quick tw17988542015724977305 for PySem.Manifest.ty_str by Mine.tyStr
name_quick tw14108194823987119177 for PySem.Manifest.ty_str by Mine.tyStr
name_quick tw3976722010076183465 for PySem.Manifest.ty_str by Mine.tyStr
name_quick tw12022618010286034681 for PySem.Manifest.ty_str by Mine.tyStr
name_quick tw18410474027866654770 for PySem.Manifest.ty_str by Mine.tyStr
name_quick tw15007238320947547705 for PySem.Manifest.ty_str by Mine.tyStr
name_quick tw15806122291839087668 for PySem.Manifest.ty_str by Mine.tyStr
name_quick tw7499937903120025604 for PySem.Manifest.ty_str by Mine.tyStr
name_quick tw3325841961599345399 for PySem.Manifest.ty_str by Mine.tyStr
name_quick tw757081541053455785 for PySem.Manifest.ty_str by Mine.tyStr
name_quick tw14305139224198610471 for PySem.Manifest.ty_str by Mine.tyStr
name_quick tw16339471991904476338 for PySem.Manifest.ty_str by Mine.tyStr
name_quick tw17828083071136270317 for PySem.Manifest.ty_str by Mine.tyStr
name_quick tw3442601649717412197 for PySem.Manifest.ty_str by Mine.tyStr
name_quick tw6550987210724342151 for PySem.Manifest.ty_str by Mine.tyStr
name_quick tw12835720964997663042 for PySem.Manifest.ty_str by Mine.tyStr
name_quick tw15468230090516036684 for PySem.Manifest.ty_str by Mine.tyStr
name_quick tw11270796479367742343 for PySem.Manifest.ty_str by Mine.tyStr
name_quick tw151948405760981731 for PySem.Manifest.ty_str by Mine.tyStr
name_quick tw17280976486791472633 for PySem.Manifest.ty_str by Mine.tyStr
name_quick tw10528696920762540405 for PySem.Manifest.ty_str by Mine.tyStr
name_quick tw2599325451414397859 for PySem.Manifest.ty_str by Mine.tyStr
name_quick tw17015423121036801654 for PySem.Manifest.ty_str by Mine.tyStr
name_quick tw14168537005229113720 for PySem.Manifest.ty_str by Mine.tyStr
name_quick tw4434333111790514575 for PySem.Manifest.ty_str by Mine.tyStr
name_quick tw6148621092414575339 for PySem.Manifest.ty_str by Mine.tyStr
name_quick tw17026713947507217902 for PySem.Manifest.ty_str by Mine.tyStr
name_quick tw4525517667737911620 for PySem.Manifest.ty_str by Mine.tyStr
name_quick tw17888162413812561239 for PySem.Manifest.ty_str by Mine.tyStr
name_quick tw5732905514179830355 for PySem.Manifest.ty_str by Mine.tyStr
name_quick tw2627984346626558326 for PySem.Manifest.ty_str by Mine.tyStr
name_quick tw8860024209350480642 for PySem.Manifest.ty_str by Mine.tyStr
name_quick tw15980859228951719591 for PySem.Manifest.ty_str by Mine.tyStr
name_quick tw16942504070071679284 for PySem.Manifest.ty_str by Mine.tyStr
name_quick tw15823609455315575823 for PySem.Manifest.ty_str by Mine.tyStr
name_quick tw4302124980754421698 for PySem.Manifest.ty_str by Mine.tyStr
name_quick tw6004533443673955352 for PySem.Manifest.ty_str by Mine.tyStr
name_quick tw7081425507203772304 for PySem.Manifest.ty_str by Mine.tyStr
name_quick tw11277413387252134812 for PySem.Manifest.ty_str by Mine.tyStr
name_quick tw11519604305632133818 for PySem.Manifest.ty_str by Mine.tyStr
name_quick tw5770868932273138760 for PySem.Manifest.ty_str by Mine.tyStr
name_quick tw10948738476641704880 for PySem.Manifest.ty_str by Mine.tyStr
name_quick tw17913803186225011329 for PySem.Manifest.ty_str by Mine.tyStr
name_quick tw7009043117176579089 for PySem.Manifest.ty_str by Mine.tyStr
name_quick tw17774800907425398282 for PySem.Manifest.ty_str by Mine.tyStr
name_quick tw5529568453561195837 for PySem.Manifest.ty_str by Mine.tyStr
name_quick tw5923252988546675246 for PySem.Manifest.ty_str by Mine.tyStr
name_quick tw16180483070735683940 for PySem.Manifest.ty_str by Mine.tyStr
name_quick tw3355348695024010778 for PySem.Manifest.ty_str by Mine.tyStr
name_quick tw2958062672499776758 for PySem.Manifest.ty_str by Mine.tyStr
name_quick tw11452132507678324671 for PySem.Manifest.ty_str by Mine.tyStr
name_quick tw9673203406766833760 for PySem.Manifest.ty_str by Mine.tyStr
name_quick tw11166942722945506595 for PySem.Manifest.ty_str by Mine.tyStr
name_quick tw2478078296215019888 for PySem.Manifest.ty_str by Mine.tyStr
name_quick tw4978915544186085027 for PySem.Manifest.ty_str by Mine.tyStr
name_quick tw1139862187096482527 for PySem.Manifest.ty_str by Mine.tyStr
name_quick tw387338674003428930 for PySem.Manifest.ty_str by Mine.tyStr
name_quick tw13215998728584607739 for PySem.Manifest.ty_str by Mine.tyStr
name_quick tw15475462885187679331 for PySem.Manifest.ty_str by Mine.tyStr
name_quick tw3636048126100218174 for PySem.Manifest.ty_str by Mine.tyStr
name_quick tw17018628822417861297 for PySem.Manifest.ty_str by Mine.tyStr
name_quick tw12177639751122801600 for PySem.Manifest.ty_str by Mine.tyStr
name_quick tw6978575153470113360 for PySem.Manifest.ty_str by Mine.tyStr
name_quick tw10939839348159177617 for PySem.Manifest.ty_str by Mine.tyStr
name_quick tw4966893808263662355 for PySem.Manifest.ty_str by Mine.tyStr
name_quick tw13335737130258781183 for PySem.Manifest.ty_str by Mine.tyStr
name_quick tw10042830170769951172 for PySem.Manifest.ty_str by Mine.tyStr
name_quick tw9458956999447867950 for PySem.Manifest.ty_str by Mine.tyStr
name_quick tw17672482021469178181 for PySem.Manifest.ty_str by Mine.tyStr
name_quick tw8098380416015320538 for PySem.Manifest.ty_str by Mine.tyStr
name_quick tw17730448691065144110 for PySem.Manifest.ty_str by Mine.tyStr
name_quick tw17532440430192770315 for PySem.Manifest.ty_str by Mine.tyStr
name_quick tw4558998842232669794 for PySem.Manifest.ty_str by Mine.tyStr
name_quick tw16350708796919097252 for PySem.Manifest.ty_str by Mine.tyStr
name_quick tw2401699919119007470 for PySem.Manifest.ty_str by Mine.tyStr
name_quick tw15480198773659482676 for PySem.Manifest.ty_str by Mine.tyStr
name_quick tw8537084889766193716 for PySem.Manifest.ty_str by Mine.tyStr
name_quick tw5701610774189311196 for PySem.Manifest.ty_str by Mine.tyStr
name_quick tw4933834842325187142 for PySem.Manifest.ty_str by Mine.tyStr
name_quick tw8450942572126056277 for PySem.Manifest.ty_str by Mine.tyStr
name_quick tw7140130562030077042 for PySem.Manifest.ty_str by Mine.tyStr
name_quick tw7670514497116975361 for PySem.Manifest.ty_str by Mine.tyStr
name_quick tw3778451253796500701 for PySem.Manifest.ty_str by Mine.tyStr
name_quick tw6448080314894763839 for PySem.Manifest.ty_str by Mine.tyStr
name_quick tw17497748084772794779 for PySem.Manifest.ty_str by Mine.tyStr
name_quick tw1702518465993881591 for PySem.Manifest.ty_str by Mine.tyStr
name_quick tw10205541121877940668 for PySem.Manifest.ty_str by Mine.tyStr
name_quick tw17554001833073541016 for PySem.Manifest.ty_str by Mine.tyStr
name_quick tw10500077913531017323 for PySem.Manifest.ty_str by Mine.tyStr
name_quick tw12371321757623732685 for PySem.Manifest.ty_str by Mine.tyStr
name_quick tw17341736924252097559 for PySem.Manifest.ty_str by Mine.tyStr
name_quick tw16049961110935095269 for PySem.Manifest.ty_str by Mine.tyStr
name_quick tw11767421526060770920 for PySem.Manifest.ty_str by Mine.tyStr
name_quick tw17503288770812694035 for PySem.Manifest.ty_str by Mine.tyStr
name_quick tw16916688483869632129 for PySem.Manifest.ty_str by Mine.tyStr
name_quick tw5976474108018559520 for PySem.Manifest.ty_str by Mine.tyStr
name_quick tw18350330562280901221 for PySem.Manifest.ty_str by Mine.tyStr
name_quick tw6654550962395885724 for PySem.Manifest.ty_str by Mine.tyStr
name_quick tw13925586954763233925 for PySem.Manifest.ty_str by Mine.tyStr
name_quick tw951843321253372498 for PySem.Manifest.ty_str by Mine.tyStr
name_quick tw608726401823008365 for PySem.Manifest.ty_str by Mine.tyStr
name_quick tw17001327861769816259 for PySem.Manifest.ty_str by Mine.tyStr
name_quick tw3972328310683599613 for PySem.Manifest.ty_str by Mine.tyStr
name_quick tw13252181687094117063 for PySem.Manifest.ty_str by Mine.tyStr
name_quick tw4552823106982906706 for PySem.Manifest.ty_str by Mine.tyStr
name_quick tw383695940523520267 for PySem.Manifest.ty_str by Mine.tyStr
name_quick tw4319705520415482375 for PySem.Manifest.ty_str by Mine.tyStr
name_quick tw11838138170533393997 for PySem.Manifest.ty_str by Mine.tyStr
name_quick tw17846936440860909165 for PySem.Manifest.ty_str by Mine.tyStr
name_quick tw12813236842856870187 for PySem.Manifest.ty_str by Mine.tyStr
name_quick tw9862997608875712007 for PySem.Manifest.ty_str by Mine.tyStr
name_quick tw17071476683966804577 for PySem.Manifest.ty_str by Mine.tyStr
name_quick tw117213463901210413 for PySem.Manifest.ty_str by Mine.tyStr
name_quick tw12635813782599140982 for PySem.Manifest.ty_str by Mine.tyStr
name_quick tw3093977132361051618 for PySem.Manifest.ty_str by Mine.tyStr
name_quick tw3264259588550801142 for PySem.Manifest.ty_str by Mine.tyStr
name_quick tw5518745428033880147 for PySem.Manifest.ty_str by Mine.tyStr
name_quick tw1537898542681612871 for PySem.Manifest.ty_str by Mine.tyStr
name_quick tw2670528217467546775 for PySem.Manifest.ty_str by Mine.tyStr
name_quick tw4090926877573551719 for PySem.Manifest.ty_str by Mine.tyStr
name_quick tw8708707556590381134 for PySem.Manifest.ty_str by Mine.tyStr
name_quick tw9787396351842916947 for PySem.Manifest.ty_str by Mine.tyStr
name_quick tw11566699232636054958 for PySem.Manifest.ty_str by Mine.tyStr
name_quick tw10308316962582663543 for PySem.Manifest.ty_str by Mine.tyStr
name_quick tw9219426015542480343 for PySem.Manifest.ty_str by Mine.tyStr
name_quick tw7585139358526817783 for PySem.Manifest.ty_str by Mine.tyStr
name_quick tw9676229304581654039 for PySem.Manifest.ty_str by Mine.tyStr
name_quick tw7581816359482902497 for PySem.Manifest.ty_str by Mine.tyStr
name_quick tw7802139600951554647 for PySem.Manifest.ty_str by Mine.tyStr
name_quick tw14433975572909055671 for PySem.Manifest.ty_str by Mine.tyStr
name_quick tw1419416864934026935 for PySem.Manifest.ty_str by Mine.tyStr
name_quick tw932993149863042379 for PySem.Manifest.ty_str by Mine.tyStr
name_quick tw7098571738820278039 for PySem.Manifest.ty_str by Mine.tyStr
name_quick tw15562837088269578035 for PySem.Manifest.ty_str by Mine.tyStr
name_quick tw15919542637913265678 for PySem.Manifest.ty_str by Mine.tyStr
name_quick tw9537544019596298400 for PySem.Manifest.ty_str by Mine.tyStr
name_quick tw16145008321745377990 for PySem.Manifest.ty_str by Mine.tyStr
name_quick tw1749818173716722547 for PySem.Manifest.ty_str by Mine.tyStr
name_quick tw14821650378409806113 for PySem.Manifest.ty_str by Mine.tyStr
name_quick tw662354867322794072 for PySem.Manifest.ty_str by Mine.tyStr
name_quick tw389472881494512206 for PySem.Manifest.ty_str by Mine.tyStr
name_quick tw8693227569615203950 for PySem.Manifest.ty_str by Mine.tyStr
name_quick tw10045867985992453528 for PySem.Manifest.ty_str by Mine.tyStr
name_quick tw16874561944515371726 for PySem.Manifest.ty_str by Mine.tyStr
name_quick tw3695515675974049574 for PySem.Manifest.ty_str by Mine.tyStr
name_quick tw7198390536060210744 for PySem.Manifest.ty_str by Mine.tyStr
name_quick tw6679490504615227074 for PySem.Manifest.ty_str by Mine.tyStr
name_quick tw13580328829973926956 for PySem.Manifest.ty_str by Mine.tyStr
name_quick tw18273839248471157720 for PySem.Manifest.ty_str by Mine.tyStr
name_quick tw1184552218554016812 for PySem.Manifest.ty_str by Mine.tyStr
name_quick tw10073347824450446311 for PySem.Manifest.ty_str by Mine.tyStr
name_quick tw6683783046931543321 for PySem.Manifest.ty_str by Mine.tyStr
name_quick tw5721027456603625697 for PySem.Manifest.ty_str by Mine.tyStr
name_quick tw2711585505577850959 for PySem.Manifest.ty_str by Mine.tyStr
name_quick tw9407582987413476825 for PySem.Manifest.ty_str by Mine.tyStr
name_quick tw10314498396905981064 for PySem.Manifest.ty_str by Mine.tyStr
name_quick tw2759451637364818457 for PySem.Manifest.ty_str by Mine.tyStr
name_quick tw6580340599500149305 for PySem.Manifest.ty_str by Mine.tyStr
name_quick tw2422670821966735624 for PySem.Manifest.ty_str by Mine.tyStr
name_quick tw13721567128424951087 for PySem.Manifest.ty_str by Mine.tyStr
name_quick tw8656719876789144132 for PySem.Manifest.ty_str by Mine.tyStr
name_quick tw15195428891847259777 for PySem.Manifest.ty_str by Mine.tyStr
name_quick tw16531745337717519161 for PySem.Manifest.ty_str by Mine.tyStr
name_quick tw17975652961387846372 for PySem.Manifest.ty_str by Mine.tyStr
name_quick tw11957962974430299695 for PySem.Manifest.ty_str by Mine.tyStr
name_quick tw11853533878840232495 for PySem.Manifest.ty_str by Mine.tyStr
name_quick tw6789855027759293466 for PySem.Manifest.ty_str by Mine.tyStr
name_quick tw7783732958741208154 for PySem.Manifest.ty_str by Mine.tyStr
name_quick tw15168306246750427876 for PySem.Manifest.ty_str by Mine.tyStr
name_quick tw470574548607681690 for PySem.Manifest.ty_str by Mine.tyStr
name_quick tw9908251947323293946 for PySem.Manifest.ty_str by Mine.tyStr
name_quick tw12832477231654346042 for PySem.Manifest.ty_str by Mine.tyStr
name_quick tw18350638575300117064 for PySem.Manifest.ty_str by Mine.tyStr
name_quick tw9577309144901391297 for PySem.Manifest.ty_str by Mine.tyStr
name_quick tw3820604794100220378 for PySem.Manifest.ty_str by Mine.tyStr
name_quick tw11543547407058413889 for PySem.Manifest.ty_str by Mine.tyStr
name_quick tw3470799630455053000 for PySem.Manifest.ty_str by Mine.tyStr
name_quick tw14973007898608030118 for PySem.Manifest.ty_str by Mine.tyStr
name_quick tw3386650904741475044 for PySem.Manifest.ty_str by Mine.tyStr
name_quick tw7269565832213808900 for PySem.Manifest.ty_str by Mine.tyStr
name_quick tw10010936943081839664 for PySem.Manifest.ty_str by Mine.tyStr
name_quick tw17954736447514056666 for PySem.Manifest.ty_str by Mine.tyStr
name_quick tw219737044198020058 for PySem.Manifest.ty_str by Mine.tyStr
name_quick tw6434138532213402376 for PySem.Manifest.ty_str by Mine.tyStr
name_quick tw16752143609539240740 for PySem.Manifest.ty_str by Mine.tyStr
name_quick tw1763209079605825380 for PySem.Manifest.ty_str by Mine.tyStr
name_quick tw17024950926791866790 for PySem.Manifest.ty_str by Mine.tyStr
name_quick tw4278798014809849964 for PySem.Manifest.ty_str by Mine.tyStr
name_quick tw4071324889030633612 for PySem.Manifest.ty_str by Mine.tyStr
name_quick tw14386061602966655976 for PySem.Manifest.ty_str by Mine.tyStr
name_quick tw8595292554425487202 for PySem.Manifest.ty_str by Mine.tyStr
name_quick tw2664551874359636763 for PySem.Manifest.ty_str by Mine.tyStr
name_quick tw11892598404827812706 for PySem.Manifest.ty_str by Mine.tyStr
name_quick tw3953757239420563355 for PySem.Manifest.ty_str by Mine.tyStr
name_quick tw15041003319150489328 for PySem.Manifest.ty_str by Mine.tyStr
name_quick tw9136488742655976645 for PySem.Manifest.ty_str by Mine.tyStr
name_quick tw9315938663221665524 for PySem.Manifest.ty_str by Mine.tyStr
name_quick tw5357591511691535388 for PySem.Manifest.ty_str by Mine.tyStr
name_quick tw8703263022893421829 for PySem.Manifest.ty_str by Mine.tyStr
name_quick tw9951705424602377420 for PySem.Manifest.ty_str by Mine.tyStr
name_quick tw11161088081135249708 for PySem.Manifest.ty_str by Mine.tyStr
name_quick tw16432479971616331241 for PySem.Manifest.ty_str by Mine.tyStr
name_quick tw15742981410569661332 for PySem.Manifest.ty_str by Mine.tyStr
name_quick tw15278061642289888581 for PySem.Manifest.ty_str by Mine.tyStr
name_quick tw14834023430324568649 for PySem.Manifest.ty_str by Mine.tyStr
name_quick tw2447775223705975068 for PySem.Manifest.ty_str by Mine.tyStr
name_quick tw3764465048917985505 for PySem.Manifest.ty_str by Mine.tyStr
name_quick tw7275051467321613617 for PySem.Manifest.ty_str by Mine.tyStr
name_quick tw11036193050239951465 for PySem.Manifest.ty_str by Mine.tyStr
name_quick tw7619357645376055252 for PySem.Manifest.ty_str by Mine.tyStr
name_quick tw5396446701170858492 for PySem.Manifest.ty_str by Mine.tyStr
name_quick tw5697894365363955025 for PySem.Manifest.ty_str by Mine.tyStr
name_quick tw2902314222560053993 for PySem.Manifest.ty_str by Mine.tyStr
name_quick tw7581352650102555174 for PySem.Manifest.ty_str by Mine.tyStr
name_quick tw11625766737575182897 for PySem.Manifest.ty_str by Mine.tyStr
name_quick tw12866136484021002089 for PySem.Manifest.ty_str by Mine.tyStr
name_quick tw13236226663087606529 for PySem.Manifest.ty_str by Mine.tyStr
name_quick tw13317431791736044220 for PySem.Manifest.ty_str by Mine.tyStr
name_quick tw6380047634161181297 for PySem.Manifest.ty_str by Mine.tyStr
name_quick tw2315820567201803617 for PySem.Manifest.ty_str by Mine.tyStr
name_quick tw17475289236778735526 for PySem.Manifest.ty_str by Mine.tyStr
name_quick tw17344680358763864322 for PySem.Manifest.ty_str by Mine.tyStr
name_quick tw1258717718454355964 for PySem.Manifest.ty_str by Mine.tyStr
name_quick tw15323854079317868165 for PySem.Manifest.ty_str by Mine.tyStr
name_quick tw8017206721242287953 for PySem.Manifest.ty_str by Mine.tyStr
name_quick tw13141144453892091621 for PySem.Manifest.ty_str by Mine.tyStr
name_quick tw7250012664060256230 for PySem.Manifest.ty_str by Mine.tyStr
name_quick tw18220123701641295943 for PySem.Manifest.ty_str by Mine.tyStr
name_quick tw15034313371233782410 for PySem.Manifest.ty_str by Mine.tyStr
name_quick tw12809422525583811893 for PySem.Manifest.ty_str by Mine.tyStr
name_quick tw10487160056961263569 for PySem.Manifest.ty_str by Mine.tyStr
name_quick tw17517737089405305841 for PySem.Manifest.ty_str by Mine.tyStr
name_quick tw2354101950205528012 for PySem.Manifest.ty_str by Mine.tyStr
name_quick tw12329403913580668285 for PySem.Manifest.ty_str by Mine.tyStr
name_quick tw10470071008263537045 for PySem.Manifest.ty_str by Mine.tyStr
name_quick tw8488268690174267210 for PySem.Manifest.ty_str by Mine.tyStr
name_quick tw14553827428707814869 for PySem.Manifest.ty_str by Mine.tyStr
name_quick tw17183712847048597117 for PySem.Manifest.ty_str by Mine.tyStr
name_quick tw6929956602132211858 for PySem.Manifest.ty_str by Mine.tyStr
name_quick tw9948023125614773506 for PySem.Manifest.ty_str by Mine.tyStr
name_quick tw7892128664451923741 for PySem.Manifest.ty_str by Mine.tyStr
name_quick tw2193789692954389824 for PySem.Manifest.ty_str by Mine.tyStr
name_quick tw17552769576498331613 for PySem.Manifest.ty_str by Mine.tyStr
name_quick tw12726346659333912481 for PySem.Manifest.ty_str by Mine.tyStr
name_quick tw4748654258956052638 for PySem.Manifest.ty_str by Mine.tyStr
name_quick tw7035115661146626270 for PySem.Manifest.ty_str by Mine.tyStr
name_quick tw11108263761283441063 for PySem.Manifest.ty_str by Mine.tyStr
name_quick tw2378363196638174374 for PySem.Manifest.ty_str by Mine.tyStr
name_quick tw17964007177503468958 for PySem.Manifest.ty_str by Mine.tyStr
name_quick tw16869277618539721502 for PySem.Manifest.ty_str by Mine.tyStr
name_quick tw17537794083376710389 for PySem.Manifest.ty_str by Mine.tyStr
name_quick tw8732485361984058174 for PySem.Manifest.ty_str by Mine.tyStr
name_quick tw1962928258387122110 for PySem.Manifest.ty_str by Mine.tyStr
name_quick tw6714822604882049554 for PySem.Manifest.ty_str by Mine.tyStr
name_quick tw11328821685186248670 for PySem.Manifest.ty_str by Mine.tyStr
name_quick tw7286323032743288035 for PySem.Manifest.ty_str by Mine.tyStr
name_quick tw16414604833108395602 for PySem.Manifest.ty_str by Mine.tyStr
name_quick tw1617757218408452269 for PySem.Manifest.ty_str by Mine.tyStr
name_quick tw14884601019740666482 for PySem.Manifest.ty_str by Mine.tyStr
name_quick tw12224578244612797663 for PySem.Manifest.ty_str by Mine.tyStr
name_quick tw18126140380344562322 for PySem.Manifest.ty_str by Mine.tyStr
name_quick tw16593013826814733010 for PySem.Manifest.ty_str by Mine.tyStr
name_quick tw5189142188285759775 for PySem.Manifest.ty_str by Mine.tyStr
name_quick tw5076957145309523181 for PySem.Manifest.ty_str by Mine.tyStr
name_quick tw11729385059970357855 for PySem.Manifest.ty_str by Mine.tyStr
name_quick tw1772237422875290029 for PySem.Manifest.ty_str by Mine.tyStr
name_quick tw8224813933742928703 for PySem.Manifest.ty_str by Mine.tyStr
name_quick tw12095823642532355627 for PySem.Manifest.ty_str by Mine.tyStr
name_quick tw17101871299007795629 for PySem.Manifest.ty_str by Mine.tyStr
name_quick tw10227693086864044499 for PySem.Manifest.ty_str by Mine.tyStr
name_quick tw8459811325457737761 for PySem.Manifest.ty_str by Mine.tyStr
set_option maxHeartbeats 8000000 in
open_top hd for PySem.Challenge.rw_pb0207_01
end Mine
namespace Mine
section
example : True := by w_top off; trivial
theorem room_of {a : Nat} (h : a ≤ 600) : a < recursionLimit := Nat.lt_of_le_of_lt h (by decide)
theorem units_of {a : Nat} (h : a ≤ 5000) : a < cLine := Nat.lt_of_le_of_lt h (by decide)

theorem memK {a : Addr × Obj} {l : List (Addr × Obj)} (h : a ∈ l) : List.Mem a l := h
theorem News.subl {h₀ h : Heap} {L : Addr} {l l' : List (Addr × Obj)} (N : News h₀ L h l) (hs : ∀ p ∈ l', p ∈ l) : News h₀ L h l' := fun p hp => N p (hs p hp)
theorem memAppR {a : Addr × Obj} {l l' : List (Addr × Obj)} (h : a ∈ l') : a ∈ l ++ l' := List.mem_append_right _ h
end
section
example : True := by w_top off; trivial
/-! data of the scene -/
noncomputable abbrev pw : Program := PySem.Challenge.rw_pb0207_01.row.prog
noncomputable def mkG (g : Int) : Bool := g == 3 || g == 4

structure Cx (w : World) (A₀ A : Around) (base h₀ : Heap) (outer : List Env) (env : Env) (L : Addr) (mg mb : Str → Option Value) (mean : ExcName → Option Value) (loose : List Str) (n : Nat) : Prop where
  B : Below A₀ base outer h₀
  X : (hd.heap_39 w.params).In h₀
  T : Top topProg loose mean mg mb h₀
  hA : A.frames = some (env :: outer)
  hf : env.frame = some L
  hke : env.scope.kind = .function
  hh : A.handled = none
  hdep : A.depth + n ≤ 500
  hun : A.units + 20 * n ≤ 4000

/-- an entry of an object's dict -/
noncomputable abbrev ent (P : Params) (k : String) (t : Tok) (v : Value) : DictEntry := ⟨PyData.keyHash P (Str.ofString k), .str (Str.ofString k) t, v⟩

structure InfoD where
  a : Addr
  d : Addr
  glyph : Int
  gt : Tok
  cluster : Int
  mask : Int
  mt : Tok
  marked : Bool
  k : Nat → Tok

noncomputable def infoEs (P : Params) (x : InfoD) : List DictEntry :=
  [ent P "code" (x.k 0) (.int 0 (x.k 1)), ent P "glyph" (x.k 2) (.int x.glyph x.gt), ent P "cluster" (x.k 3) (.int x.cluster (x.k 4)), ent P "mask" (x.k 5) (.int x.mask x.mt),
   ent P "is_unsafe" (x.k 6) (.bool x.marked), ent P "lig_id" (x.k 7) (.int 0 (x.k 8)), ent P "lig_part" (x.k 9) (.int 0 (x.k 10)), ent P "lig_count" (x.k 11) (.int 0 (x.k 12)), ent P "split_id" (x.k 13) (.int 0 (x.k 14)),
   ent P "kind" (x.k 15) (.str (Str.ofString "") (x.k 16)), ent P "x_advance" (x.k 17) (.int 0 (x.k 18)), ent P "y_advance" (x.k 19) (.int 0 (x.k 20)), ent P "x_offset" (x.k 21) (.int 0 (x.k 22)), ent P "y_offset" (x.k 23) (.int 0 (x.k 24)),
   ent P "parent" (x.k 25) (.int 0 (x.k 26)), ent P "bond" (x.k 27) (.str (Str.ofString "") (x.k 28))]

/-- addresses and values of the scene that a run does not turn -/
structure ScD where
  sc : Addr
  dsc : Addr
  bf : Addr
  dbf : Addr
  rw : Addr
  gd : Addr
  dgd : Addr
  cd : Addr
  dcd : Addr
  cm : Addr
  ocm : Obj
  D3 : List (PyData × PyData)
  at_ : Addr
  sets : Addr
  pts : Addr
  crs : Addr
  lks : Addr
  lu : Addr
  dlu : Addr
  tl : Addr
  st : Addr
  pass : Bool
  mask : Int
  mt : Tok
  k : Nat → Tok

noncomputable def scEs (P : Params) (x : ScD) : List DictEntry :=
  [ent P "buffer" (x.k 0) (.ref x.bf), ent P "gdef" (x.k 1) (.ref x.gd), ent P "lookups" (x.k 2) (.ref x.lks), ent P "lookup" (x.k 3) (.ref x.lu), ent P "mask" (x.k 4) (.int x.mask x.mt), ent P "depth" (x.k 5) (.int 0 (x.k 6)), ent P "steps" (x.k 7) (.ref x.st)]
noncomputable def bfEs (P : Params) (x : ScD) : List DictEntry :=
  [ent P "row" (x.k 8) (.ref x.rw), ent P "is_backward" (x.k 9) (.bool false), ent P "last_lig" (x.k 10) (.int 0 (x.k 11)), ent P "last_split" (x.k 12) (.int 0 (x.k 13))]
noncomputable def gdEs (P : Params) (x : ScD) : List DictEntry :=
  [ent P "classes" (x.k 14) (.ref x.cd), ent P "attach" (x.k 15) (.ref x.at_), ent P "sets" (x.k 16) (.ref x.sets), ent P "points" (x.k 17) (.ref x.pts), ent P "carets" (x.k 18) (.ref x.crs)]
noncomputable def cdEs (P : Params) (x : ScD) : List DictEntry := [ent P "classes" (x.k 19) (.ref x.cm)]
noncomputable def luEs (P : Params) (x : ScD) : List DictEntry :=
  [ent P "kind" (x.k 20) (.str (Str.ofString "reverse") (x.k 21)), ent P "flag" (x.k 22) (.int (if x.pass then 8 else 0) (x.k 23)), ent P "mark_set" (x.k 24) (.int 0 (x.k 25)), ent P "tables" (x.k 26) (.ref x.tl)]

/-- the scene, but for the row and the tables -/
structure ScIn (w : World) (x : ScD) (news : List (Addr × Obj)) : Prop where
  m1 : (x.sc, instObj 65 x.dsc) ∈ news
  m2 : (x.dsc, dictOf (scEs w.params x) 7) ∈ news
  m3 : (x.bf, instObj 193 x.dbf) ∈ news
  m4 : (x.dbf, dictOf (bfEs w.params x) 4) ∈ news
  m5 : (x.gd, instObj 670 x.dgd) ∈ news
  m6 : (x.dgd, dictOf (gdEs w.params x) 5) ∈ news
  m7 : (x.cd, instObj 573 x.dcd) ∈ news
  m8 : (x.dcd, dictOf (cdEs w.params x) 1) ∈ news
  m9 : (x.lu, instObj 43 x.dlu) ∈ news
  m10 : (x.dlu, dictOf (luEs w.params x) 4) ∈ news
  m11 : (x.cm, x.ocm) ∈ news
  m12 : (x.cm == sysModules) = false
  m13 : ∃ kvs, x.ocm.IsDictOf (intKind pw w) kvs ∧ PyProof.V.FlatPairs PyData.int kvs x.D3
  m14 : ∀ i : Int, Spec.lookup (.int i) x.D3 = (if mkG i then some (.int 3) else none)

/-- the row: its list and its infos -/
structure RowIn (w : World) (rw : Addr) (I : List InfoD) (news : List (Addr × Obj)) : Prop where
  r1 : ∃ n, (rw, listOf (I.map fun x => Value.ref x.a).toArray n) ∈ news
  r2 : ∀ x ∈ I, (x.a, instObj 142 x.d) ∈ news ∧ (x.d, dictOf (infoEs w.params x) 16) ∈ news
  r3 : I.length ≤ 8
  r4 : (I.map (·.d)).Nodup


section
variable {prog : Program} {w : World} {A : Around} {E : Value → Shared → Prop} {s : Shared} {h₀ : Heap} {L : Addr} {m : Str → Option Value} {news : List (Addr × Obj)}
theorem item_L {value slice : Expr} {l : Addr} {vs : List Value} {n : Nat} {k : Int} {u : Tok} {v : Value} {Q : Value → Shared → Prop} (N : News h₀ L s.heap news) (hm : (l, listOf vs.toArray n) ∈ news)
    (h0 : 0 ≤ k) (hhi : k < 2 ^ 63) (hx : vs[k.toNat]? = some v) (h : Q v s)
    (hs : subscripted slice false (.ref l) (.int k u) = operate [.ref l, .int k u] (getItem (.ref l) (.int k u)) := by with_unfolding_all rfl) :
    wpAny (model prog w) A (subscriptTail value slice (.ref l) (.int k u)) Q E s :=
  have hL : s.heap.IsList l vs.toArray := ⟨_, (N _ hm).1, rfl, n, rfl⟩
  tail_any hL.typeIs slot_list_getitem.lookup (wpAny_getItem_list hL h0 hhi (by simpa using hx) h) hs
theorem get_int {d : Addr} {D : List (PyData × PyData)} {i z r : Int} {t tz : Tok} {Q : Value → Shared → Prop} (T : IntTab prog w s.heap d D) (hr : (Spec.lookup (.int i) D).getD (.int z) = .int r)
    (h : ∀ t', Q (.int r t') { s with toks := s.toks + 1 }) : wpAny (model prog w) A (call (.builtin "dict.get") [.ref d, .int i t, .int z tz]) Q E s :=
  call_get2_intTab T (PyProof.V.Flat.int z tz) fun v hv => by rw [hr] at hv; obtain ⟨t', rfl⟩ := PyProof.V.Flat.int_inv hv; exact h t'
end
end
section
example : True := by w_top off; trivial
/-! loops: a while and a for over a state of one's own -/
theorem frCongr {h₀ h : Heap} {L : Addr} {m m' : Str → Option Value} (F : Fr h₀ L h m) (e : ∀ y, m y = m' y) : Fr h₀ L h m' := by
  have : m = m' := funext e
  exact this ▸ F

theorem mmS {y k : Str} {l v r : Option Value} (h1 : y = k → l = v) (h2 : ¬ y = k → l = r) : l = if y = k then v else r := by
  by_cases h : y = k
  · rw [if_pos h]; exact h1 h
  · rw [if_neg h]; exact h2 h

theorem len1 {α : Type} {ys : List α} (h : ys.length = 1) : ∃ a, ys = [a] := by
  cases ys with
  | nil => cases h
  | cons a t => cases t with
    | nil => exact ⟨a, rfl⟩
    | cons b u => cases h
theorem len2 {α : Type} {ys : List α} (h : ys.length = 2) : ∃ a b, ys = [a, b] := by
  cases ys with
  | nil => cases h
  | cons a t =>
    obtain ⟨b, rfl⟩ := len1 (Nat.succ.inj h)
    exact ⟨a, b, rfl⟩
theorem mmH {y k : Str} {v r : Option Value} {l : Str → Option Value} (h1 : l k = v) (h2 : ¬ y = k → l y = r) : l y = if y = k then v else r := by
  by_cases h : y = k
  · rw [if_pos h, h]; exact h1
  · rw [if_neg h]; exact h2 h
theorem mmN {y k : Str} {v l r : Option Value} (h : ¬ y = k) (h2 : l = r) : (if y = k then v else l) = r := by rw [if_neg h]; exact h2
theorem hideG {P : Prop} (h : ∀ G : Prop, (P → G) → G) : P := h P id

noncomputable def WEnd {σ : Type} (h₀ : Heap) (L : Addr) (s : Shared) (mm : σ → Str → Option Value) (Led : σ → List (Addr × Obj)) (P : σ → Prop) (μ : σ → Nat) (c : σ) (s₂ : Shared) : Prop :=
  ∃ (c' : σ) (h' : Heap) (tk : Nat) (m' : Str → Option Value) (news' : List (Addr × Obj)), s₂ = { s with heap := h', toks := tk } ∧ Fr h₀ L h' m' ∧ (∀ y, m' y = mm c' y) ∧ News h₀ L h' news' ∧ (∀ p ∈ Led c', p ∈ news') ∧ P c' ∧ μ c' < μ c
noncomputable def WPost {σ : Type} (h₀ : Heap) (L : Addr) (s : Shared) (mm : σ → Str → Option Value) (Led : σ → List (Addr × Obj)) (P : σ → Prop) (μ : σ → Nat) (Q : Flow → Shared → Prop) (c : σ) (f : Flow) (s₂ : Shared) : Prop :=
  match f with
  | .ret v => Q (.ret v) s₂
  | .brk => Q .next s₂
  | _ => WEnd h₀ L s mm Led P μ c s₂
theorem wEnd {σ : Type} {h₀ : Heap} {L : Addr} {s : Shared} {mm : σ → Str → Option Value} {Led : σ → List (Addr × Obj)} {P : σ → Prop} {μ : σ → Nat} {c : σ} {h' : Heap} {tk : Nat} {m' : Str → Option Value} {news' : List (Addr × Obj)} (c' : σ)
    (F : Fr h₀ L h' m') (N : News h₀ L h' news') (hm : ∀ y, m' y = mm c' y) (hn : ∀ p ∈ Led c', p ∈ news') (hp : P c') (hmu : μ c' < μ c) : WEnd h₀ L s mm Led P μ c { s with heap := h', toks := tk } :=
  ⟨c', h', tk, m', news', rfl, F, hm, N, hn, hp, hmu⟩

section
variable {prog : Program} {w : World} {A : Around} {E : Value → Shared → Prop} {Q : Flow → Shared → Prop} {s : Shared} {env : Env} {h₀ : Heap} {L : Addr} {x : Str} {body : List Stmt}
theorem whileX {σ : Type} {test : Expr} {pos : Pos} (mm : σ → Str → Option Value) (Led : σ → List (Addr × Obj)) (P : σ → Prop) (μ : σ → Nat) (c₀ : σ) {m₀ : Str → Option Value} {news₀ : List (Addr × Obj)}
    (F : Fr h₀ L s.heap m₀) (N : News h₀ L s.heap news₀) (hm : ∀ y, m₀ y = mm c₀ y) (hn : ∀ p ∈ Led c₀, p ∈ news₀) (hp : P c₀)
    (turn : ∀ (c : σ) h tk, P c → Fr h₀ L h (mm c) → News h₀ L h (Led c) →
      wpAny (model prog w) A (isTrue test env (eval test env)) (fun b s₂ =>
        if b = true then wpAny (model prog w) A (execs body env) (WPost h₀ L s mm Led P μ Q c) E s₂ else Q .next s₂) E { s with heap := h, toks := tk })
    (hE : PassesOwn (model prog w) A env E := by passes_own) :
    wpAny (model prog w) A (exec (.While test body [] pos) env) Q E s := by
  refine While_inv2 (fun n m nx => ∃ c : σ, nx = Led c ∧ μ c = n ∧ (∀ y, m y = mm c y) ∧ P c) F (fun p hp => N p (hn p hp) : News h₀ L s.heap (Led c₀)) ⟨c₀, rfl, rfl, hm, hp⟩ ?_ hE
  rintro n m₁ nx h tk F₁ N₁ ⟨c, rfl, rfl, hm₁, hp₁⟩
  refine wpAny_mono (turn c h tk hp₁ (frCongr F₁ hm₁) N₁) (fun b s₂ p => ?_) fun _ _ x => x
  cases b with
  | false => simpa using p
  | true =>
    simp only [if_true] at p ⊢
    refine wpAny_mono p (fun f s₃ q => ?_) fun _ _ x => x
    cases f with
    | ret v => exact q
    | brk => exact q
    | next =>
      obtain ⟨c', h', tk', m', news', rfl, F', hm', N', hn', hp', hmu⟩ := q
      exact ⟨h', tk', m', Led c', μ c', rfl, F', fun p hp => N' p (hn' p hp), hmu, c', rfl, rfl, hm', hp'⟩
    | cont =>
      obtain ⟨c', h', tk', m', news', rfl, F', hm', N', hn', hp', hmu⟩ := q
      exact ⟨h', tk', m', Led c', μ c', rfl, F', fun p hp => N' p (hn' p hp), hmu, c', rfl, rfl, hm', hp'⟩

noncomputable def FEnd {σ : Type} (h₀ : Heap) (L : Addr) (x : Str) (mm : σ → Str → Option Value) (Led : σ → List (Addr × Obj)) (P : Nat → σ → Prop) (wr : List Addr) (own : List (Addr × Obj)) (i : Nat) (s₁ s₂ : Shared) : Prop :=
  ∃ (c' : σ) (h' : Heap) (tk : Nat) (m' : Str → Option Value) (news' : List (Addr × Obj)), s₂ = { s₁ with heap := h', toks := tk } ∧ Fr h₀ L h' m' ∧ (∀ y, y ≠ x → m' y = mm c' y) ∧ News h₀ L h' news' ∧ (∀ p ∈ own, p ∈ news') ∧ (∀ p ∈ Led c', p ∈ news') ∧ (∀ p ∈ Led c', p.1 ∉ wr) ∧ P i c'
noncomputable def FPost {σ : Type} (h₀ : Heap) (L : Addr) (x : Str) (mm : σ → Str → Option Value) (Led : σ → List (Addr × Obj)) (P : Nat → σ → Prop) (wr : List Addr) (own : List (Addr × Obj)) (i : Nat) (s₁ : Shared) (Q : Flow → Shared → Prop) (f : Flow) (s₂ : Shared) : Prop :=
  match f with
  | .ret v => Q (.ret v) s₂
  | .brk => Q .next s₂
  | _ => FEnd h₀ L x mm Led P wr own i s₁ s₂
theorem fEnd {σ : Type} {mm : σ → Str → Option Value} {Led : σ → List (Addr × Obj)} {P : Nat → σ → Prop} {wr : List Addr} {own : List (Addr × Obj)} {i : Nat} {s₁ : Shared} {h' : Heap} {tk : Nat} {m' : Str → Option Value} {news' : List (Addr × Obj)} (c' : σ)
    (F : Fr h₀ L h' m') (N : News h₀ L h' news') (hm : ∀ y, y ≠ x → m' y = mm c' y) (ho : ∀ p ∈ own, p ∈ news') (hn : ∀ p ∈ Led c', p ∈ news') (hw : ∀ p ∈ Led c', p.1 ∉ wr) (hp : P i c') :
    FEnd h₀ L x mm Led P wr own i s₁ { s₁ with heap := h', toks := tk } := ⟨c', h', tk, m', news', rfl, F, hm, N, ho, hn, hw, hp⟩

theorem loopX {σ : Type} {I : Addr} {fp wr : List Addr} {n : Nat} {Pi : Nat → Value → Prop} {St : Nat → Heap → Prop} (mm : σ → Str → Option Value) (Led : σ → List (Addr × Obj)) (P : Nat → σ → Prop) (c₀ : σ) {m₀ : Str → Option Value}
    (W : Walks prog w A I fp wr n Pi St) (hLf : env.locals ∉ fp) (hwr : ∀ b ∈ wr, h₀.get? b = none) (hst : St 0 s.heap)
    (F : Fr h₀ env.locals s.heap m₀) (hm : ∀ y, y ≠ x → m₀ y = mm c₀ y) (N : News h₀ env.locals s.heap (Led c₀)) (hoff : ∀ p ∈ Led c₀, p.1 ∉ wr) (hp : P 0 c₀)
    (turn : ∀ i v c h tk own, i < n → Pi i v → P i c → (∀ p ∈ own, p.1 ∈ fp) → (∀ b ∈ fp, h₀.get? b = none → ∀ o, h.get? b = some o → (b, o) ∈ own) → St (i + 1) h → (∀ p ∈ Led c, p.1 ∉ wr) →
      Fr h₀ env.locals h (fun y => if y = x then some v else mm c y) → News h₀ env.locals h (own ++ Led c) →
      wpAny (model prog w) A (execs body env) (FPost h₀ env.locals x mm Led P wr own (i + 1) { s with heap := h, toks := tk } Q) E { s with heap := h, toks := tk })
    (done : ∀ c h tk u, P n c → Fr h₀ env.locals h (fun y => if y = x then u else mm c y) → News h₀ env.locals h (Led c) → Q .next { s with heap := h, toks := tk }) :
    LoopAtV prog w A h₀ env x body Q E (.ref I) s := by
  let J : Nat → (Str → Option Value) → List (Addr × Obj) → Prop := fun i m nx => ∃ c, nx = Led c ∧ (∀ y, y ≠ x → m y = mm c y) ∧ P i c
  refine ⟨I, fp, wr, n, Pi, St, m₀, Led c₀, J, rfl, W, hLf, hwr, hoff, hst, F, N, ⟨c₀, rfl, hm, hp⟩, ?_, ?_⟩
  · rintro i v m₁ nx s₁ own ⟨hh', tk', rfl⟩ hin hP ⟨c, rfl, hm₁, hp₁⟩ hoff' hsub hget hall hst₁ F₁ N₁
    have F₂ := frCongr F₁ (m' := fun y => if y = x then some v else mm c y) (fun y => by
      by_cases h1 : y = x
      · simp [h1]
      · simp only [if_neg h1]; exact hm₁ y h1)
    refine wpAny_mono (turn i v c hh' tk' own hin hP hp₁ hsub hall hst₁ hoff' F₂ N₁) (fun f s₂ p => ?_) fun _ _ e => e
    have fin : FEnd h₀ env.locals x mm Led P wr own (i + 1) { s with heap := hh', toks := tk' } s₂ → LoopStepU h₀ env.locals wr own (J (i + 1)) { s with heap := hh', toks := tk' } .next s₂ := by
      rintro ⟨c', h', tk, m', news', e, F', hm', N', ho, hn, hw, hp'⟩
      exact ⟨rfl, h', tk, m', Led c', e, F', fun p hp => N' p ((List.mem_append.mp hp).elim (ho p) (hn p)), hw, c', rfl, hm', hp'⟩
    cases f with
    | ret v => exact .ret p
    | brk => exact .brk p
    | next => exact .next (fin p)
    | cont => exact .cont (fin p)
  · rintro h' tk m' nx F' N' _ ⟨c, rfl, hm', hp'⟩
    refine done c h' tk (m' x) hp' (frCongr F' fun y => ?_) N'
    by_cases h1 : y = x
    · simp [h1]
    · simp only [if_neg h1]; exact hm' y h1


theorem walks_keep {I l : Addr} {o : Obj} {fp wr : List Addr} {n : Nat} {Pi : Nat → Value → Prop} {St : Nat → Heap → Prop} (W : Walks prog w A I fp wr n Pi St) (hl : l ∈ fp) (hw : l ∉ wr) :
    Walks prog w A I fp wr n Pi (fun i h => St i h ∧ h.get? l = some o) where
  sub := W.sub
  frame := fun i h h' st hk => ⟨W.frame i h h' st.1 hk, hk l hl o st.2⟩
  item := fun i s Q E hi st hQ => W.item i s Q E hi st.1 fun v h' tk hP hst hk => hQ v h' tk hP ⟨hst, hk l o hw st.2⟩ hk
  done := fun s Q E st hQ => W.done s Q E st.1 hQ
  self := fun i s Q E st hQ => W.self i s Q E st.1 hQ

theorem own_two {I l : Addr} {oI ol : Obj} {h : Heap} {own : List (Addr × Obj)} (hsub : ∀ p ∈ own, p.1 ∈ [I, l]) (hI : h.get? I = some oI) (hl : h.get? l = some ol) (hg : ∀ p ∈ own, h.get? p.1 = some p.2) : ∀ p ∈ own, p = (I, oI) ∨ p = (l, ol) := by
  intro p hp
  have h3 := hg p hp
  rcases List.mem_cons.mp (hsub p hp) with e | e
  · left
    have : p.2 = oI := by rw [e, hI] at h3; exact (Option.some.inj h3).symm
    exact Prod.ext e this
  · right
    have e := List.mem_singleton.mp e
    have : p.2 = ol := by rw [e, hl] at h3; exact (Option.some.inj h3).symm
    exact Prod.ext e this

/-- over a sequence of the ledger that stays -/
theorem seqX {σ : Type} {l I : Addr} {vs : List Value} {ol : Obj} {St : Nat → Heap → Prop} (mm : σ → Str → Option Value) (Led : σ → List (Addr × Obj)) (P : Nat → σ → Prop) (c₀ : σ) {m₀ : Str → Option Value}
    (W : Walks prog w A I [I, l] [I] vs.length (fun i v => vs[i]? = some v) St) (hob : ∀ i h, St i h → ∃ o, h.get? I = some o ∧ (o.cls = .type "list_iterator" ∨ o.cls = .type "tuple_iterator")) (hIl : l ≠ I) (hst : St 0 s.heap) (hI0 : h₀.get? I = none) (hIL : I ≠ env.locals)
    (hl : s.heap.get? l = some ol) (hlL : l ≠ env.locals) (hl0 : h₀.get? l = none)
    (F : Fr h₀ env.locals s.heap m₀) (N : News h₀ env.locals s.heap (Led c₀)) (hm : ∀ y, y ≠ x → m₀ y = mm c₀ y) (hoff : ∀ p ∈ Led c₀, p.1 ≠ I) (hp : P 0 c₀)
    (turn : ∀ i v c h tk I oI, l ≠ I → (oI.cls = .type "list_iterator" ∨ oI.cls = .type "tuple_iterator") → vs[i]? = some v → P i c → (∀ p ∈ Led c, p.1 ≠ I) →
      Fr h₀ env.locals h (fun y => if y = x then some v else mm c y) → News h₀ env.locals h ((I, oI) :: (l, ol) :: Led c) →
      wpAny (model prog w) A (execs body env) (FPost h₀ env.locals x mm Led P [I] [(I, oI), (l, ol)] (i + 1) { s with heap := h, toks := tk } Q) E { s with heap := h, toks := tk })
    (done : ∀ c h tk u, P vs.length c → Fr h₀ env.locals h (fun y => if y = x then u else mm c y) → News h₀ env.locals h (Led c) → Q .next { s with heap := h, toks := tk }) :
    LoopAtV prog w A h₀ env x body Q E (.ref I) s := by
  have W' := walks_keep (l := l) (o := ol) W (by simp) (by simpa using hIl)
  refine loopX mm Led P c₀ W' (by simp; exact ⟨Ne.symm hIL, Ne.symm hlL⟩) (fun b hb => by rw [List.mem_singleton.mp hb]; exact hI0) ⟨hst, hl⟩ F hm N (fun p hp => by simpa using hoff p hp) hp ?_ done
  intro i v c h tk own hin hP hp' hsub hall hst' hoff' F₁ N₁
  obtain ⟨oI, hoI, hcI⟩ := hob _ _ hst'.1
  have hIown : (I, oI) ∈ own := hall _ (by simp) hI0 _ hoI
  have hlown : (l, ol) ∈ own := hall _ (by simp) hl0 _ hst'.2
  have hown := own_two hsub hoI hst'.2 (fun p hp => (N₁ p (List.mem_append_left _ hp)).1)
  refine wpAny_mono (turn i v c h tk I oI hIl hcI hP hp' (fun p hp => by simpa using hoff' p hp) F₁ (fun p hp => ?_)) (fun f s₂ q => ?_) fun _ _ e => e
  · rcases List.mem_cons.mp hp with rfl | hp
    · exact N₁ _ (List.mem_append_left _ hIown)
    · rcases List.mem_cons.mp hp with rfl | hp
      · exact N₁ _ (List.mem_append_left _ hlown)
      · exact N₁ _ (List.mem_append_right _ hp)
  · have fin : FEnd h₀ env.locals x mm Led P [I] [(I, oI), (l, ol)] (i + 1) { s with heap := h, toks := tk } s₂ → FEnd h₀ env.locals x mm Led P [I] own (i + 1) { s with heap := h, toks := tk } s₂ := by
      rintro ⟨c', h', tk', m', news', e, F', hm', N', ho, hn, hw, hp'⟩
      exact ⟨c', h', tk', m', news', e, F', hm', N', (fun p hp => by rcases hown p hp with rfl | rfl <;> exact ho _ (by simp)), hn, hw, hp'⟩
    cases f with
    | ret v => exact q
    | brk => exact q
    | next => exact fin q
    | cont => exact fin q

theorem forListX {σ : Type} {l : Addr} {vs : List Value} {nn : Nat} (mm : σ → Str → Option Value) (Led : σ → List (Addr × Obj)) (P : Nat → σ → Prop) (c₀ : σ) {m₀ : Str → Option Value} {news₀ : List (Addr × Obj)}
    (hh : A.handled = none) (hl : (l, listOf vs.toArray nn) ∈ news₀) (F : Fr h₀ env.locals s.heap m₀) (N : News h₀ env.locals s.heap news₀) (hm : ∀ y, y ≠ x → m₀ y = mm c₀ y) (hn : ∀ p ∈ Led c₀, p ∈ news₀) (hp : P 0 c₀)
    (turn : ∀ i v c h tk I oI, l ≠ I → (oI.cls = .type "list_iterator" ∨ oI.cls = .type "tuple_iterator") → vs[i]? = some v → P i c → (∀ p ∈ Led c, p.1 ≠ I) →
      Fr h₀ env.locals h (fun y => if y = x then some v else mm c y) → News h₀ env.locals h ((I, oI) :: (l, listOf vs.toArray nn) :: Led c) →
      wpAny (model prog w) A (execs body env) (FPost h₀ env.locals x mm Led P [I] [(I, oI), (l, listOf vs.toArray nn)] (i + 1) { s with heap := h, toks := tk } Q) E { s with heap := h, toks := tk })
    (done : ∀ c h tk u, P vs.length c → Fr h₀ env.locals h (fun y => if y = x then u else mm c y) → News h₀ env.locals h (Led c) → Q .next { s with heap := h, toks := tk }) :
    wpAny (model prog w) A (pyIter (.ref l)) (fun it s₂ => LoopAtV prog w A h₀ env x body Q E it s₂) E s := by
  have hls : s.heap.IsList l vs.toArray := ⟨_, (N _ hl).1, rfl, nn, rfl⟩
  have hlt : l < s.heap.objs.size := Heap.lt_size (N _ hl).1
  have hne : l ≠ s.heap.objs.size := Nat.ne_of_lt hlt
  refine wpAny_pyIter_list hls ?_
  have W := Walks.list (prog := prog) (w := w) hh s.heap.objs.size l hne vs.toArray
  simp only [List.size_toArray, List.getElem?_toArray] at W
  exact seqX mm Led P c₀ W (fun i h st => by obtain ⟨⟨o, e, hc, _⟩, _⟩ := st; exact ⟨o, e, .inl hc⟩) hne ⟨⟨_, Heap.get?_push_size _ rfl, rfl, rfl⟩, hls.at fun o e => Heap.get?_push_of_some _ e⟩ (next_is_new F) (fun e => absurd F.ns.lt (e ▸ Nat.lt_irrefl _))
    (Heap.get?_push_of_some _ (N _ hl).1) (N _ hl).2.1 (N _ hl).2.2 (F.push _) (fun p hp => ⟨Heap.get?_push_of_some _ (N p (hn p hp)).1, (N p (hn p hp)).2⟩) hm (fun p hp e => absurd (Heap.lt_size (N p (hn p hp)).1) (e ▸ Nat.lt_irrefl _)) hp turn done

noncomputable abbrev tupOf (its : Array Value) (n : Nat) : Obj := { cls := .type "tuple", data := .seq its n }
theorem forTupX {σ : Type} {l : Addr} {vs : List Value} {nn : Nat} (mm : σ → Str → Option Value) (Led : σ → List (Addr × Obj)) (P : Nat → σ → Prop) (c₀ : σ) {m₀ : Str → Option Value} {news₀ : List (Addr × Obj)}
    (hh : A.handled = none) (hl : (l, tupOf vs.toArray nn) ∈ news₀) (F : Fr h₀ env.locals s.heap m₀) (N : News h₀ env.locals s.heap news₀) (hm : ∀ y, y ≠ x → m₀ y = mm c₀ y) (hn : ∀ p ∈ Led c₀, p ∈ news₀) (hp : P 0 c₀)
    (turn : ∀ i v c h tk I oI, l ≠ I → (oI.cls = .type "list_iterator" ∨ oI.cls = .type "tuple_iterator") → vs[i]? = some v → P i c → (∀ p ∈ Led c, p.1 ≠ I) →
      Fr h₀ env.locals h (fun y => if y = x then some v else mm c y) → News h₀ env.locals h ((I, oI) :: (l, tupOf vs.toArray nn) :: Led c) →
      wpAny (model prog w) A (execs body env) (FPost h₀ env.locals x mm Led P [I] [(I, oI), (l, tupOf vs.toArray nn)] (i + 1) { s with heap := h, toks := tk } Q) E { s with heap := h, toks := tk })
    (done : ∀ c h tk u, P vs.length c → Fr h₀ env.locals h (fun y => if y = x then u else mm c y) → News h₀ env.locals h (Led c) → Q .next { s with heap := h, toks := tk }) :
    wpAny (model prog w) A (pyIter (.ref l)) (fun it s₂ => LoopAtV prog w A h₀ env x body Q E it s₂) E s := by
  have hls : s.heap.IsTuple l vs.toArray := ⟨_, (N _ hl).1, rfl, nn, rfl⟩
  have hlt : l < s.heap.objs.size := Heap.lt_size (N _ hl).1
  have hne : l ≠ s.heap.objs.size := Nat.ne_of_lt hlt
  refine wpAny_pyIter_tuple hls ?_
  have W := Walks.tuple (prog := prog) (w := w) hh s.heap.objs.size l hne vs.toArray
  simp only [List.size_toArray, List.getElem?_toArray] at W
  exact seqX mm Led P c₀ W (fun i h st => by obtain ⟨⟨o, e, hc, _⟩, _⟩ := st; exact ⟨o, e, .inr hc⟩) hne ⟨⟨_, Heap.get?_push_size _ rfl, rfl, rfl⟩, hls.at fun o e => Heap.get?_push_of_some _ e⟩ (next_is_new F) (fun e => absurd F.ns.lt (e ▸ Nat.lt_irrefl _))
    (Heap.get?_push_of_some _ (N _ hl).1) (N _ hl).2.1 (N _ hl).2.2 (F.push _) (fun p hp => ⟨Heap.get?_push_of_some _ (N p (hn p hp)).1, (N p (hn p hp)).2⟩) hm (fun p hp e => absurd (Heap.lt_size (N p (hn p hp)).1) (e ▸ Nat.lt_irrefl _)) hp turn done

noncomputable abbrev ritOf (x left step : Int) : Obj := { cls := .type "range_iterator", dict := none, data := .fields #[rawInt x, rawInt left, rawInt step], slots := #[] }
theorem forRangeX {σ : Type} {r : Addr} {a b c : Int} {t u v : Tok} {n : Nat} (mm : σ → Str → Option Value) (Led : σ → List (Addr × Obj)) (P : Nat → σ → Prop) (c₀ : σ) {m₀ : Str → Option Value} {news₀ : List (Addr × Obj)}
    (hh : A.handled = none) (hr : IsRange s.heap r a b c t u v) (hsmall : Builtin.Range.small a b c = true) (hsz : Builtin.Range.rangeSize a b c = (n : Int))
    (F : Fr h₀ env.locals s.heap m₀) (N : News h₀ env.locals s.heap news₀) (hm : ∀ y, y ≠ x → m₀ y = mm c₀ y) (hn : ∀ p ∈ Led c₀, p ∈ news₀) (hp : P 0 c₀)
    (turn : ∀ (i : Nat) t' c' h tk I p q, i < n → P i c' → (∀ p ∈ Led c', p.1 ≠ I) →
      Fr h₀ env.locals h (fun y => if y = x then some (.int (a + i * c) t') else mm c' y) → News h₀ env.locals h ((I, ritOf p q c) :: Led c') →
      wpAny (model prog w) A (execs body env) (FPost h₀ env.locals x mm Led P [I] [(I, ritOf p q c)] (i + 1) { s with heap := h, toks := tk } Q) E { s with heap := h, toks := tk })
    (done : ∀ c h tk u, P n c → Fr h₀ env.locals h (fun y => if y = x then u else mm c y) → News h₀ env.locals h (Led c) → Q .next { s with heap := h, toks := tk }) :
    wpAny (model prog w) A (pyIter (.ref r)) (fun it s₂ => LoopAtV prog w A h₀ env x body Q E it s₂) E s := by
  refine wpAny_pyIter_range hr hsmall ?_
  have W : Walks prog w A s.heap.objs.size [s.heap.objs.size] [s.heap.objs.size] n (fun i v => ∃ t, v = .int (a + i * c) t) (fun i h => IsRangeIter h s.heap.objs.size (a + (i : Nat) * c) ((n : Int) - (i : Nat)) c) := Walks.range hh _ a c n
  refine loopX mm Led P c₀ W ?_ ?_ (by show IsRangeIter _ _ _ _ _; rw [hsz]; simpa using Heap.get?_push_size _ rfl) (F.push _) hm (fun p hp => ⟨Heap.get?_push_of_some _ (N p (hn p hp)).1, (N p (hn p hp)).2⟩) ?_ hp ?_ done
  · intro hm
    exact absurd F.ns.lt ((List.mem_singleton.mp hm) ▸ Nat.lt_irrefl _)
  · intro b hb
    rw [List.mem_singleton.mp hb]
    exact next_is_new F
  · intro p hp hI
    exact absurd (Heap.lt_size (N p (hn p hp)).1) ((List.mem_singleton.mp hI) ▸ Nat.lt_irrefl _)
  · rintro i v c' h tk own hin ⟨t', rfl⟩ hp' hsub hall hst' hoff' F₁ N₁
    have hIown := hall _ (by simp) (next_is_new F) _ hst'
    refine wpAny_mono (turn i t' c' h tk s.heap.objs.size (a + ((i + 1 : Nat) : Int) * c) ((n : Int) - ((i + 1 : Nat) : Int)) hin hp' (fun p hp => by simpa using hoff' p hp) F₁ (fun p hp => ?_)) (fun f s₂ q => ?_) fun _ _ e => e
    · rcases List.mem_cons.mp hp with rfl | hp
      · exact N₁ _ (List.mem_append_left _ hIown)
      · exact N₁ _ (List.mem_append_right _ hp)
    · have hown : ∀ p ∈ own, p = (s.heap.objs.size, ritOf (a + ((i + 1 : Nat) : Int) * c) ((n : Int) - ((i + 1 : Nat) : Int)) c) := by
        intro p hp
        have h3 := (N₁ p (List.mem_append_left _ hp)).1
        have e := List.mem_singleton.mp (hsub p hp)
        rw [e] at h3
        exact Prod.ext e (Option.some.inj (h3.symm.trans hst'))
      have fin : FEnd h₀ env.locals x mm Led P [s.heap.objs.size] [(s.heap.objs.size, ritOf (a + ((i + 1 : Nat) : Int) * c) ((n : Int) - ((i + 1 : Nat) : Int)) c)] (i + 1) { s with heap := h, toks := tk } s₂ → FEnd h₀ env.locals x mm Led P [s.heap.objs.size] own (i + 1) { s with heap := h, toks := tk } s₂ := by
        rintro ⟨c', h', tk', m', news', e, F', hm', N', ho, hn, hw, hp'⟩
        exact ⟨c', h', tk', m', news', e, F', hm', N', (fun p hp => by rw [hown p hp]; exact ho _ (by simp)), hn, hw, hp'⟩
      cases f with
      | ret v => exact q
      | brk => exact q
      | next => exact fin q
      | cont => exact fin q
end

section
variable {prog : Program} {w : World} {A : Around} {E : Value → Shared → Prop} {s : Shared} {h₀ : Heap} {L : Addr} {news : List (Addr × Obj)}
theorem len_T {l : Addr} {vs : List Value} {n : Nat} {Q : Value → Shared → Prop} (N : News h₀ L s.heap news) (hm : (l, tupOf vs.toArray n) ∈ news) (hb : vs.length ≤ 1000)
    (h : Q (.int (vs.length : Nat) (s.toks + 1)) { s with toks := s.toks + 1 + 1 }) : wpAny (model prog w) A (call (.builtin "len") [.ref l]) Q E s :=
  len_tuple (items := vs.toArray) ⟨_, (N _ hm).1, rfl, n, rfl⟩ (by simp only [List.size_toArray]; omega) (by simpa using h)
theorem len_L {l : Addr} {vs : List Value} {n : Nat} {Q : Value → Shared → Prop} (N : News h₀ L s.heap news) (hm : (l, listOf vs.toArray n) ∈ news) (hb : vs.length ≤ 1000)
    (h : Q (.int (vs.length : Nat) (s.toks + 1)) { s with toks := s.toks + 1 + 1 }) : wpAny (model prog w) A (call (.builtin "len") [.ref l]) Q E s :=
  Calls.call_len_list (items := vs.toArray) ⟨_, (N _ hm).1, rfl, n, rfl⟩ (by simp only [List.size_toArray]; omega) (by simpa using h)
end
end
section
example : True := by w_top off; trivial
/-! a sorted table: the binary search, plain -/
structure IxP (gs : List Int) (g lo hi : Int) : Prop where
  h0 : 0 ≤ lo
  h1 : lo ≤ hi
  h2 : hi ≤ (gs.length : Int)
  below : ∀ i : Nat, (i : Int) < lo → gs.getD i 0 < g
  above : ∀ i : Nat, hi ≤ (i : Int) → i < gs.length → g ≤ gs.getD i 0
theorem IxP.start (gs : List Int) (g : Int) : IxP gs g 0 (gs.length : Int) := ⟨by omega, by omega, by omega, fun i h => by omega, fun i h h' => by omega⟩
noncomputable def Srt (gs : List Int) : Prop := ∀ i j : Nat, i ≤ j → j < gs.length → gs.getD i 0 ≤ gs.getD j 0
theorem mid_bounds {lo hi : Int} (h0 : 0 ≤ lo) (h : lo < hi) : lo ≤ (lo + hi).fdiv 2 ∧ (lo + hi).fdiv 2 < hi := by
  rw [Int.fdiv_eq_ediv_of_nonneg _ (by omega)]; omega
theorem IxP.up {gs : List Int} {g lo hi : Int} (x : IxP gs g lo hi) (S : Srt gs) (h : lo < hi) (hl : gs.getD ((lo + hi).fdiv 2).toNat 0 < g) : IxP gs g ((lo + hi).fdiv 2 + 1) hi := by
  have b := mid_bounds x.h0 h
  have h0 := x.h0
  have h2 := x.h2
  refine ⟨by omega, by omega, by omega, fun i hi' => ?_, x.above⟩
  exact Int.lt_of_le_of_lt (S i _ (by omega) (by omega)) hl
theorem IxP.down {gs : List Int} {g lo hi : Int} (x : IxP gs g lo hi) (S : Srt gs) (h : lo < hi) (hl : ¬ gs.getD ((lo + hi).fdiv 2).toNat 0 < g) : IxP gs g lo ((lo + hi).fdiv 2) := by
  have b := mid_bounds x.h0 h
  have h0 := x.h0
  have h2 := x.h2
  refine ⟨by omega, by omega, by omega, x.below, fun i h3 h4 => ?_⟩
  exact Int.le_trans (Int.not_lt.mp hl) (S _ i (by omega) h4)
theorem mem_getD {gs : List Int} {g : Int} : g ∈ gs ↔ ∃ i : Nat, i < gs.length ∧ gs.getD i 0 = g := by
  rw [List.mem_iff_getElem]
  constructor
  · rintro ⟨i, h, e⟩; exact ⟨i, h, by simp [List.getD, h, e]⟩
  · rintro ⟨i, h, e⟩; refine ⟨i, h, ?_⟩; simpa [List.getD, h] using e
theorem IxP.hit {gs : List Int} {g lo hi : Int} (x : IxP gs g lo hi) (h : ¬ lo < hi) (hl : lo < (gs.length : Int)) (e : gs.getD lo.toNat 0 = g) : g ∈ gs := mem_getD.mpr ⟨lo.toNat, by have := x.h0; omega, e⟩
theorem IxP.miss {gs : List Int} {g lo hi : Int} (x : IxP gs g lo hi) (S : Srt gs) (h : ¬ lo < hi) (e : ¬ (lo < (gs.length : Int) ∧ gs.getD lo.toNat 0 = g)) : g ∉ gs := by
  intro hm
  obtain ⟨i, hi', ei⟩ := mem_getD.mp hm
  have h0 := x.h0
  have h1 := x.h1
  by_cases h3 : (i : Int) < lo
  · have := x.below i h3; omega
  · have h4 : lo < (gs.length : Int) := by omega
    have h5 := x.above lo.toNat (by omega) (by omega)
    have h6 := S lo.toNat i (by omega) hi'
    exact e ⟨h4, by omega⟩

/-- a coverage in the ledger -/
structure CovIn (w : World) (cv : Addr) (gs : List Int) (news : List (Addr × Obj)) : Prop where
  ex : ∃ dcv tp k n vs, (cv, instObj 615 dcv) ∈ news ∧ (dcv, dictOf [ent w.params "glyphs" k (.ref tp)] 1) ∈ news ∧ (tp, tupOf vs.toArray n) ∈ news ∧ IntsAre vs gs
  srt : Srt gs
  len : gs.length ≤ 8

noncomputable abbrev mmOf {σ : Type} {h₀ h : Heap} {L : Addr} {m : Str → Option Value} (_ : Fr h₀ L h m) (f : (Str → Option Value) → σ → Str → Option Value) : σ → Str → Option Value := f m
section
variable {prog : Program} {w : World} {A : Around} {E : Value → Shared → Prop} {s : Shared} {h₀ : Heap} {L : Addr} {m : Str → Option Value} {news : List (Addr × Obj)}
theorem item_TI {value slice : Expr} {l : Addr} {vs : List Value} {gs : List Int} {n : Nat} {k : Int} {u : Tok} {Q : Value → Shared → Prop} (N : News h₀ L s.heap news) (hm : (l, tupOf vs.toArray n) ∈ news) (hi : IntsAre vs gs)
    (h0 : 0 ≤ k) (hk : k < (gs.length : Int)) (hb : gs.length ≤ 100) (h : ∀ t, Q (.int (gs.getD k.toNat 0) t) s)
    (hs : subscripted slice false (.ref l) (.int k u) = operate [.ref l, .int k u] (getItem (.ref l) (.int k u)) := by with_unfolding_all rfl) :
    wpAny (model prog w) A (subscriptTail value slice (.ref l) (.int k u)) Q E s := by
  have hlt : k.toNat < gs.length := by omega
  obtain ⟨t, hx⟩ := hi.get k.toNat (gs.getD k.toNat 0) (by simp [List.getD, hlt])
  have hl : vs.length = gs.length := hi.length
  exact item_tupleT (j := k.toNat) (x := .int (gs.getD k.toNat 0) t) ⟨_, (N _ hm).1, rfl, n, rfl⟩ (by omega) (by omega) (seqIndex_of h0 (by omega)) hx (h t) hs
end
theorem CovIn.mono {w : World} {cv : Addr} {gs : List Int} {news news' : List (Addr × Obj)} (V : CovIn w cv gs news) (hs : ∀ p ∈ news, p ∈ news') : CovIn w cv gs news' := by
  obtain ⟨⟨dcv, tp, k, n, vs, m1, m2, m3, hi⟩, S, hl⟩ := V
  exact ⟨⟨dcv, tp, k, n, vs, hs _ m1, hs _ m2, hs _ m3, hi⟩, S, hl⟩
theorem ScIn.mono {w : World} {x : ScD} {news news' : List (Addr × Obj)} (V : ScIn w x news) (hs : ∀ p ∈ news, p ∈ news') : ScIn w x news' :=
  ⟨hs _ V.m1, hs _ V.m2, hs _ V.m3, hs _ V.m4, hs _ V.m5, hs _ V.m6, hs _ V.m7, hs _ V.m8, hs _ V.m9, hs _ V.m10, hs _ V.m11, V.m12, V.m13, V.m14⟩
theorem RowIn.mono {w : World} {rw : Addr} {I : List InfoD} {news news' : List (Addr × Obj)} (V : RowIn w rw I news) (hs : ∀ p ∈ news, p ∈ news') : RowIn w rw I news' :=
  ⟨let ⟨n, h⟩ := V.r1; ⟨n, hs _ h⟩, fun x hx => ⟨hs _ (V.r2 x hx).1, hs _ (V.r2 x hx).2⟩, V.r3, V.r4⟩
end
section
example : True := by w_top off; trivial
/-! the next glyph that counts, plain -/
noncomputable def nx (pass : Bool) (l : List Int) : Int := (l.filter fun g => !(pass && mkG g)).headD 0
theorem nx_nil (pass : Bool) : nx pass [] = 0 := rfl
theorem nx_hit {pass : Bool} {g : Int} {r : List Int} (h : (pass && mkG g) = false) : nx pass (g :: r) = g := by unfold nx; rw [List.filter_cons, h]; rfl
theorem nx_pass {pass : Bool} {g : Int} {r : List Int} (h : (pass && mkG g) = true) : nx pass (g :: r) = nx pass r := by unfold nx; rw [List.filter_cons, h]; rfl

noncomputable def dl (step : Int) (G : List Int) (here : Int) : List Int := if step = 1 then G.drop here.toNat else (G.take (here + 1).toNat).reverse
theorem dl_in {step : Int} {G : List Int} {here : Int} (hs : step = 1 ∨ step = -1) (h0 : 0 ≤ here) (h1 : here < (G.length : Int)) {g : Int} (hg : G[here.toNat]? = some g) : dl step G here = g :: dl step G (here + step) := by
  have hlt : here.toNat < G.length := by omega
  have hg' : G[here.toNat] = g := by rw [List.getElem?_eq_getElem hlt] at hg; exact Option.some.inj hg
  rcases hs with rfl | rfl
  · have e : (here + 1).toNat = here.toNat + 1 := Int.toNat_add h0 (by decide)
    simp only [dl, if_true, e]
    rw [List.drop_eq_getElem_cons hlt, hg']
  · have e : (here + 1).toNat = here.toNat + 1 := Int.toNat_add h0 (by decide)
    have e2 : (here + -1 + 1).toNat = here.toNat := congrArg Int.toNat (Int.neg_add_cancel_right here 1)
    have e3 : ¬ ((-1 : Int) = 1) := by decide
    simp only [dl, if_neg e3, e, e2]
    rw [List.take_add_one, hg]
    simp
theorem dl_out {step : Int} {G : List Int} {here : Int} (hs : step = 1 ∨ step = -1) (hlo : -1 ≤ here) (hhi : here ≤ (G.length : Int)) (h : ¬ (0 ≤ here ∧ here < (G.length : Int))) (hstep : (step = 1 → 0 ≤ here) ∧ (step = -1 → here < (G.length : Int))) : dl step G here = [] := by
  rcases hs with rfl | rfl
  · have h0 := hstep.1 rfl
    have he : here = (G.length : Int) := Int.le_antisymm hhi (Int.not_lt.mp fun q => h ⟨h0, q⟩)
    simp only [dl, if_true]
    exact List.drop_eq_nil_of_le (Nat.le_of_eq (by rw [he, Int.toNat_natCast]))
  · have h0 := hstep.2 rfl
    have e3 : ¬ ((-1 : Int) = 1) := by decide
    simp only [dl, if_neg e3]
    have q : ¬ 0 ≤ here := fun q => h ⟨q, h0⟩
    clear h hstep h0 hhi
    have : here = -1 := by omega
    subst this; rfl

/-- the search, turn by turn -/
structure FaP (pass : Bool) (G : List Int) (step here : Int) (N : Int) : Prop where
  lo : -1 ≤ here
  hi : here ≤ (G.length : Int)
  dir : (step = 1 → 0 ≤ here) ∧ (step = -1 → here < (G.length : Int))
  same : nx pass (dl step G here) = N
theorem FaP.next {pass : Bool} {G : List Int} {step here N : Int} (x : FaP pass G step here N) (hs : step = 1 ∨ step = -1) (h0 : 0 ≤ here) (h1 : here < (G.length : Int)) {g : Int} (hg : G[here.toNat]? = some g) (hp : (pass && mkG g) = true) : FaP pass G step (here + step) N := by
  refine ⟨by omega, by omega, ⟨fun e => by omega, fun e => by omega⟩, ?_⟩
  rw [← x.same, dl_in hs h0 h1 hg, nx_pass hp]
theorem FaP.hit {pass : Bool} {G : List Int} {step here N : Int} (x : FaP pass G step here N) (hs : step = 1 ∨ step = -1) (h0 : 0 ≤ here) (h1 : here < (G.length : Int)) {g : Int} (hg : G[here.toNat]? = some g) (hp : (pass && mkG g) = false) : N = g := by
  rw [← x.same, dl_in hs h0 h1 hg, nx_hit hp]
theorem FaP.none {pass : Bool} {G : List Int} {step here N : Int} (x : FaP pass G step here N) (hs : step = 1 ∨ step = -1) (h : ¬ (0 ≤ here ∧ here < (G.length : Int))) : N = 0 := by
  rw [← x.same, dl_out hs x.lo x.hi h x.dir]; rfl
end
section
example : True := by w_top off; trivial
/-! comprehensions: a turn's word by induction; a tuple as the source -/
section
variable {prog : Program} {w : World} {A : Around} {E : Value → Shared → Prop} {s : Shared} {h₀ : Heap} {L : Addr} {m : Str → Option Value} {env : Env}
theorem compInd {elt : Expr} {x : Str} {scope : Scope} {cl : List (Str × Addr)} {S : List (Addr × Obj) → Prop} {P : Nat → Value → Prop} {Fin : List Value → List (Addr × Obj) → Prop} {n : Nat} {news : List (Addr × Obj)} (J : Nat → List Value → List (Addr × Obj) → Prop) (h0 : J 0 [] news)
    (turn : ∀ i ys nw v I oI C oC D m₂ h tk (E' : Value → Shared → Prop), i < n → ys.length = i → J i ys nw → P i v → LCg.NsObj oC m₂ → m₂ x = some v → Fr h₀ L h m → News h₀ L h ((I, oI) :: (C, oC) :: (D, LCg.lst ys) :: nw) → (∀ p ∈ nw, p.1 ≠ I ∧ p.1 ≠ C ∧ p.1 ≠ D) → (@Ne Nat I C ∧ @Ne Nat I D ∧ @Ne Nat C D) →
      wpAny (model prog w) A (eval elt (compEnvC scope cl C env)) (LCg.CompEnd h₀ L m { s with heap := h, toks := tk } I oI C oC D (LCg.lst ys) S (fun y nw' => J (i + 1) (ys ++ [y]) nw')) E' { s with heap := h, toks := tk })
    (fin : ∀ ys nw, ys.length = n → J n ys nw → Fin ys nw) : LCg.CompRest prog w A h₀ L m env elt x scope cl s S P Fin n 0 [] news := by
  have key : ∀ (j i : Nat) (ys : List Value) (nw : List (Addr × Obj)), i + j = n → ys.length = i → J i ys nw → LCg.CompRest prog w A h₀ L m env elt x scope cl s S P Fin j i ys nw := by
    intro j
    induction j with
    | zero => intro i ys nw e hl hJ; exact LCg.CompRest.zero (fin ys nw (by omega) ((by omega : i = n) ▸ hJ))
    | succ j ih =>
      intro i ys nw e hl hJ
      refine LCg.CompRest.succ ?_
      intro v I oI C oC D m₂ h tk E' hv hC hx F N off ne
      refine wpAny_mono (turn i ys nw v I oI C oC D m₂ h tk E' (by omega) hl hJ hv hC hx F N off.mem ne) (fun y s₂ hq => ?_) fun _ _ e => e
      obtain ⟨h', tk', nw', e', F', N', off', hS, hJ'⟩ := hq
      exact ⟨h', tk', nw', e', F', N', off', hS, ih (i + 1) _ _ (by omega) (by rw [List.length_append, hl]; rfl) hJ'⟩
  exact key n 0 [] news (by omega) rfl h0

theorem cEnd {I C D : Addr} {s₁ : Shared} {oI oC oD : Obj} {S : List (Addr × Obj) → Prop} {rest : Value → List (Addr × Obj) → Prop} {y : Value} {h' : Heap} {tk : Nat} {all : List (Addr × Obj)} (nw' : List (Addr × Obj))
    (F : Fr h₀ L h' m) (N : News h₀ L h' all) (sub : ∀ p ∈ (I, oI) :: (C, oC) :: (D, oD) :: nw', p ∈ all) (off : ∀ p ∈ nw', p.1 ≠ I ∧ p.1 ≠ C ∧ p.1 ≠ D) (hS : S nw') (r : rest y nw') :
    LCg.CompEnd h₀ L m s₁ I oI C oC D oD S rest y { s₁ with heap := h', toks := tk } := LCg.CompEnd.intro F N nw' sub (LCg.Off3.of off) hS r

noncomputable def SrcT (prog : Program) (w : World) (A : Around) (h₀ : Heap) (L : Addr) (m : Str → Option Value) (env : Env) (elt : Expr) (x : Str) (scope : Scope) (cl : List (Str × Addr)) (Fin : Shared → List Value → List (Addr × Obj) → Prop) (xv : Value) (s₁ : Shared) : Prop :=
  ∃ (ax : Addr) (vs : List Value) (nn : Nat) (news : List (Addr × Obj)), xv = .ref ax ∧ A.handled = none ∧ Fr h₀ L s₁.heap m ∧ News h₀ L s₁.heap news ∧ (ax, tupOf vs.toArray nn) ∈ news ∧ vs.length ≤ sizeLine ∧
    ∀ s₂ : Shared, (∃ h, s₂ = { s₁ with heap := h }) → LCg.CompRest prog w A h₀ L m env elt x scope cl s₂ (fun nw => (ax, tupOf vs.toArray nn) ∈ nw) (fun i v => vs[i]? = some v) (Fin s₂) vs.length 0 [] news

theorem ListComp_TT {elt iter : Expr} {x : Str} {px : Pos} {scope : Scope} {cl : List (Str × Addr)} {pos : Pos} {Q : Value → Shared → Prop} (F₀ : Fr h₀ L s.heap m)
    (hclos : closureFor scope env = pure cl) (hcell : ∀ y ∈ scope.names, y.2 ≠ .cell) (hkind : scope.kind = .function)
    (hnames : ∀ y ∈ scope.names, y.2 = .local → scope.names.lookup y.1 = some .local) (hx : scope.names.lookup x = some .local)
    (h : wpAny (model prog w) A (eval iter env) (SrcT prog w A h₀ L m env elt x scope cl (fun s₂ => LCg.FinE h₀ L m s₂ Q)) E s)
    (hs : ∀ x, foldedSetIterable iter env x = pure x := by intro _; rfl) :
    wpAny (model prog w) A (eval (.ListComp elt [⟨.Name x px, iter, [], 0⟩] scope pos) env) Q E s := by
  rw [eval_ListComp]
  refine wpAny_comprehension_free (use := none) rfl hs hclos hkind hnames (wpAny_mono h (fun xv s₁ h₁ => ?_) fun _ _ e => e)
  obtain ⟨ax, vs, nn, news, rfl, hh, F, N, hm, hsz, R⟩ := h₁
  have hl : s₁.heap.IsTuple ax vs.toArray := ⟨_, (N _ hm).1, rfl, nn, rfl⟩
  have hlt : ax < s₁.heap.objs.size := Heap.lt_size (N _ hm).1
  refine wpAny_pyIter_tuple hl ?_
  have up : ∀ b o, s₁.heap.get? b = some o → (s₁.heap.push { cls := .type "tuple_iterator", data := .fields #[.ref ax, .int 0 0] }).get? b = some o := fun b o e => Heap.get?_push_of_some _ e
  have W := Walks.tuple (prog := prog) (w := w) hh s₁.heap.objs.size ax (Nat.ne_of_lt hlt) vs.toArray
  simp only [List.size_toArray, List.getElem?_toArray] at W
  refine LCg.block_U W hsz (fun i h st => by obtain ⟨o, e, _⟩ := st.1; exact ⟨o, e⟩) (fun i h h' o nw st e e' k Nw hS => ?_) hcell hkind hx ⟨⟨_, Heap.get?_push_size _ rfl, rfl, rfl⟩, hl.at fun o e => Heap.get?_push_of_some _ e⟩ (fun b hb => ?_)
    (F.keeps up) (N.grown up) (Nat.ne_of_lt F.ns.lt) (next_is_new F) (fun p hp => Nat.ne_of_lt (Heap.lt_size (N p hp).1)) hm (R _ ⟨_, rfl⟩) ?_
  · obtain ⟨o', q, r⟩ := st.1
    rw [e] at q; cases q
    exact ⟨⟨o, e', r⟩, ⟨_, (Nw _ hS).1, rfl, nn, rfl⟩⟩
  · show b < (s₁.heap.push _).objs.size
    rw [Heap.size_push]
    rcases List.mem_cons.mp hb with rfl | hb
    · exact Nat.lt_succ_self _
    · rw [List.mem_singleton.mp hb]; exact Nat.lt_succ_of_lt hlt
  · intro D C h tk m' ys news' F' N' o1 hn hC₀ hD₀ hCL hDL hCD offC fin
    refine ⟨m', hn, fun h'' hs'' => fin D h'' tk (F'.change hs'' hCL hC₀) (fun p hp => ?_) o1⟩
    refine ⟨hs''.extBut _ _ ?_ (N' p hp).1, (N' p hp).2⟩
    rcases List.mem_cons.mp hp with rfl | hp
    · exact Ne.symm hCD
    · exact offC p hp
end
end
section
example : True := by w_top off; trivial
/-! an object of the ledger turned, the rest of the ledger unknown -/
noncomputable def setL (news : List (Addr × Obj)) (d : Addr) (o : Obj) : List (Addr × Obj) := (d, o) :: news.filter fun p => decide (p.1 ≠ d)
theorem filt_ne {news : List (Addr × Obj)} {d : Addr} : ∀ p ∈ news.filter (fun p => decide (p.1 ≠ d)), p.1 ≠ d := fun _ hp => of_decide_eq_true (List.mem_filter.mp hp).2
theorem setL_keep {news : List (Addr × Obj)} {d : Addr} {o : Obj} {p : Addr × Obj} (hp : p ∈ news) (h : p.1 ≠ d) : p ∈ setL news d o := List.mem_cons_of_mem _ (List.mem_filter.mpr ⟨hp, decide_eq_true h⟩)
theorem setL_head {news : List (Addr × Obj)} {d : Addr} {o : Obj} : (d, o) ∈ setL news d o := List.mem_cons_self
theorem newsSame {h₀ h : Heap} {L a : Addr} {o o' : Obj} {news : List (Addr × Obj)} (N : News h₀ L h news) (h1 : (a, o) ∈ news) (h2 : (a, o') ∈ news) : o = o' := by
  have e1 := (N _ h1).1
  have e2 := (N _ h2).1
  exact Option.some.inj (e1.symm.trans e2)
theorem newsNe {h₀ h : Heap} {L d : Addr} {o : Obj} {p : Addr × Obj} {news : List (Addr × Obj)} (N : News h₀ L h news) (hp : p ∈ news) (hd : (d, o) ∈ news) (h : p.2 ≠ o) : p.1 ≠ d := by
  rintro rfl
  exact h (newsSame N (a := p.1) (o := p.2) hp hd)
noncomputable def isDictO (o : Obj) : Bool := match o.cls with | .type n => n == "dict" | _ => false
theorem objNe {o o' : Obj} (h1 : isDictO o = false) (h2 : isDictO o' = true) : o ≠ o' := by rintro rfl; rw [h1] at h2; cases h2
section
variable {prog : Program} {w : World} {A A₀ : Around} {E : Value → Shared → Prop} {s : Shared} {K : Frag} {x C dx L l : Addr} {h₀ : Heap} {m : Str → Option Value} {news news' : List (Addr × Obj)} {ox od : Obj} {es es' : List DictEntry} {n n' : Nat} {name : Str} {v : Value} {value slice : PySem.Expr} {vl vu : Value} {lo hi : Option Int} {vs : List Value}
theorem set_dictM {Q : Unit → Shared → Prop} (F : Fr h₀ L s.heap m) (X₀ : K.In h₀) (N : News h₀ L s.heap news) (I : InstAt s.heap x ox C (some (dictOf es n))) (hd : ox.dict = some dx) (hm : (dx, dictOf es n) ∈ news)
    (hs : findIn K (.ref C) "__setattr__" = some (some (.builtin "object.__setattr__"))) (hp : plainOver K C = true) (ht : takerIn K C name = some none) (hh : hasDictIn K C = true) (hl : (getL name es).isSome = true)
    (e : (putL name (PyData.keyHash w.params name) (.str name (s.toks + 1)) v es, putN name es n) = (es', n')) (hz : es'.length ≤ 1000)
    (h : ∀ h', Fr h₀ L h' m → News h₀ L h' (setL news dx (dictOf es' n')) → Q () { s with heap := h', toks := s.toks + 2 }) :
    wpAny (model prog w) A (setAttr (.ref x) name v) Q E s :=
  set_dict (news := (dx, dictOf es n) :: news.filter fun p => decide (p.1 ≠ dx)) (news' := setL news dx (dictOf es' n')) F X₀ (fun p hq => by
    rcases List.mem_cons.mp hq with rfl | hq
    · exact N _ hm
    · exact N _ (List.mem_filter.mp hq).1) I hd hs hp ht hh hl e (Upd.head filt_ne) hz h
theorem slice_LL {zs : List Value} (F : Fr h₀ L s.heap m) (N : News h₀ L s.heap news) (hm : (l, listOf vs.toArray n) ∈ news) (pl : IsPart vl lo) (pu : IsPart vu hi) (e : (slicePick vs.toArray lo hi none).toList = zs) (hz : vs.length ≤ 1000) {Q : Value → Shared → Prop}
    (h : ∀ D h', Fr h₀ L h' m → News h₀ L h' ((D, listOf zs.toArray 0) :: news) → (∀ p ∈ news, p.1 < D) → Q (.ref D) { s with heap := h' })
    (hs : subscripted slice false (.ref l) (.ref s.heap.objs.size) = operate [.ref s.heap.objs.size, .ref l] (getItem (.ref l) (.ref s.heap.objs.size))) (ht : ∀ r, letTemporaryGo value (.ref l) r = pure ()) :
    wpAny (model prog w) A (subscriptTail value slice (.ref l) (.ref s.heap.objs.size)) Q E { s with heap := s.heap.push { cls := .type "slice", data := .fields #[vl, vu, .none] } } :=
  kmk_slice_lit F N ⟨_, (N _ hm).1, rfl, n, rfl⟩ pl pu e h hs ht (by rw [sizeLine_eq, List.size_toArray]; omega)
end

/-- the row with another info of the same addresses at one place -/
theorem RowIn.set {w : World} {rw : Addr} {I : List InfoD} {news : List (Addr × Obj)} {h₀ h : Heap} {L : Addr} (R : RowIn w rw I news) (N : News h₀ L h news) {i : Nat} {e e' : InfoD} (hi : I[i]? = some e) (ha : e'.a = e.a) (hd : e'.d = e.d) :
    RowIn w rw (I.set i e') (setL news e.d (dictOf (infoEs w.params e') 16)) := by
  have hmem := List.mem_of_getElem? hi
  have hed := (R.r2 e hmem).2
  have hlt : i < I.length := (List.getElem?_eq_some_iff.mp hi).1
  have hme : (I.set i e').map (fun x => Value.ref x.a) = I.map (fun x => Value.ref x.a) := by
    apply List.ext_getElem?
    intro j
    simp only [List.getElem?_map, List.getElem?_set]
    split
    · rename_i hj; subst hj; rw [hi]; simp [ha]
    · rfl
  have hmd : (I.set i e').map (·.d) = I.map (·.d) := by
    apply List.ext_getElem?
    intro j
    simp only [List.getElem?_map, List.getElem?_set]
    split
    · rename_i hj; subst hj; rw [hi]; simp [hd]
    · rfl
  refine ⟨?_, ?_, by rw [List.length_set]; exact R.r3, by rw [hmd]; exact R.r4⟩
  · obtain ⟨n, r1⟩ := R.r1
    exact ⟨n, by rw [hme]; exact setL_keep r1 (newsNe N r1 hed (objNe (by rfl) (by rfl)))⟩
  · intro y hy
    obtain ⟨j, hj, ej⟩ := List.mem_iff_getElem.mp hy
    rw [List.length_set] at hj
    by_cases hji : j = i
    · subst hji
      rw [List.getElem_set_self] at ej
      subst ej
      rw [ha, hd]
      exact ⟨setL_keep (R.r2 e hmem).1 (newsNe N (R.r2 e hmem).1 hed (objNe (by rfl) (by rfl))), setL_head⟩
    · rw [List.getElem_set_ne (Ne.symm hji)] at ej
      have hym : y ∈ I := ej ▸ List.getElem_mem hj
      refine ⟨setL_keep (R.r2 y hym).1 (newsNe N (R.r2 y hym).1 hed (objNe (by rfl) (by rfl))), setL_keep (R.r2 y hym).2 ?_⟩
      intro q
      have hi' : I[i] = e := by rw [List.getElem?_eq_getElem hlt] at hi; exact Option.some.inj hi
      have hn := R.r4
      have hjl : j < (I.map (·.d)).length := by simpa using hj
      have hil : i < (I.map (·.d)).length := by simpa using hlt
      have h1 : (I.map (·.d))[j] = y.d := by simp [ej]
      have h2 : (I.map (·.d))[i] = e.d := by simp [hi']
      rcases Nat.lt_or_gt_of_ne hji with hlt' | hlt'
      · exact List.pairwise_iff_getElem.mp hn j i hjl hil hlt' (by rw [h1, h2]; exact q)
      · exact List.pairwise_iff_getElem.mp hn i j hil hjl hlt' (by rw [h1, h2]; exact q.symm)
noncomputable abbrev ledOf {h₀ h : Heap} {L : Addr} {news : List (Addr × Obj)} (_ : News h₀ L h news) : List (Addr × Obj) := news
theorem iterNotDict {o : Obj} (h : o.cls = .type "list_iterator" ∨ o.cls = .type "tuple_iterator") : isDictO o = false := by
  unfold isDictO
  rcases h with h | h <;> rw [h] <;> rfl
/-- the same row but for the marks -/
structure SameI (I I' : List InfoD) : Prop where
  len : I'.length = I.length
  at_ : ∀ (i : Nat) (y : InfoD), I[i]? = some y → ∃ u, I'[i]? = some { y with marked := u }
theorem SameI.refl (I : List InfoD) : SameI I I := ⟨rfl, fun i y hy => ⟨y.marked, by rw [hy]⟩⟩
theorem SameI.set {I I' : List InfoD} (H : SameI I I') {k : Nat} {y : InfoD} (hk : I[k]? = some y) (b : Bool) : SameI I (I'.set k { y with marked := b }) := by
  refine ⟨by rw [List.length_set]; exact H.len, fun i z hz => ?_⟩
  by_cases hi : i = k
  · subst hi
    rw [hk] at hz
    cases Option.some.inj hz
    have hlt : i < I'.length := by rw [H.len]; exact (List.getElem?_eq_some_iff.mp hk).1
    exact ⟨b, by simp [List.getElem?_set, hlt]⟩
  · obtain ⟨u, hu⟩ := H.at_ i z hz
    exact ⟨u, by rw [List.getElem?_set_ne (Ne.symm hi)]; exact hu⟩
theorem SameI.setG {I I' : List InfoD} (H : SameI I I') {k : Nat} {y y' z : InfoD} {u : Bool} (hk : I[k]? = some y) (hz : y' = { z with marked := u }) : SameI (I.set k z) (I'.set k y') := by
  refine ⟨by rw [List.length_set, List.length_set]; exact H.len, fun i q hq => ?_⟩
  have hlt : k < I.length := (List.getElem?_eq_some_iff.mp hk).1
  have hlt' : k < I'.length := by rw [H.len]; exact hlt
  by_cases hi : i = k
  · subst hi
    rw [List.getElem?_set_self hlt] at hq
    rw [List.getElem?_set_self hlt']
    exact ⟨u, by rw [hz, Option.some.inj hq]⟩
  · rw [List.getElem?_set_ne (Ne.symm hi)] at hq ⊢
    exact H.at_ i q hq
end
section
example : True := by w_top off; trivial
/-! the sides of a table, the table -/
noncomputable def SideOk (pass : Bool) (G : List Int) (i : Nat) (step : Int) : Option (List Int) → Prop
  | none => True
  | some gs => nx pass (dl step G ((i : Int) + step)) ∈ gs
noncomputable def TestSd (w : World) (ts : List Value) (news : List (Addr × Obj)) : Option (List Int) → Prop
  | none => ts = []
  | some gs => ∃ tt n' k1 cv, ts = [Value.ref tt] ∧ (tt, tupOf [Value.str (Str.ofString "cover") k1, Value.ref cv].toArray n') ∈ news ∧ CovIn w cv gs news ∧ 0 ∉ gs

noncomputable def SideIn (w : World) (vs : List Value) (news : List (Addr × Obj)) : Option (List Int) → Prop
  | none => vs = []
  | some gs => ∃ cv, vs = [Value.ref cv] ∧ CovIn w cv gs news ∧ 0 ∉ gs
theorem SideIn.mono {w : World} {vs : List Value} {news news' : List (Addr × Obj)} {sd : Option (List Int)} (V : SideIn w vs news sd) (hs : ∀ p ∈ news, p ∈ news') : SideIn w vs news' sd := by
  cases sd with
  | none => exact V
  | some gs => obtain ⟨cv, a, b, c⟩ := V; exact ⟨cv, a, b.mono hs, c⟩
theorem SideIn.len {w : World} {vs : List Value} {news : List (Addr × Obj)} {sd : Option (List Int)} (V : SideIn w vs news sd) : vs.length ≤ 8 := by
  cases sd with
  | none => rw [show vs = [] from V]; decide
  | some gs => obtain ⟨cv, a, _⟩ := V; rw [a]; simp
structure TabD where
  a : Addr
  d : Addr
  md : Addr
  omd : Obj
  Dm : List (PyData × PyData)
  f : Int → Option Int
  tb : Addr
  ta : Addr
  vb : List Value
  va : List Value
  sb : Option (List Int)
  sa : Option (List Int)
  k : Nat → Tok
noncomputable def revEs (P : Params) (t : TabD) : List DictEntry := [ent P "mapping" (t.k 0) (.ref t.md), ent P "back" (t.k 1) (.ref t.tb), ent P "ahead" (t.k 2) (.ref t.ta)]
structure TabIn (w : World) (t : TabD) (news : List (Addr × Obj)) : Prop where
  t1 : (t.a, instObj 470 t.d) ∈ news
  t2 : (t.d, dictOf (revEs w.params t) 3) ∈ news
  t3 : (t.md, t.omd) ∈ news
  t4 : (t.md == sysModules) = false
  t5 : ∃ kvs, t.omd.IsDictOf (intKind pw w) kvs ∧ PyProof.V.FlatPairs PyData.int kvs t.Dm
  t6 : ∀ i : Int, Spec.lookup (.int i) t.Dm = (t.f i).map PyData.int
  t7 : ∃ n, (t.tb, tupOf t.vb.toArray n) ∈ news
  t8 : ∃ n, (t.ta, tupOf t.va.toArray n) ∈ news
  t9 : SideIn w t.vb news t.sb
  t10 : SideIn w t.va news t.sa
theorem TabIn.mono {w : World} {t : TabD} {news news' : List (Addr × Obj)} (V : TabIn w t news) (hs : ∀ p ∈ news, p ∈ news') : TabIn w t news' :=
  ⟨hs _ V.t1, hs _ V.t2, hs _ V.t3, V.t4, V.t5, V.t6, let ⟨n, h⟩ := V.t7; ⟨n, hs _ h⟩, let ⟨n, h⟩ := V.t8; ⟨n, hs _ h⟩, V.t9.mono hs, V.t10.mono hs⟩
/-- a side asked of the list that lies that way -/
noncomputable def sideL (pass : Bool) (l : List Int) : Option (List Int) → Bool
  | none => true
  | some gs => decide (nx pass l ∈ gs)
noncomputable def fireL (pass : Bool) (earlier later : List Int) (g : Int) (t : TabD) : Option Int := if sideL pass earlier t.sb && sideL pass later t.sa then t.f g else none
theorem sideOk_iff {pass : Bool} {G : List Int} {i : Nat} {step : Int} {sd : Option (List Int)} : SideOk pass G i step sd ↔ sideL pass (dl step G ((i : Int) + step)) sd = true := by
  cases sd with
  | none => simp [SideOk, sideL]
  | some gs => simp [SideOk, sideL]
theorem dl_back (G : List Int) (i : Nat) : dl (-1) G ((i : Int) + -1) = (G.take i).reverse := by
  have e3 : ¬ ((-1 : Int) = 1) := by decide
  simp only [dl, if_neg e3]
  rw [show ((i : Int) + -1 + 1).toNat = i by omega]
theorem dl_ahead (G : List Int) (i : Nat) : dl 1 G ((i : Int) + 1) = G.drop (i + 1) := by
  simp only [dl, if_true]
  rw [show ((i : Int) + 1).toNat = i + 1 by omega]
theorem fireL_iff {x : ScD} {G : List Int} {i : Nat} {t : TabD} {g v : Int} : (t.f g = some v ∧ SideOk x.pass G i (-1) t.sb ∧ SideOk x.pass G i 1 t.sa) ↔ fireL x.pass (G.take i).reverse (G.drop (i + 1)) g t = some v := by
  rw [sideOk_iff, sideOk_iff, dl_back, dl_ahead, fireL]
  constructor
  · rintro ⟨a, b, c⟩; simp [a, b, c]
  · intro h
    split at h
    · rename_i q; rw [Bool.and_eq_true] at q; exact ⟨h, q.1, q.2⟩
    · cases h
structure TabsIn (w : World) (tl : Addr) (ts : List TabD) (news : List (Addr × Obj)) : Prop where
  l1 : ∃ n, (tl, listOf (ts.map fun t => Value.ref t.a).toArray n) ∈ news
  l2 : ∀ t ∈ ts, TabIn w t news
  l3 : ts.length ≤ 2
noncomputable def Fires (x : ScD) (G : List Int) (i : Nat) (t : TabD) (g : Int) (v : Int) : Prop := t.f g = some v ∧ SideOk x.pass G i (-1) t.sb ∧ SideOk x.pass G i 1 t.sa
end
section
example : True := by w_top off; trivial
/-! the run from the last on, plain -/
noncomputable def newG (pass : Bool) (ts : List TabD) (mask : Int) (earlier later : List Int) (g own : Int) : Option Int :=
  if decide (Builtin.bitAnd own mask ≠ 0) && !(pass && mkG g) then ts.findSome? (fireL pass earlier later g) else none
noncomputable def proc (pass : Bool) (ts : List TabD) (mask : Int) (rows : List (Int × Int)) : Nat → List Int × Int
  | 0 => ([], 0)
  | j + 1 => match rows[rows.length - (j + 1)]? with
    | none => proc pass ts mask rows j
    | some (g, own) => match newG pass ts mask ((rows.map (·.1)).take (rows.length - (j + 1))).reverse (proc pass ts mask rows j).1 g own with
      | some v => (v :: (proc pass ts mask rows j).1, (proc pass ts mask rows j).2 + 1)
      | none => (g :: (proc pass ts mask rows j).1, (proc pass ts mask rows j).2)
theorem proc_succ {pass : Bool} {ts : List TabD} {mask : Int} {rows : List (Int × Int)} {j k : Nat} {g own : Int} (hk : k + (j + 1) = rows.length) (hr : rows[k]? = some (g, own)) :
    proc pass ts mask rows (j + 1) = match newG pass ts mask ((rows.map (·.1)).take k).reverse (proc pass ts mask rows j).1 g own with
      | some v => (v :: (proc pass ts mask rows j).1, (proc pass ts mask rows j).2 + 1)
      | none => (g :: (proc pass ts mask rows j).1, (proc pass ts mask rows j).2) := by
  have e : rows.length - (j + 1) = k := by omega
  rw [proc, e, hr]
theorem proc_len {pass : Bool} {ts : List TabD} {mask : Int} {rows : List (Int × Int)} : ∀ j, j ≤ rows.length → (proc pass ts mask rows j).1.length = j
  | 0, _ => rfl
  | j + 1, h => by
    have ih := proc_len (pass := pass) (ts := ts) (mask := mask) (rows := rows) j (by omega)
    obtain ⟨⟨g, own⟩, hr⟩ : ∃ p, rows[rows.length - (j + 1)]? = some p := ⟨rows[rows.length - (j + 1)]'(by omega), by simp⟩
    rw [proc_succ (k := rows.length - (j + 1)) (by omega) hr]
    split <;> simp [ih]

/-- what of an info stays -/
noncomputable def keyI (e : InfoD) : Addr × Addr × Int × Int := (e.a, e.d, e.cluster, e.mask)
structure RunP (w : World) (x : ScD) (ts : List TabD) (rows : List (Int × Int)) (I₀ : List InfoD) (news : List (Addr × Obj)) (i : Nat) (I : List InfoD) (nw : List (Addr × Obj)) (count : Int) : Prop where
  row : RowIn w x.rw I nw
  keep : ∀ p ∈ news, (∀ y ∈ I₀, p.1 ≠ y.d) → p ∈ nw
  keys : I.map keyI = I₀.map keyI
  gl : I.map (·.glyph) = (rows.map (·.1)).take (rows.length - i) ++ (proc x.pass ts x.mask rows i).1
  cnt : count = (proc x.pass ts x.mask rows i).2
theorem keys_d {I I₀ : List InfoD} (h : I.map keyI = I₀.map keyI) : ∀ y ∈ I, ∃ z ∈ I₀, y.d = z.d := by
  intro y hy
  have : keyI y ∈ I₀.map keyI := h ▸ List.mem_map_of_mem hy
  obtain ⟨z, hz, e⟩ := List.mem_map.mp this
  exact ⟨z, hz, (congrArg (fun q => q.2.1) e).symm⟩
theorem keys_len {I I₀ : List InfoD} (h : I.map keyI = I₀.map keyI) : I.length = I₀.length := by
  have := congrArg List.length h
  simpa using this
theorem SameI.keys {I I' : List InfoD} (H : SameI I I') : I'.map keyI = I.map keyI := by
  apply List.ext_getElem?
  intro i
  rw [List.getElem?_map, List.getElem?_map]
  cases h : I[i]? with
  | none =>
    have : I'[i]? = none := by rw [List.getElem?_eq_none_iff] at h ⊢; rw [H.len]; exact h
    rw [this]
  | some y => obtain ⟨u, hu⟩ := H.at_ i y h; rw [hu]; rfl
theorem SameI.glyphs {I I' : List InfoD} (H : SameI I I') : I'.map (·.glyph) = I.map (·.glyph) := by
  apply List.ext_getElem?
  intro i
  rw [List.getElem?_map, List.getElem?_map]
  cases h : I[i]? with
  | none =>
    have : I'[i]? = none := by rw [List.getElem?_eq_none_iff] at h ⊢; rw [H.len]; exact h
    rw [this]
  | some y => obtain ⟨u, hu⟩ := H.at_ i y h; rw [hu]; rfl
theorem map_set_same {α β : Type} (f : α → β) {I : List α} {k : Nat} {e z : α} (hk : I[k]? = some e) (h : f z = f e) : (I.set k z).map f = I.map f := by
  rw [List.map_set]
  apply List.ext_getElem?
  intro i
  by_cases hi : i = k
  · subst hi
    have hlt := (List.getElem?_eq_some_iff.mp hk).1
    rw [List.getElem?_set_self (by simpa using hlt), List.getElem?_map, hk, h]; rfl
  · rw [List.getElem?_set_ne (Ne.symm hi)]

section
variable {w : World} {x : ScD} {ts : List TabD} {rows : List (Int × Int)} {I₀ I I' : List InfoD} {news nw nw' : List (Addr × Obj)} {i k : Nat} {count : Int} {e : InfoD}
theorem RunP.glyph_at (P : RunP w x ts rows I₀ news i I nw count) (hk : k + (i + 1) = rows.length) (hi : I[k]? = some e) : (rows.map (·.1))[k]? = some e.glyph ∧ (I.map (·.glyph)).take k = (rows.map (·.1)).take k ∧ (I.map (·.glyph)).drop (k + 1) = (proc x.pass ts x.mask rows i).1 := by
  have hkl : rows.length - i = k + 1 := by omega
  have hg := P.gl
  rw [hkl] at hg
  have htl : ((rows.map (·.1)).take (k + 1)).length = k + 1 := by rw [List.length_take, List.length_map]; omega
  refine ⟨?_, ?_, ?_⟩
  · have h1 : (I.map (·.glyph))[k]? = some e.glyph := by rw [List.getElem?_map, hi]; rfl
    rw [hg, List.getElem?_append_left (by omega), List.getElem?_take_of_lt (by omega)] at h1
    exact h1
  · rw [hg, List.take_append_of_le_length (by omega), List.take_take, Nat.min_eq_left (by omega)]
  · rw [hg, List.drop_append_of_le_length (by omega), List.drop_eq_nil_of_le (by omega), List.nil_append]
theorem RunP.stay (P : RunP w x ts rows I₀ news i I nw count) (hk : k + (i + 1) = rows.length) (hi : I[k]? = some e) (hm : (rows.map (·.2))[k]? = some e.mask)
    (hn : newG x.pass ts x.mask ((I.map (·.glyph)).take k).reverse ((I.map (·.glyph)).drop (k + 1)) e.glyph e.mask = none) : RunP w x ts rows I₀ news (i + 1) I nw count := by
  obtain ⟨g1, g2, g3⟩ := P.glyph_at hk hi
  have hr : rows[k]? = some (e.glyph, e.mask) := by
    rw [List.getElem?_map] at g1 hm
    cases h9 : rows[k]? with
    | none => rw [h9] at g1; cases g1
    | some q => rw [h9] at g1 hm; exact congrArg some (Prod.ext (Option.some.inj g1) (Option.some.inj hm))
  rw [g2, g3] at hn
  have hp := proc_succ (pass := x.pass) (ts := ts) (mask := x.mask) (j := i) hk hr
  rw [hn] at hp
  refine ⟨P.row, P.keep, P.keys, ?_, by rw [hp]; exact P.cnt⟩
  rw [hp, show rows.length - (i + 1) = k by omega, P.gl, show rows.length - i = k + 1 by omega, List.take_add_one, g1]
  simp
theorem RunP.turn (P : RunP w x ts rows I₀ news i I nw count) (hk : k + (i + 1) = rows.length) (hi : I[k]? = some e) (hm : (rows.map (·.2))[k]? = some e.mask) {v : Int} {gt : Tok}
    (hn : newG x.pass ts x.mask ((I.map (·.glyph)).take k).reverse ((I.map (·.glyph)).drop (k + 1)) e.glyph e.mask = some v) (R' : RowIn w x.rw I' nw') (H : SameI (I.set k { e with glyph := v, gt := gt }) I')
    (K : ∀ p ∈ nw, (∀ y ∈ I, p.1 ≠ y.d) → p ∈ nw') : RunP w x ts rows I₀ news (i + 1) I' nw' (count + 1) := by
  obtain ⟨g1, g2, g3⟩ := P.glyph_at hk hi
  have hr : rows[k]? = some (e.glyph, e.mask) := by
    rw [List.getElem?_map] at g1 hm
    cases h9 : rows[k]? with
    | none => rw [h9] at g1; cases g1
    | some q => rw [h9] at g1 hm; exact congrArg some (Prod.ext (Option.some.inj g1) (Option.some.inj hm))
  rw [g2, g3] at hn
  have hp := proc_succ (pass := x.pass) (ts := ts) (mask := x.mask) (j := i) hk hr
  rw [hn] at hp
  refine ⟨R', fun p hp hd => K p (P.keep p hp hd) fun y hy => ?_, ?_, ?_, by rw [hp, P.cnt]⟩
  · obtain ⟨z, hz, ez⟩ := keys_d P.keys y hy
    rw [ez]; exact hd z hz
  · rw [H.keys, map_set_same (z := { e with glyph := v, gt := gt }) keyI hi rfl, P.keys]
  · rw [H.glyphs, hp, show rows.length - (i + 1) = k by omega]
    have hkl : k < I.length := (List.getElem?_eq_some_iff.mp hi).1
    have e1 : (I.set k { e with glyph := v, gt := gt }).map (·.glyph) = (I.map (·.glyph)).set k v := by rw [List.map_set]
    rw [e1, List.set_eq_take_append_cons_drop, if_pos (by simpa using hkl), g2, g3]
end
noncomputable def isRit (o : Obj) : Bool := match o.cls with | .type n => n == "range_iterator" | _ => false
theorem ritNe {o o' : Obj} (h1 : isRit o = false) (h2 : isRit o' = true) : o ≠ o' := by rintro rfl; rw [h1] at h2; cases h2
theorem RowIn.but {w : World} {rw : Addr} {I : List InfoD} {news : List (Addr × Obj)} {h₀ h : Heap} {L Ia : Addr} {o : Obj} (R : RowIn w rw I news) (N : News h₀ L h news) (hI : (Ia, o) ∈ news) (ho : isRit o = true) :
    RowIn w rw I (news.filter fun p => decide (p.1 ≠ Ia)) := by
  have f : ∀ p ∈ news, isRit p.2 = false → p ∈ news.filter fun p => decide (p.1 ≠ Ia) := fun p hp h => List.mem_filter.mpr ⟨hp, decide_eq_true (newsNe N hp hI (ritNe h ho))⟩
  refine ⟨?_, fun e he => ⟨f _ (R.r2 e he).1 rfl, f _ (R.r2 e he).2 rfl⟩, R.r3, R.r4⟩
  obtain ⟨n, r⟩ := R.r1
  exact ⟨n, f _ r rfl⟩
end
local macro_rules | `(tactic| k_room) => `(tactic| (refine room_of ?_; (try simp only [depth_under_make, depth_under_kw, depth_in1, depth_deeper, depth_caller]); omega))
local macro_rules | `(tactic| k_units) => `(tactic| (refine units_of ?_; (try simp only [units_deeper, units_in1, units_caller]); omega))
local macro_rules | `(tactic| k_mem) => `(tactic| first | with_reducible assumption | (with_reducible refine memK ?_; with_reducible assumption))
local macro_rules | `(tactic| walk_at "subscriptTail") => `(tactic| (k_here; (with_reducible show wpAny _ _ (subscriptTail _ _ (Value.ref _) (Value.int _ _)) _ _ _); k_dflt (refine' item_L ?N ?mm ?a ?b ?c ?_; (case N => k_asm); (case mm => k_mem); (case a | b => omega); (case c => first | with_reducible assumption | exact rfl); k_whole)))
local macro_rules | `(tactic| walk_at "call builtin:dict.get") => `(tactic| (k_here; k_dflt (refine' get_int ?T ?r ?_; (case T => k_tabat); (case r => assumption); k_whole; intro _)))
local macro_rules | `(tactic| walk_at "STOPS") => `(tactic| ((fail_if_success (with_reducible show wpAny _ _ (exec (Stmt.While _ _ _ _) _) _ _ _)); (fail_if_success (with_reducible show wpAny _ _ (exec (Stmt.For _ _ _ _ _) _) _ _ _)); (fail_if_success (with_reducible show wpAny _ _ (pyIter _) _ _ _)); (fail_if_success (with_reducible show wpAny _ _ (eval (Expr.ListComp _ _ _ _) _) _ _ _)); (fail_if_success (with_reducible show wpAny _ _ (exec (Stmt.Assign _ (Expr.ListComp _ _ _ _) _) _) _ _ _))))
local macro_rules | `(tactic| walk_at "STEPS") => `(tactic| repeat' (first | (k_unfold; (try dsimp only)) | (k_end; wrow_close) | (walk_at "STOPS"; walk1) | (walk_at "STOPS"; dsimp only; walk1) | (leave1; walk_say "STEP leave1"; try dsimp only) | (dsimp only; k_unfold; (try dsimp only)) | fail "no step"))
local macro_rules | `(tactic| walk_at "MM") => `(tactic| (intro y; (try intro hyx); (try dsimp only); (repeat (first | refine mmH (by exact rfl) (fun e => ?_) | (refine mmS (fun e => ?_) (fun e => ?_); (subst e; first | rfl | contradiction)))); (repeat (refine mmN (by assumption) ?_)); try rfl))
local macro_rules | `(tactic| walk_at "call builtin:len") => `(tactic| (k_here; (with_reducible show wpAny _ _ (call (Value.builtin "len") [Value.ref _]) _ _ _); k_dflt (refine' len_T ?N ?mm ?f ?_; (case N => k_asm); (case mm => k_mem); (case f => omega); k_whole)))
local macro_rules | `(tactic| walk_at "call builtin:len") => `(tactic| (k_here; (with_reducible show wpAny _ _ (call (Value.builtin "len") [Value.ref _]) _ _ _); k_dflt (refine' len_L ?N ?mm ?f ?_; (case N => k_asm); (case mm => k_mem); (case f => omega); k_whole)))
local macro_rules | `(tactic| walk_at "CX") => `(tactic| (refine' Cx.mk ?cB ?cX ?cT ?cA ?cF ?cK ?cH ?cD ?cU; (case cB | cX | cT => assumption); (case cA => first | assumption | exact Around.frames_deeper (Below.stack (by assumption))); (case cF | cK => first | exact rfl | assumption); (case cH => assumption); (case cD => ((try simp only [depth_under_make, depth_under_kw, depth_in1, depth_deeper, depth_caller]); omega)); (case cU => ((try simp only [units_deeper, units_in1, units_caller]); omega))))
local macro_rules | `(tactic| walk_at "DATA") => `(tactic| first | assumption | exact CovIn.mono (by assumption) (by k_sub) | exact ScIn.mono (by assumption) (by k_sub) | exact RowIn.mono (by assumption) (by k_sub))
local macro_rules | `(tactic| walk_at "WPost") => `(tactic| (dsimp only [WPost]))
local macro_rules | `(tactic| walk_at "FPost") => `(tactic| (dsimp only [FPost]))
local macro_rules | `(tactic| walk_at "FOR") => `(tactic| ((rename Fr _ _ _ _ => lF'); k_dflt (refine' For_invVF lF' ?k1 ?k2 ?_; (case k1 | k2 => exact rfl); k_whole)))
local macro_rules | `(tactic| walk_at "subscriptTail") => `(tactic| (k_here; (with_reducible show wpAny _ _ (subscriptTail _ (PySem.Expr.Slice _ _ none _) (Value.ref _) (Value.ref _)) _ _ _); k_dflt (refine' slice_LL ?F ?N ?l ?p ?q ?e ?z ?_ ?s ?t; (case F | N => k_asm); (case l => k_mem); (case p | q => kmk_part); (case e => assumption); (case s => with_unfolding_all rfl); (case t => kmk_pure); (case z => omega)); intro D' h' F' N' l1; (try k_sweep)))
local macro_rules | `(tactic| walk_at "setAttr ref") => `(tactic| (k_here; k_dflt (refine' set_dictM ?k1 ?k2 ?k3 ?k4 ?k5 ?km ?k6 ?k7 ?k8 ?k9 ?k10 ?k11 ?k13 ?_; (case k1 | k2 | k3 => k_asm); (case k4 => k_inst); (case k5 => exact rfl); (case km => k_mem); (case k6 | k7 | k8 | k9 => k_is); (case k10 => k_get); (case k11 => k_put); (case k13 => exact Nat.le_of_ble_eq_true rfl); k_whole; intro h' F' N'; (try k_sweep))))
local macro_rules | `(tactic| walk_at "call builtin:min") => `(tactic| (k_here; k_dflt (refine' min_list_N ?hh ?F ?N ?l ?i ?n ?_; (case hh => assumption); (case F | N => k_asm); (case l => exact News.isList (by k_asm) (by k_mem)); (case i => assumption); (case n => omega)); intro h' M' t' tk' F' N' hm1' hm2'; (try k_sweep)))
local macro_rules | `(tactic| walk_at "SUB") => `(tactic| (intro p9 h9; repeat (first | exact h9 | refine List.mem_append_right _ ?_ | refine List.mem_cons_of_mem _ ?_)))
local macro_rules | `(tactic| k_mem) => `(tactic| (with_reducible refine memAppR ?_; k_mem))
local macro_rules | `(tactic| k_mem) => `(tactic| first | with_reducible assumption | (with_reducible refine memK ?_; with_reducible assumption))
local macro_rules | `(tactic| walk_at "DATA") => `(tactic| first | assumption | exact CovIn.mono (by assumption) (by walk_at "SUB") | exact ScIn.mono (by assumption) (by walk_at "SUB") | exact RowIn.mono (by assumption) (by walk_at "SUB"))
local macro_rules | `(tactic| k_enter) => `(tactic| first
  | (refine' code_def ?k1 ?k2 ?k3 ?k4 ?k5 ?kA ?kF ?kK ?k6 ?k7 ?k8 ?k9 ?kB ?_ ?c2 ?c3 ?c4 ?c5; (case kA => first | exact Around.frames_deeper (Below.stack (by assumption)) | assumption); (case kF | kK => first | exact rfl | assumption); (case k1 | k2 | k3 | k4 | k5 => k_asm); (case k6 | k7 => k_is); (case k8 => k_room); (case k9 => first | exact BindsTo.of_eq rfl | exact binds_K (by k_in) rfl (by k_is) rfl rfl rfl | fail "k_enter: no rule for these arguments"); (case c5 => decide); (case kB => exact locs rfl); (case c2 | c3 | c4 => exact rfl); k_whole; intro g' L' h' FG' F' N' B' X' T'; (try dsimp only); (try k_lift B'); (try k_fold))
  | (refine' code_defC ?k1 ?k2 ?k3 ?k4 ?k5 ?kA ?kF ?kK ?k6 ?k7 ?k8 ?k9 ?kB ?kD ?_ ?c2 ?c3 ?c4; (case kA => first | exact Around.frames_deeper (Below.stack (by assumption)) | assumption); (case kF | kK => first | exact rfl | assumption); (case k1 | k2 | k3 | k4 | k5 => k_asm); (case k6 | k7 => k_is); (case k8 => k_room); (case k9 => first | exact BindsTo.of_eq rfl | exact binds_K (by k_in) rfl (by k_is) rfl rfl rfl | fail "k_enter: no rule for these arguments"); (case kB => exact rfl); (case kD => decide +kernel); (case c2 | c3 | c4 => exact rfl); k_whole; intro g' L' h' tk' cells' FG' F' N' Y' B' X' T' l1; (try k_lt l1); k_cells Y'; (try simp only [List.cons_append, List.nil_append] at N'); (try dsimp only); (try k_lift B'); (try k_fold)))
local macro_rules | `(tactic| k_ne) => `(tactic| first | with_reducible assumption | (with_reducible refine Ne.symm ?_; with_reducible assumption) | (with_reducible refine Nat.ne_of_lt ?_; with_reducible assumption) | (with_reducible refine Nat.ne_of_gt ?_; with_reducible assumption))
local macro_rules | `(tactic| walk_at "FORE") => `(tactic| ((rename Fr _ _ _ _ => lF'); k_dflt (refine' For_invVF lF' ?k1 ?k2 ?_ (by intro _; rfl) (by first | assumption | passes_own); (case k1 | k2 => exact rfl); k_whole)))
section
example : True := by w_top off; trivial
/-! parts of the program's own text, by place (nothing of it is typed here) -/
noncomputable def bodyOf : Stmt → List Stmt
  | .FunctionDef _ _ b _ _ _ _ _ _ _ => b
  | _ => []
noncomputable def argsOf : Stmt → Arguments
  | .FunctionDef _ a _ _ _ _ _ _ _ _ => a
  | _ => default
noncomputable def scopeOf : Stmt → Scope
  | .FunctionDef _ _ _ _ _ _ s _ _ _ => s
  | _ => default
noncomputable def topStmt (i : Nat) : Stmt := PySem.Challenge.rw_pb0207_01.row.prog.main.body.getD i (.Pass default)
noncomputable def takeStmt : Stmt := (bodyOf (topStmt 90)).getD 3 (.Pass default)
noncomputable def takeBody : List Stmt := bodyOf takeStmt
noncomputable def takeArgs : Arguments := argsOf takeStmt
noncomputable def takeScope : Scope := scopeOf takeStmt
noncomputable abbrev plc (j : Int) (t : Tok) (n : Nat) : Obj := listOf [Value.int j t].toArray n

/-- what a take needs of the ledger -/
structure TakerIn (f pl : Addr) (gd : List (Addr × Obj)) : Prop where
  ex : ∃ qual cA cB doc pm c' ctv oc vs tq oA oB D n ws ns, (f, fnMade (Str.ofString "take") qual takeArgs takeBody takeScope [(Str.ofString "place", cB), (Str.ofString "cells", cA)] doc pm c' ctv) ∈ gd ∧ (c', oc) ∈ gd ∧ oc.data = .fields vs ∧ vs[1]? = some (.str qual tq) ∧
    (cA, oA) ∈ gd ∧ oA.data = .cell (some (.ref D)) ∧ (cB, oB) ∈ gd ∧ oB.data = .cell (some (.ref pl)) ∧ (D, listOf ws.toArray n) ∈ gd ∧ IntsAre ws ns ∧ 0 < ns.length ∧ ns.length ≤ 63
theorem TakerIn.mono {f pl : Addr} {gd gd' : List (Addr × Obj)} (V : TakerIn f pl gd) (hs : ∀ p ∈ gd, p ∈ gd') : TakerIn f pl gd' := by
  obtain ⟨qual, cA, cB, doc, pm, c', ctv, oc, vs, tq, oA, oB, D, n, ws, ns, a, b, c, d, e, g, h, i, j, k⟩ := V
  exact ⟨qual, cA, cB, doc, pm, c', ctv, oc, vs, tq, oA, oB, D, n, ws, ns, hs _ a, hs _ b, c, d, hs _ e, g, hs _ h, i, hs _ j, k⟩
end
section
example : True := by w_top off; trivial
/-! sorted(dict of ints); keys of a stored dict -/
theorem intsPt : ∀ {vs : List Value} {ks : List Int}, vs.length = ks.length → (∀ (j : Nat) (v : Value), vs[j]? = some v → ∃ k t, ks[j]? = some k ∧ v = Value.int k t) → IntsAre vs ks
  | [], [], _, _ => .nil
  | v :: vs, k :: ks, hl, h => by
    obtain ⟨k', t, e, rfl⟩ := h 0 v rfl
    cases (Option.some.inj e)
    exact .cons _ _ (intsPt (by simpa using hl) fun j v hv => h (j + 1) v hv)
theorem keys_stored {kvs : List (Int × Value)} {x : Int} {v : Value} {k : Int} : k ∈ (stored kvs x v).map (·.1) ↔ k = x ∨ k ∈ kvs.map (·.1) := by
  unfold stored
  split
  · rename_i h
    have e : (kvs.map fun kv => if kv.1 = x then (kv.1, v) else kv).map (·.1) = kvs.map (·.1) := by
      rw [List.map_map]; apply List.map_congr_left; intro p _; simp only [Function.comp]; split <;> rfl
    rw [e]
    constructor
    · exact .inr
    · rintro (rfl | h2)
      · obtain ⟨p, hp, e2⟩ := List.any_eq_true.mp h
        exact List.mem_map.mpr ⟨p, hp, of_decide_eq_true e2⟩
      · exact h2
  · rw [List.map_append, List.mem_append]
    constructor
    · rintro (h | h)
      · exact .inr h
      · exact .inl (by simpa using h)
    · rintro (h | h)
      · exact .inr (by simpa using h)
      · exact .inl h
theorem len_stored {kvs : List (Int × Value)} {x : Int} {v : Value} : (stored kvs x v).length ≤ kvs.length + 1 := by
  unfold stored
  split
  · rw [List.length_map]; omega
  · rw [List.length_append]; exact Nat.le_refl _
section
variable {prog : Program} {w : World} {A : Around} {E : Value → Shared → Prop} {s : Shared} {h₀ : Heap} {L d : Addr} {m : Str → Option Value} {news : List (Addr × Obj)} {od : Obj} {kvs : List (Int × Value)} {Q : Value → Shared → Prop}
theorem sorted_intDict (hh : A.handled = none) (F : Fr h₀ L s.heap m) (N : News h₀ L s.heap news) (hm : (d, od) ∈ news) (lo : (d == sysModules) = false) (hd : od.IsDictOf (intKind prog w) kvs) (hn : kvs.length < 64)
    (h : ∀ B vs' ns' c h' tk, Fr h₀ L h' m → News h₀ L h' ((B, listOf (List.toArray vs') c) :: news) → (∀ q ∈ news, q.1 < B) → IntsAre vs' ns' → vs'.length = kvs.length → ns'.Perm (kvs.map (·.1)) → ns'.Pairwise (· ≤ ·) → Q (.ref B) { s with heap := h', toks := tk }) :
    wpAny (model prog w) A (call (.builtin "sorted") [.ref d]) Q E s := by
  obtain ⟨ep, hat⟩ := (Heap.dictOf_iff.mpr ⟨od, (N _ hm).1, hd⟩ : s.heap.DictOf (intKind prog w) d kvs).dictAt
  refine kdu_sorted (kdl_dict (knd := intKind prog w) (kvs := kvs) (ep := ep) lo) hh F N hat (kdl_size (by omega)) fun B h' tk vs F' N' l1 hl hv => ?_
  have hi : IntsAre vs (kvs.map (·.1)) := intsPt (by rw [hl, List.length_map]) fun j v e => by
    obtain ⟨k, x, hx, hk⟩ := hv j v e
    obtain ⟨t, rfl⟩ := Value.isInt_shape hk
    exact ⟨k, t, by rw [List.getElem?_map, hx]; rfl, rfl⟩
  refine ksk_lsort (news' := fun o => (B, o) :: news) F' N' (fun o => Upd.head fun p hp => Nat.ne_of_lt (l1 p hp)) rfl (by simpa using hi) (by rw [List.length_map]; exact hn) fun vs' ns' c h'' F2 N2 i2 l2 p2 o2 _ => h B vs' ns' c h'' tk F2 N2 l1 i2 (by rw [i2.length, p2.length_eq, List.length_map]) p2 o2
end
theorem ltNe' {d : Addr} {r : List (Addr × Obj)} (h : ∀ p ∈ r, p.1 < d) : ∀ p ∈ r, p.1 ≠ d := fun p hp => Nat.ne_of_lt (h p hp)
theorem allLtNe' {d : Addr} {r : List (Addr × Obj)} (h : AllLt d r) : ∀ p ∈ r, p.1 ≠ d := by
  induction r with
  | nil => intro p hp; cases hp
  | cons a r ih =>
    intro p hp
    rcases List.mem_cons.mp hp with e | hp
    · rw [e]; exact Nat.ne_of_lt h.1
    · exact ih h.2 p hp
end
section
example : True := by w_top off; trivial
/-! a comprehension with a test: by induction -/
section
variable {prog : Program} {w : World} {A : Around} {E : Value → Shared → Prop} {s : Shared} {h₀ : Heap} {L : Addr} {m : Str → Option Value} {env : Env}
theorem compIndT {ct elt : Expr} {x : Str} {scope : Scope} {cl : List (Str × Addr)} {S : List (Addr × Obj) → Prop} {P : Nat → Value → Prop} {Fin : List Value → List (Addr × Obj) → Prop} {n : Nat} {news : List (Addr × Obj)} (J : Nat → List Value → List (Addr × Obj) → Prop) (h0 : J 0 [] news)
    (turn : ∀ i ys nw v I oI C oC D m₂ h tk (E' : Value → Shared → Prop), i < n → J i ys nw → P i v → LCg.NsObj oC m₂ → m₂ x = some v → Fr h₀ L h m → News h₀ L h ((I, oI) :: (C, oC) :: (D, LCg.lst ys) :: nw) → (∀ p ∈ nw, p.1 ≠ I ∧ p.1 ≠ C ∧ p.1 ≠ D) → (@Ne Nat I C ∧ @Ne Nat I D ∧ @Ne Nat C D) →
      wpAny (model prog w) A (isTrue ct (compEnvC scope cl C env) (eval ct (compEnvC scope cl C env))) (fun ok s' => if ok = true then
        wpAny (model prog w) A (eval elt (compEnvC scope cl C env)) (LCg.CompEnd h₀ L m { s with heap := h, toks := tk } I oI C oC D (LCg.lst ys) S (fun y nw' => J (i + 1) (ys ++ [y]) nw')) E' s'
        else LCg.CompEnd h₀ L m { s with heap := h, toks := tk } I oI C oC D (LCg.lst ys) S (fun _ nw' => J (i + 1) ys nw') Value.none s') E' { s with heap := h, toks := tk })
    (fin : ∀ ys nw, J n ys nw → Fin ys nw) : LCt.CompRestT prog w A h₀ L m env ct elt x scope cl s S P Fin n 0 [] news := by
  have key : ∀ (j i : Nat) (ys : List Value) (nw : List (Addr × Obj)), i + j = n → J i ys nw → LCt.CompRestT prog w A h₀ L m env ct elt x scope cl s S P Fin j i ys nw := by
    intro j
    induction j with
    | zero => intro i ys nw e hJ; exact LCt.CompRestT.zero (fin ys nw ((by omega : i = n) ▸ hJ))
    | succ j ih =>
      intro i ys nw e hJ
      refine LCt.CompRestT.succ ?_
      intro v I oI C oC D m₂ h tk E' hv hC hx F N off ne
      refine wpAny_mono (turn i ys nw v I oI C oC D m₂ h tk E' (by omega) hJ hv hC hx F N off.mem ne) (fun ok s₂ hq => ?_) fun _ _ e => e
      cases ok with
      | true =>
        simp only [if_true] at hq ⊢
        refine wpAny_mono hq (fun y s₃ hq => ?_) fun _ _ e => e
        obtain ⟨h', tk', nw', e', F', N', off', hS, hJ'⟩ := hq
        exact ⟨h', tk', nw', e', F', N', off', hS, ih (i + 1) _ _ (by omega) hJ'⟩
      | false =>
        simp only [Bool.false_eq_true, if_false] at hq ⊢
        obtain ⟨h', tk', nw', e', F', N', off', hS, hJ'⟩ := hq
        exact ⟨h', tk', nw', e', F', N', off', hS, ih (i + 1) _ _ (by omega) hJ'⟩
  exact key n 0 [] news (by omega) h0
end
theorem anyMk {g : Int} : ([3, 4].any fun x => x == g) = mkG g := by
  unfold mkG
  have e : ∀ a : Int, (a == g) = (g == a) := fun a => by
    rw [Bool.eq_iff_iff]; simp only [beq_iff_eq]; exact eq_comm
  simp only [List.any_cons, List.any_nil, Bool.or_false, e]
end
section
example : True := by w_top off; trivial
/-! law's body, by place -/
noncomputable def lawBody : List Stmt := bodyOf (topStmt 93)
noncomputable def lawScope : Scope := scopeOf (topStmt 93)
noncomputable def lawS (i : Nat) : Stmt := lawBody.getD i (.Pass default)
noncomputable def lawT (k : Nat) : List Stmt := lawBody.drop k
theorem lawT_1 : lawT 1 = lawS 1 :: lawS 2 :: lawS 3 :: lawS 4 :: lawT 5 := rfl
theorem lawT_5 : lawT 5 = lawS 5 :: lawS 6 :: lawT 7 := rfl
theorem lawT_7 : lawT 7 = lawS 7 :: lawS 8 :: lawT 9 := rfl
theorem lawT_9 : lawT 9 = lawS 9 :: lawS 10 :: lawS 11 :: lawT 12 := rfl
theorem lawT_12 : lawT 12 = lawS 12 :: lawS 13 :: lawS 14 :: lawT 15 := rfl
theorem lawT_15 : lawT 15 = [lawS 15, lawS 16] := rfl
noncomputable abbrev lawEnv (L fa : Addr) (cd : Value) : Env := envOfC (Str.ofString "law") lawScope L fa cd
/-- the row as law builds it: a list of pairs -/
structure RawRow (R : List (Addr × Obj)) (rl : Addr) (rows : List (Int × Int)) : Prop where
  b1 : ∃ n ps, (rl, listOf (List.toArray ps) n) ∈ R ∧ ps.length = rows.length ∧ ∀ (i : Nat) v, ps[i]? = some v → ∃ tt n' g o tg to_, v = .ref tt ∧ (tt, tupOf [Value.int g tg, Value.int o to_].toArray n') ∈ R ∧ rows[i]? = some (g, o)
  b2 : rows.length ≤ 8
  b3 : ∀ p ∈ rows, 1 ≤ p.1 ∧ 1 ≤ p.2 ∧ p.2 ≤ 3
end
section
example : True := by w_top off; trivial
/-! a for over a list with any target -/
noncomputable def FEndT {σ : Type} (h₀ : Heap) (L : Addr) (mm : σ → Str → Option Value) (Led : σ → List (Addr × Obj)) (P : Nat → σ → Prop) (wr : List Addr) (own : List (Addr × Obj)) (i : Nat) (s₁ s₂ : Shared) : Prop :=
  ∃ (c' : σ) (h' : Heap) (tk : Nat) (m' : Str → Option Value) (news' : List (Addr × Obj)), s₂ = { s₁ with heap := h', toks := tk } ∧ Fr h₀ L h' m' ∧ (∀ y, m' y = mm c' y) ∧ News h₀ L h' news' ∧ (∀ p ∈ own, p ∈ news') ∧ (∀ p ∈ Led c', p ∈ news') ∧ (∀ p ∈ Led c', p.1 ∉ wr) ∧ P i c'
noncomputable def FPostT {σ : Type} (h₀ : Heap) (L : Addr) (mm : σ → Str → Option Value) (Led : σ → List (Addr × Obj)) (P : Nat → σ → Prop) (wr : List Addr) (own : List (Addr × Obj)) (i : Nat) (s₁ : Shared) (f : Flow) (s₂ : Shared) : Prop :=
  match f with
  | .next => FEndT h₀ L mm Led P wr own i s₁ s₂
  | _ => False
theorem fEndT {σ : Type} {h₀ : Heap} {L : Addr} {mm : σ → Str → Option Value} {Led : σ → List (Addr × Obj)} {P : Nat → σ → Prop} {wr : List Addr} {own : List (Addr × Obj)} {i : Nat} {s₁ : Shared} {h' : Heap} {tk : Nat} {m' : Str → Option Value} {news' : List (Addr × Obj)} (c' : σ)
    (F : Fr h₀ L h' m') (N : News h₀ L h' news') (hm : ∀ y, m' y = mm c' y) (ho : ∀ p ∈ own, p ∈ news') (hn : ∀ p ∈ Led c', p ∈ news') (hw : ∀ p ∈ Led c', p.1 ∉ wr) (hp : P i c') :
    FEndT h₀ L mm Led P wr own i s₁ { s₁ with heap := h', toks := tk } := ⟨c', h', tk, m', news', rfl, F, hm, N, ho, hn, hw, hp⟩
section
variable {prog : Program} {w : World} {A : Around} {E : Value → Shared → Prop} {Q : Flow → Shared → Prop} {s : Shared} {env : Env} {h₀ : Heap} {target : Expr} {body : List Stmt}
theorem forListT {σ : Type} {l : Addr} {vs : List Value} {nn : Nat} (mm : σ → Str → Option Value) (Led : σ → List (Addr × Obj)) (P : Nat → σ → Prop) (c₀ : σ) {m₀ : Str → Option Value} {news₀ : List (Addr × Obj)}
    (hh : A.handled = none) (hl : (l, listOf vs.toArray nn) ∈ news₀) (F : Fr h₀ env.locals s.heap m₀) (N : News h₀ env.locals s.heap news₀) (hm : ∀ y, m₀ y = mm c₀ y) (hn : ∀ p ∈ Led c₀, p ∈ news₀) (hp : P 0 c₀)
    (turn : ∀ i v c (s₁ : Shared) I oI, l ≠ I → (oI.cls = .type "list_iterator" ∨ oI.cls = .type "tuple_iterator") → vs[i]? = some v → P i c → (∀ p ∈ Led c, p.1 ≠ I) →
      Fr h₀ env.locals s₁.heap (mm c) → News h₀ env.locals s₁.heap ((I, oI) :: (l, listOf vs.toArray nn) :: Led c) →
      wpAny (model prog w) A (assign target env v) (fun _ s₃ => wpAny (model prog w) A (execs body env) (FPostT h₀ env.locals mm Led P [I] [(I, oI), (l, listOf vs.toArray nn)] (i + 1) s₁) E s₃) E s₁)
    (done : ∀ c h tk, P vs.length c → Fr h₀ env.locals h (mm c) → News h₀ env.locals h (Led c) → Q .next { s with heap := h, toks := tk }) :
    wpAny (model prog w) A (pyIter (.ref l)) (fun it s₂ => LoopAtT prog w A h₀ env target body Q E it s₂) E s := by
  have hls : s.heap.IsList l vs.toArray := ⟨_, (N _ hl).1, rfl, nn, rfl⟩
  have hlt : l < s.heap.objs.size := Heap.lt_size (N _ hl).1
  have hne : l ≠ s.heap.objs.size := Nat.ne_of_lt hlt
  have hlL : l ≠ env.locals := (N _ hl).2.1
  have hl0 : h₀.get? l = none := (N _ hl).2.2
  refine wpAny_pyIter_list hls ?_
  have W := Walks.list (prog := prog) (w := w) hh s.heap.objs.size l hne vs.toArray
  simp only [List.size_toArray, List.getElem?_toArray] at W
  have W' := walks_keep (l := l) (o := listOf vs.toArray nn) W (by simp) (by simpa using hne)
  have hIL : s.heap.objs.size ≠ env.locals := fun e => absurd F.ns.lt (e ▸ Nat.lt_irrefl _)
  have hI0 : h₀.get? s.heap.objs.size = none := next_is_new F
  let J : Nat → (Str → Option Value) → List (Addr × Obj) → Prop := fun i m nx => ∃ c, nx = Led c ∧ (∀ y, m y = mm c y) ∧ P i c
  refine ⟨s.heap.objs.size, [s.heap.objs.size, l], [s.heap.objs.size], vs.length, _, _, m₀, Led c₀, J, rfl, W', ?_, ?_, ?_, ⟨⟨⟨_, Heap.get?_push_size _ rfl, rfl, rfl⟩, hls.at fun o e => Heap.get?_push_of_some _ e⟩, Heap.get?_push_of_some _ (N _ hl).1⟩, F.push _, (fun p hp => ⟨Heap.get?_push_of_some _ (N p (hn p hp)).1, (N p (hn p hp)).2⟩), (fun i s' v Q' st hQ' => letGo_listiter st.1.1 hQ'), ⟨c₀, rfl, hm, hp⟩, ?_, ?_⟩
  · simp; exact ⟨Ne.symm hIL, Ne.symm hlL⟩
  · intro b hb; rw [List.mem_singleton.mp hb]; exact hI0
  · intro p hp e
    exact absurd (Heap.lt_size (N p (hn p hp)).1) ((List.mem_singleton.mp e) ▸ Nat.lt_irrefl _)
  · rintro i v m₁ nx s₁ own hin hP ⟨c, rfl, hm₁, hp₁⟩ hoff' hsub hget hall hst₁ F₁ N₁
    obtain ⟨oI, hoI, hcI, -⟩ := hst₁.1.1
    have hIown : (s.heap.objs.size, oI) ∈ own := hall _ (by simp) hI0 _ hoI
    have hlown : (l, listOf vs.toArray nn) ∈ own := hall _ (by simp) hl0 _ hst₁.2
    have hown := own_two hsub hoI hst₁.2 (fun p hp => (N₁ p (List.mem_append_left _ hp)).1)
    refine wpAny_mono (turn i v c s₁ s.heap.objs.size oI hne (.inl hcI) hP hp₁ (fun p hp => by simpa using hoff' p hp) (frCongr F₁ hm₁) (fun p hp => ?_)) (fun _ s₂ q => wpAny_mono q (fun f s₃ r => ?_) fun _ _ e => e) fun _ _ e => e
    · rcases List.mem_cons.mp hp with rfl | hp
      · exact N₁ _ (List.mem_append_left _ hIown)
      · rcases List.mem_cons.mp hp with rfl | hp
        · exact N₁ _ (List.mem_append_left _ hlown)
        · exact N₁ _ (List.mem_append_right _ hp)
    · cases f with
      | next =>
        obtain ⟨c', h', tk', m', news', e, F', hm', N', ho, hn', hw, hp'⟩ := r
        exact ⟨rfl, h', tk', m', Led c', e, F', fun p hp => N' p ((List.mem_append.mp hp).elim (fun z => (hown p z).elim (fun z => ho _ (by rw [z]; simp)) fun z => ho _ (by rw [z]; simp)) (hn' p)), hw, c', rfl, hm', hp'⟩
      | ret v => exact r.elim
      | brk => exact r.elim
      | cont => exact r.elim
  · rintro h' tk m' nx F' N' _ ⟨c, rfl, hm', hp'⟩
    exact done c h' tk hp' (frCongr F' hm') N'
end
end
section
example : True := by w_top off; trivial
/-! a comprehension over a tuple, stored at once -/
section
variable {prog : Program} {w : World} {A : Around} {E : Value → Shared → Prop} {s : Shared} {h₀ : Heap} {L : Addr} {m : Str → Option Value} {env : Env}
theorem Assign_ListComp_TT {elt iter : Expr} {x y : Str} {px py : Pos} {scope : Scope} {cl : List (Str × Addr)} {pos spos : Pos} {Q : Flow → Shared → Prop} (F₀ : Fr h₀ L s.heap m) (hLe : env.locals = L)
    (hsw : swapsWith (.ListComp elt [⟨.Name x px, iter, [], 0⟩] scope pos) (some (.Name y py)) spos.line env = pure true)
    (hclos : closureFor scope env = pure cl) (hcell : ∀ z ∈ scope.names, z.2 ≠ .cell) (hkind : scope.kind = .function)
    (hnames : ∀ z ∈ scope.names, z.2 = .local → scope.names.lookup z.1 = some .local) (hx : scope.names.lookup x = some .local)
    (hy : env.kindOf y = some .local) (hp : (env.scope.kind == .class || (env.scope.kind == .module && env.locals != env.globals)) = false)
    (h : wpAny (model prog w) A (eval iter env) (SrcT prog w A h₀ L m env elt x scope cl (fun s₂ => LCg.FinA h₀ L m s₂ y Q)) E s)
    (hs : ∀ x, foldedSetIterable iter env x = pure x := by intro _; rfl) :
    wpAny (model prog w) A (exec (.Assign [.Name y py] (.ListComp elt [⟨.Name x px, iter, [], 0⟩] scope pos) spos) env) Q E s := by
  subst hLe
  rw [exec_Assign_Name_used _ _ _ _ hsw]
  refine wpAny_bind (wpAny_standAt (wpAny_bind ?_))
  show wpAny _ A (do let _ ← comprehension (.ListComp elt [⟨.Name x px, iter, [], 0⟩] scope pos) scope env _ (newList []) false (eval iter env) (some (assign (.Name y py) env))) _ _ s
  refine wpAny_bind (wpAny_mono (wpAny_comprehension_free (use := some (assign (.Name y py) env)) (Q := fun _ s' => Q .next s') rfl hs hclos hkind hnames
    (wpAny_mono h (fun xv s₁ h₁ => ?_) fun _ _ e => e)) (fun _ s' hq => wpAny_pure (wpAny_pure hq)) fun _ _ e => e)
  obtain ⟨ax, vs, nn, news, rfl, hh, F, N, hm, hsz, R⟩ := h₁
  have hl : s₁.heap.IsTuple ax vs.toArray := ⟨_, (N _ hm).1, rfl, nn, rfl⟩
  have hlt : ax < s₁.heap.objs.size := Heap.lt_size (N _ hm).1
  refine wpAny_pyIter_tuple hl ?_
  have up : ∀ b o, s₁.heap.get? b = some o → (s₁.heap.push { cls := .type "tuple_iterator", data := .fields #[.ref ax, .int 0 0] }).get? b = some o := fun b o e => Heap.get?_push_of_some _ e
  have W := Walks.tuple (prog := prog) (w := w) hh s₁.heap.objs.size ax (Nat.ne_of_lt hlt) vs.toArray
  simp only [List.size_toArray, List.getElem?_toArray] at W
  refine LCg.block_U W hsz (fun i h st => by obtain ⟨o, e, _⟩ := st.1; exact ⟨o, e⟩) (fun i h h' o nw st e e' k Nw hS => ?_) hcell hkind hx ⟨⟨_, Heap.get?_push_size _ rfl, rfl, rfl⟩, hl.at fun o e => Heap.get?_push_of_some _ e⟩ (fun b hb => ?_)
    (F.keeps up) (N.grown up) (Nat.ne_of_lt F.ns.lt) (next_is_new F) (fun p hp => Nat.ne_of_lt (Heap.lt_size (N p hp).1)) hm (R _ ⟨_, rfl⟩) ?_
  · obtain ⟨o', q, r⟩ := st.1
    rw [e] at q; cases q
    exact ⟨⟨o, e', r⟩, ⟨_, (Nw _ hS).1, rfl, nn, rfl⟩⟩
  · show b < (s₁.heap.push _).objs.size
    rw [Heap.size_push]
    rcases List.mem_cons.mp hb with rfl | hb
    · exact Nat.lt_succ_self _
    · rw [List.mem_singleton.mp hb]; exact Nat.lt_succ_of_lt hlt
  · intro D C h' tk m' ys news' F' N' o1 hn hC₀ hD₀ hCL hDL hCD offC fin
    show wpAny _ A (assign (.Name y py) env (.ref D)) _ _ _
    refine wpAny_assign_Name (wpAny_storeName_local hy F'.ns (fun h₂ hn₂ hs₂ => ?_) hp)
    have hL₀ : h₀.get? env.locals = none := Heap.get?_none_of_le F'.above
    have F₂ : Fr h₀ env.locals h₂ (fun z => if z = y then some (.ref D) else m z) := ⟨hn₂, fun b o e => hs₂.extBut b o (fun q => by rw [q, hL₀] at e; cases e) (F'.keep b o e), F'.above⟩
    refine ⟨m', hn.sameBut hs₂ hCL, fun h'' hs'' => fin D h'' _ (F₂.change hs'' hCL hC₀) (fun p hp => ?_) o1⟩
    have z : h₂.get? p.1 = some p.2 := hs₂.extBut _ _ (N' p hp).2.1 (N' p hp).1
    refine ⟨hs''.extBut _ _ ?_ z, (N' p hp).2⟩
    rcases List.mem_cons.mp hp with rfl | hp
    · exact Ne.symm hCD
    · exact offC p hp
end
end
section
example : True := by w_top off; trivial
theorem place_set {prog : Program} {w : World} {A : Around} {E : Value → Shared → Prop} {s : Shared} {h₀ : Heap} {L pl : Addr} {m : Str → Option Value} {rest : List (Addr × Obj)} {j x : Int} {tj t0 u : Tok} {np : Nat} {Q : Unit → Shared → Prop} (F : Fr h₀ L s.heap m) (N : News h₀ L s.heap ((pl, plc j tj np) :: rest)) (hr : ∀ p ∈ rest, p.1 ≠ pl)
  (h : ∀ h', Fr h₀ L h' m → News h₀ L h' ((pl, plc x u np) :: rest) → Q () { s with heap := h' }) : wpAny (model prog w) A (setItem (.ref pl) (.int 0 t0) (.int x u)) Q E s :=
  ksa_set F N (Upd.head hr) (.cons j tj .nil) (by decide) (by simp) (by decide) (fun h' F' N' _ _ _ => h h' F' N')
local macro_rules | `(tactic| walk_at "setItem ref int") => `(tactic| (k_here; k_dflt (refine' place_set ?k1 ?k2 ?k3 ?_; (case k1 | k2 => k_asm); (case k3 => assumption); k_whole); intro h' F' N'; (try k_sweep)))
local macro_rules | `(tactic| walk_at "subscriptTail Name Constant ref int") => `(tactic| (k_here; (with_reducible show wpAny _ _ (subscriptTail _ _ (Value.ref _) (Value.int _ _)) _ _ _); k_dflt (refine' item_L ?N ?mm ?a ?b ?c ?_; (case N => k_asm); (case mm => k_mem); (case a | b => omega); (case c => first | with_reducible assumption | exact rfl); k_whole)))
local macro_rules | `(tactic| walk_at "eval Name") => `(tactic| (k_here; k_dflt (first
  | (refine' nameX_L ?F ?v ?_ ?a ?b; (case a => rfl); (case b => rfl); (case F => k_asm); (case v => rfl); k_whole)
  | (refine' nameX_F ?N ?c ?m ?d ?_ ?a ?b; (case a => rfl); (case b => rfl); (case N => k_asm); (case c => rfl); (case m => k_mem); (case d => k_asm); k_whole)
  | (refine' nameX_B ?F ?X ?T ?e ?v ?n ?_ ?a ?b; (case a => rfl); (case b => rfl); (case F => k_asm); (case X => k_asm); (case T => k_asm); (case e => k_is); (case v => boot_fast); (case n => decide); k_whole))))
theorem pow_small {n : Nat} (h : n ≤ 60) : (720720 : Nat) ^ n < 2 ^ 1201 :=
  Nat.lt_of_le_of_lt (Nat.pow_le_pow_left (by decide : 720720 ≤ 2 ^ 20) n) (by rw [← Nat.pow_mul]; exact Nat.pow_lt_pow_right (by decide) (by omega))
theorem noPy {a : Int} {n : Nat} (h : n ≤ 60) : Builtin.divisionGoesByPylong a ((720720 : Int) ^ n) = false := by
  have h1 : (((720720 : Int) ^ n).natAbs) = 720720 ^ n := by rw [Int.natAbs_pow]; rfl
  have h2 : (720720 : Nat) ^ n ≠ 0 := Nat.pos_iff_ne_zero.mp (Nat.pow_pos (by decide))
  have h3 : ((720720 : Nat) ^ n).log2 < 1201 := (Nat.log2_lt h2).mpr (pow_small h)
  unfold Builtin.divisionGoesByPylong
  simp only [h1]
  have h4 : ((720720 : Int) ^ n == 0) = false := by
    rw [beq_eq_false_iff_ne]
    intro q
    apply h2
    have := congrArg Int.natAbs q
    rw [h1] at this
    exact this
  rw [h4]
  have h5 : decide (((720720 : Nat) ^ n).log2 / 30 + 1 > 300) = false := by
    rw [decide_eq_false_iff_not]; omega
  simp only [Bool.false_eq_true, if_false, h5, Bool.false_and]
theorem pow_ne {n : Nat} : ((720720 : Int) ^ n) ≠ 0 := by
  intro q
  have := congrArg Int.natAbs q
  rw [Int.natAbs_pow] at this
  exact Nat.pos_iff_ne_zero.mp (Nat.pow_pos (by decide)) this
local macro_rules | `(tactic| walk_at "binaryOp Pow int int") => `(tactic| (k_here; (with_reducible refine pow_int_small ?kb1 ?kb2 ?kb3 ?_); (case kb1 => assumption); (case kb2 => omega); (case kb3 => decide)))
local macro_rules | `(tactic| walk_at "binaryOp FloorDiv int int") => `(tactic| (k_here; (with_reducible refine PyProof.Rows.floordiv_int pow_ne ?_ (Or.inl (noPy (by assumption))))))
theorem take_spec {w : World} {A₀ A : Around} {E : Value → Shared → Prop} {s : Shared} {base h₀ : Heap} {outer : List Env} {env : Env} {L : Addr} {m mg mb : Str → Option Value} {mean : ExcName → Option Value} {loose : List Str} {rest : List (Addr × Obj)} {Q : Value → Shared → Prop}
  {f pl : Addr} {j lim : Int} {tj tl : Tok} {np : Nat} (C : Cx w A₀ A base h₀ outer env L mg mb mean loose 4) (F : Fr h₀ L s.heap m) (N : News h₀ L s.heap ((pl, plc j tj np) :: rest)) (hr : ∀ p ∈ rest, p.1 ≠ pl) (V : TakerIn f pl rest)
  (hj0 : 0 ≤ j) (hj : j ≤ 60) (hl0 : 1 ≤ lim) (hl : lim ≤ 9)
  (h : ∀ r t' tj' np' h' tk, 0 ≤ r → r < lim → Fr h₀ L h' m → News h₀ L h' ((pl, plc (j + 1) tj' np') :: rest) → Q (.int r t') { s with heap := h', toks := tk }) :
  wpAny (model pw w) A (call (.ref f) [.int lim tl]) Q E s := by
  obtain ⟨B, X, T, hA, hf, hke, hh, hdep, hun⟩ := C
  obtain ⟨qual, cA, cB, doc, pm, c', ctv, oc, vs, tq, oA, oB, D, n, ws, ns, v1, v2, v3, v4, v5, v6, v7, v8, v9, v10, v11, v12⟩ := V
  have hwl := v10.length
  have hq0 : 0 ≤ j.fdiv (ws.length : Int) := by rw [Int.fdiv_eq_ediv_of_nonneg _ (by omega)]; exact Int.ediv_nonneg hj0 (by omega)
  have hq1 : j.fdiv (ws.length : Int) ≤ 60 := by rw [Int.fdiv_eq_ediv_of_nonneg _ (by omega)]; exact Int.le_trans (Int.ediv_le_self _ hj0) hj
  have hq2 : (j.fdiv (ws.length : Int)).toNat ≤ 60 := by omega
  conv at v1 in takeBody => whnf
  conv at v1 in takeArgs => whnf
  conv at v1 in takeScope => whnf
  refine wpAny_call ?_
  k_dflt (refine' code_nest ?k1 ?k2 ?k3 ?k4 ?k5 ?kA ?kF ?kK ?k6 ?k7 ?k8 ?k9 ?kB ?_ ?c2 ?c3 ?c4 ?c5; (case kA => assumption); (case kF => assumption); (case kK => assumption); (case k1 => k_asm); (case k2 => k_asm); (case k3 => k_asm); (case k4 => k_asm); (case k5 => k_asm); (case k6 => k_mem); (case k7 => exact codeRec_news (by k_asm) (by k_mem) (by assumption) (by assumption)); (case k8 => k_room); (case k9 => exact BindsTo.of_eq rfl); (case c5 => decide); (case kB => exact locs rfl); (case c2 => exact rfl); (case c3 => exact rfl); (case c4 => exact rfl); k_whole; intro g' L' h' FG' F' N' B' X' T'; (try dsimp only); (try k_fold))
  set_option maxHeartbeats 1000000 in
  walk_at "STEPS"
  exact h _ _ _ _ _ _ (fmod_lo _ (by omega)) (fmod_hi _ (by omega)) (by assumption) (by assumption)
end
section
example : True := by w_top off; trivial
theorem take_specU {w : World} {A₀ A : Around} {E : Value → Shared → Prop} {s : Shared} {base h₀ : Heap} {outer : List Env} {env : Env} {L : Addr} {m mg mb : Str → Option Value} {mean : ExcName → Option Value} {loose : List Str} {news fx : List (Addr × Obj)} {g : Obj → List (Addr × Obj)} {Q : Value → Shared → Prop}
  {f pl : Addr} {j lim : Int} {tj tl : Tok} {np : Nat} (C : Cx w A₀ A base h₀ outer env L mg mb mean loose 4) (F : Fr h₀ L s.heap m) (N : News h₀ L s.heap news) (U : UpdF pl (plc j tj np) news g) (V : TakerIn f pl fx) (hfx : ∀ p ∈ fx, p ∈ news) (hsep : ∀ p ∈ fx, p.1 ≠ pl)
  (hj0 : 0 ≤ j) (hj : j ≤ 60) (hl0 : 1 ≤ lim) (hl : lim ≤ 9)
  (h : ∀ r t' tj' np' h' tk, 0 ≤ r → r < lim → Fr h₀ L h' m → News h₀ L h' (g (plc (j + 1) tj' np')) → Q (.int r t') { s with heap := h', toks := tk }) :
  wpAny (model pw w) A (call (.ref f) [.int lim tl]) Q E s := by
  obtain ⟨pre, post, e1, e2, e3, e4⟩ := U.split
  subst e1
  refine take_spec (rest := pre ++ post) (tj := tj) (np := np) C F (fun p hp => N p ?_) ?_ (V.mono fun p hp => ?_) hj0 hj hl0 hl fun r t' tj' np' h' tk a b F' N' => h r t' tj' np' h' tk a b F' (fun p hp => N' p ?_)
  · rcases List.mem_cons.mp hp with rfl | hp
    · exact List.mem_append_right _ List.mem_cons_self
    · exact (List.mem_append.mp hp).elim (List.mem_append_left _) fun h => List.mem_append_right _ (List.mem_cons_of_mem _ h)
  · intro p hp
    rcases List.mem_append.mp hp with hp | hp
    · exact e3 p hp
    · exact e4 p hp
  · rcases List.mem_append.mp (hfx p hp) with h1 | h1
    · exact List.mem_append_left _ h1
    · rcases List.mem_cons.mp h1 with rfl | h1
      · exact absurd rfl (hsep _ hp)
      · exact List.mem_append_right _ h1
  · rw [e2] at hp
    rcases List.mem_append.mp hp with h1 | h1
    · exact List.mem_cons_of_mem _ (List.mem_append_left _ h1)
    · rcases List.mem_cons.mp h1 with rfl | h1
      · exact List.mem_cons_self
      · exact List.mem_cons_of_mem _ (List.mem_append_right _ h1)
theorem allLtNe {d : Addr} {r : List (Addr × Obj)} (h : AllLt d r) : ∀ p ∈ r, p.1 ≠ d := by
  induction r with
  | nil => intro p hp; cases hp
  | cons a r ih =>
    intro p hp
    rcases List.mem_cons.mp hp with e | hp
    · rw [e]; exact Nat.ne_of_lt h.1
    · exact ih h.2 p hp
theorem takerFn {f pl : Addr} {fx news : List (Addr × Obj)} {h₀ h : Heap} {L : Addr} (V : TakerIn f pl fx) (N : News h₀ L h news) (hs : ∀ p ∈ fx, p ∈ news) : FnAt f h := by
  obtain ⟨qual, cA, cB, doc, pm, c', ctv, oc, vs, tq, oA, oB, D, n, ws, ns, a, _⟩ := V
  exact FnAt.of N (hs _ a)
noncomputable def RawSide (R : List (Addr × Obj)) (v : Value) : Option (List Int) → Prop
  | none => v = .none
  | some gs => ∃ D n zs, v = .ref D ∧ (D, listOf zs.toArray n) ∈ R ∧ IntsAre zs gs ∧ gs.length ≤ 3 ∧ 0 < gs.length ∧ ∀ g ∈ gs, 1 ≤ g
theorem RawSide.mono {R R' : List (Addr × Obj)} {v : Value} {sd : Option (List Int)} (V : RawSide R v sd) (hs : ∀ p ∈ R, p ∈ R') : RawSide R' v sd := by
  cases sd with
  | none => exact V
  | some gs => obtain ⟨D, n, zs, a, b, c⟩ := V; exact ⟨D, n, zs, a, hs _ b, c⟩
/-- a table as law builds it: the mapping, its two sides -/
structure RawTab (w : World) (R : List (Addr × Obj)) (md : Addr) (vb va : Value) (om : Obj) (D : List (PyData × PyData)) (f : Int → Option Int) (sb sa : Option (List Int)) : Prop where
  a1 : (md, om) ∈ R
  a2 : (md == sysModules) = false
  a3 : ∃ kvs, om.IsDictOf (intKind pw w) kvs ∧ PyProof.V.FlatPairs PyData.int kvs D
  a4 : D.length ≤ 4
  a5 : ∀ i : Int, Spec.lookup (.int i) D = (f i).map PyData.int
  a6 : RawSide R vb sb
  a7 : RawSide R va sa
theorem RawTab.mono {w : World} {R R' : List (Addr × Obj)} {md : Addr} {vb va : Value} {om : Obj} {D : List (PyData × PyData)} {f : Int → Option Int} {sb sa : Option (List Int)} (V : RawTab w R md vb va om D f sb sa) (hs : ∀ p ∈ R, p ∈ R') : RawTab w R' md vb va om D f sb sa :=
  ⟨hs _ V.a1, V.a2, V.a3, V.a4, V.a5, V.a6.mono hs, V.a7.mono hs⟩
theorem perm3 {a b d p : Addr × Obj} {R : List (Addr × Obj)} (h : p ∈ d :: a :: b :: R) : p ∈ a :: b :: d :: R := by
  rcases List.mem_cons.mp h with rfl | h
  · exact List.mem_cons_of_mem _ (List.mem_cons_of_mem _ List.mem_cons_self)
  · rcases List.mem_cons.mp h with rfl | h
    · exact List.mem_cons_self
    · rcases List.mem_cons.mp h with rfl | h
      · exact List.mem_cons_of_mem _ List.mem_cons_self
      · exact List.mem_cons_of_mem _ (List.mem_cons_of_mem _ (List.mem_cons_of_mem _ h))
theorem perm4 {a b c d p : Addr × Obj} {R : List (Addr × Obj)} (h : p ∈ d :: a :: b :: c :: R) : p ∈ a :: b :: c :: d :: R := by
  rcases List.mem_cons.mp h with rfl | h
  · exact List.mem_cons_of_mem _ (List.mem_cons_of_mem _ (List.mem_cons_of_mem _ List.mem_cons_self))
  · rcases List.mem_cons.mp h with rfl | h
    · exact List.mem_cons_self
    · exact List.mem_cons_of_mem _ (perm3 (List.mem_cons.mpr ((List.mem_cons.mp h).elim (fun e => Or.inr (e ▸ List.mem_cons_self)) fun h => (List.mem_cons.mp h).elim (fun e => Or.inr (e ▸ List.mem_cons_of_mem _ List.mem_cons_self)) fun h => Or.inr (List.mem_cons_of_mem _ (List.mem_cons_of_mem _ h)))))
noncomputable def isListO (o : Obj) : Bool := match o.cls with | .type n => n == "list" | _ => false
theorem listNe {o o' : Obj} (h1 : isListO o = false) (h2 : isListO o' = true) : o ≠ o' := by rintro rfl; rw [h1] at h2; cases h2
theorem allLtLt {d : Addr} {r : List (Addr × Obj)} (h : AllLt d r) : ∀ p ∈ r, p.1 < d := by
  induction r with
  | nil => intro p hp; cases hp
  | cons a r ih =>
    intro p hp
    rcases List.mem_cons.mp hp with e | hp
    · rw [e]; exact h.1
    · exact ih h.2 p hp
theorem off1Ne {d : Addr} {r : List (Addr × Obj)} (h : LCg.Off1 d r) : ∀ p ∈ r, p.1 ≠ d := by
  induction r with
  | nil => intro p hp; cases hp
  | cons a r ih =>
    intro p hp
    rcases List.mem_cons.mp hp with e | hp
    · rw [e]; exact h.1
    · exact ih h.2 p hp
structure RawT where
  tt : Addr
  n : Nat
  md : Addr
  vb : Value
  va : Value
  om : Obj
  D : List (PyData × PyData)
  f : Int → Option Int
  sb : Option (List Int)
  sa : Option (List Int)
structure RawTIn (w : World) (R : List (Addr × Obj)) (x : RawT) : Prop where
  c1 : (x.tt, tupOf [Value.ref x.md, x.vb, x.va].toArray x.n) ∈ R
  c2 : RawTab w R x.md x.vb x.va x.om x.D x.f x.sb x.sa
theorem RawTIn.mono {w : World} {R R' : List (Addr × Obj)} {x : RawT} (V : RawTIn w R x) (hs : ∀ p ∈ R, p ∈ R') : RawTIn w R' x := ⟨hs _ V.c1, V.c2.mono hs⟩
/-- what of a ledger lies apart from another -/
noncomputable def fr9 (rest R : List (Addr × Obj)) : List (Addr × Obj) := R.filter fun p => rest.all fun q => decide (q.1 ≠ p.1)
theorem fr9_mem {rest R : List (Addr × Obj)} {p : Addr × Obj} (h : p ∈ R) (hf : ∀ q ∈ rest, q.1 ≠ p.1) : p ∈ fr9 rest R := List.mem_filter.mpr ⟨h, List.all_eq_true.mpr fun q hq => decide_eq_true (hf q hq)⟩
theorem fr9_sub {rest R : List (Addr × Obj)} : ∀ p ∈ fr9 rest R, p ∈ R := fun _ h => (List.mem_filter.mp h).1
theorem fr9_off {rest R : List (Addr × Obj)} {p : Addr × Obj} (h : p ∈ fr9 rest R) : ∀ q ∈ rest, q.1 ≠ p.1 := fun q hq => of_decide_eq_true (List.all_eq_true.mp (List.mem_filter.mp h).2 q hq)
theorem fr9_mono {rest R R' : List (Addr × Obj)} (h : ∀ p ∈ R, p ∈ R') : ∀ p ∈ fr9 rest R, p ∈ fr9 rest R' := fun p hp => fr9_mem (h p (fr9_sub p hp)) (fr9_off hp)
noncomputable def cut3 (I C D : Addr) (R : List (Addr × Obj)) : List (Addr × Obj) := R.filter fun p => decide (p.1 ≠ I ∧ p.1 ≠ C ∧ p.1 ≠ D)
theorem cut3_mem {I C D : Addr} {R : List (Addr × Obj)} {p : Addr × Obj} (h : p ∈ R) (h2 : p.1 ≠ I ∧ p.1 ≠ C ∧ p.1 ≠ D) : p ∈ cut3 I C D R := List.mem_filter.mpr ⟨h, decide_eq_true h2⟩
theorem cut3_sub {I C D : Addr} {R : List (Addr × Obj)} : ∀ p ∈ cut3 I C D R, p ∈ R := fun _ h => (List.mem_filter.mp h).1
theorem cut3_off {I C D : Addr} {R : List (Addr × Obj)} : ∀ p ∈ cut3 I C D R, p.1 ≠ I ∧ p.1 ≠ C ∧ p.1 ≠ D := fun _ h => of_decide_eq_true (List.mem_filter.mp h).2
theorem cut3_fr {I C D : Addr} {oI oC oD : Obj} {R rest : List (Addr × Obj)} : ∀ p ∈ fr9 ((I, oI) :: (C, oC) :: (D, oD) :: rest) R, p ∈ cut3 I C D R := fun p h =>
  have k := fr9_off h
  cut3_mem (fr9_sub p h) ⟨Ne.symm (k _ List.mem_cons_self), Ne.symm (k _ (List.mem_cons_of_mem _ List.mem_cons_self)), Ne.symm (k _ (List.mem_cons_of_mem _ (List.mem_cons_of_mem _ List.mem_cons_self)))⟩
end
section
local macro_rules | `(tactic| walk_at "setItem ref int") => `(tactic| (k_here; k_dflt (refine' setItem_K PyProof.V.same_int (intKind_is _ _ _ _) ?v ?F ?N ?U ?d ?f ?_ ?z; (case F | N => k_asm); (case U => k_updF); (case d | f => k_asm); (case z => assumption); (case v => k_flat)); intro h' o' F' N' hd' hf'; (try dsimp only at N'); (try k_sweep)))
local macro_rules | `(tactic| walk_at "callWith ref") => `(tactic| (k_here; k_dflt (refine' callWith_F ?k1 ?_; (case k1 => exact takerFn (by assumption) (by k_asm) (by walk_at "SUB")); k_whole)))
local macro_rules | `(tactic| walk_at "FnAt") => `(tactic| (k_dflt (exact takerFn (by assumption) (by k_asm) (by walk_at "SUB"))))
local macro_rules | `(tactic| k_all) => `(tactic| first | with_reducible assumption | exact allLtNe (by with_reducible assumption) | exact List.forall_mem_nil _ | (refine' List.forall_mem_cons.mpr ⟨?a, ?b⟩; (case a => k_ne); (case b => k_all)))
local macro_rules | `(tactic| walk_at "call ref") => `(tactic| (k_here; (with_reducible show wpAny _ _ (call (Value.ref _) [Value.int _ _]) _ _ _); k_dflt (refine' take_specU ?C ?F ?N ?U ?V ?X ?r ?a ?b ?c ?d ?_; (case F => k_asm); (case V => assumption); (case N => k_asm); (case U => k_updF); (case X => walk_at "SUB"); (case r => assumption); (case C => walk_at "CX"); (case a | b | c | d => omega)); intro r' t' tj' np' h' tk' hr1' hr2' F' N'; (try dsimp only at N'); (try k_sweep)))
section
example : True := by w_top off; trivial
theorem toNat_one {r : Int} (h : 0 ≤ r) : ((1 + r).toNat : Int) = 1 + r := Int.toNat_of_nonneg (by omega)
theorem toNat_z {r : Int} (h : 0 ≤ r) : (r.toNat : Int) = r := Int.toNat_of_nonneg h
structure LpT where
  j : Int
  t : Tok
  np : Nat
  od : Obj
  kvs : List (Int × Value)
  D : List (PyData × PyData)
  f : Int → Option Int
  u : Option Value
theorem table_spec {w : World} {A₀ A : Around} {E : Value → Shared → Prop} {s : Shared} {base h₀ : Heap} {outer : List Env} {env : Env} {L : Addr} {m mg mb : Str → Option Value} {mean : ExcName → Option Value} {loose : List Str} {rest : List (Addr × Obj)} {Q : Value → Shared → Prop}
  {f pl : Addr} {j : Int} {tj : Tok} {np : Nat} (C : Cx w A₀ A base h₀ outer env L mg mb mean loose 8) (F : Fr h₀ L s.heap m) (N : News h₀ L s.heap ((pl, plc j tj np) :: rest)) (hr : ∀ p ∈ rest, p.1 ≠ pl) (V : TakerIn f pl rest)
  (hj0 : 0 ≤ j) (hj : j ≤ 40)
  (h : ∀ tt n md vb va om D f' sb sa j' tj' np' R h' tk, j ≤ j' → j' ≤ j + 19 → Fr h₀ L h' m → News h₀ L h' ((pl, plc j' tj' np') :: R) → (∀ p ∈ R, p.1 ≠ pl) → (∀ p ∈ rest, p ∈ R) → (tt, tupOf [.ref md, vb, va].toArray n) ∈ fr9 rest R → RawTab w (fr9 rest R) md vb va om D f' sb sa → Q (.ref tt) { s with heap := h', toks := tk }) :
  wpAny (model pw w) A (call (.ref 686) [.ref f]) Q E s := by
  obtain ⟨B, X, T, hA, hf, hke, hh, hdep, hun⟩ := C
  walk_at "STEPS"
  rename Obj.data _ = Data.cell _ => dC
  replace dC : _ = Data.cell (some (Value.ref f)) := dC
  rename Obj.IsDictOf (intKind _ _) _ [] => hdi
  rename PyProof.V.FlatPairs PyData.int [] [] => hfi
  walk_at "FOR"
  walk_at "STEPS"
  rename _ ∧ pl < _ ∧ AllLt _ rest => l1
  rename_i r0 _ tj0 np0 _ _ hr1 hr2 _ _ _ _ _ _ _ hrg _ _ _
  have z0 := toNat_one hr1
  rename Fr _ _ _ _ => kF'
  rename News _ _ _ _ => kN'
  refine forRangeX (n := (1 + r0).toNat) (mmOf kF' fun rest (c : LpT) y => if y = Str.ofString "glyph" then c.u else rest y) (fun c => (_, c.od) :: (_, _) :: (pl, plc c.j c.t c.np) :: rest) (fun i c => j ≤ c.j ∧ c.j ≤ j + 1 + 2 * i ∧ c.od.IsDictOf (intKind pw w) c.kvs ∧ PyProof.V.FlatPairs PyData.int c.kvs c.D ∧ c.D.length ≤ i ∧ ∀ i : Int, Spec.lookup (.int i) c.D = (c.f i).map PyData.int)
    ⟨j + 1, tj0, np0, _, [], [], fun _ => none, none⟩ hh hrg (small_one (by omega) (by omega) (by omega) (by omega)) (by rw [rangeSize_nat, Int.sub_zero]) kF' kN' (by walk_at "MM") (fun _ hp => hp) ⟨by dsimp only; omega, by dsimp only; omega, hdi, hfi, Nat.le_refl _, fun _ => rfl⟩ ?_ ?_
  · rintro i t' ⟨j1, tj1, np1, od, kvs, D, f1, u1⟩ hp tkp Ia pr qr hin hJ0 off F1 N1
    refine hideG ?_
    intro G9 kG9
    obtain ⟨p1, p2, p3, p4, p6, p5⟩ := hJ0
    refine kG9 ?_
    clear kG9
    dsimp only [mmOf] at F1 p1 p2 p3 p4 p6 p5 ⊢ off N1
    have k1 : 0 ≤ j1 := by omega
    have k2 : j1 ≤ 49 := by omega
    clear kF' kN'
    have o1 := off _ List.mem_cons_self
    have o2 := off _ (List.mem_cons_of_mem _ List.mem_cons_self)
    have o3 := off _ (List.mem_cons_of_mem _ (List.mem_cons_of_mem _ List.mem_cons_self))
    have o4 : ∀ p ∈ rest, p.1 ≠ Ia := fun p hp => off p (List.mem_cons_of_mem _ (List.mem_cons_of_mem _ (List.mem_cons_of_mem _ hp)))
    have o5 : ∀ p ∈ rest, p.1 ≠ _ := allLtNe l1.2.2
    dsimp only at o1 o2 o3
    replace o1 : @Ne Nat _ _ := o1
    replace o2 : @Ne Nat _ _ := o2
    replace o3 : @Ne Nat _ _ := o3
    have hDz : D.length ≤ sizeLine := by rw [sizeLine_eq]; omega
    try k_fold
    walk_at "STEPS"
    rename_i ra _ _ _ _ _ ha1 ha2 _ _ _ _ rb tb tjb npb _ _ hb1 hb2 hx ox Fx Nx hdx hfx
    suffices H9 : ∀ kv9 D9, ox.IsDictOf (intKind pw w) kv9 → PyProof.V.FlatPairs PyData.int kv9 D9 → D9.length ≤ i + 1 → (∀ z : Int, Spec.lookup (.int z) D9 = (if z = 1 + ra then some (1 + rb) else f1 z).map PyData.int) → _ from
      H9 _ _ hdx hfx (Nat.le_trans (PyProof.V.putD_length_le _ _ _) (Nat.succ_le_succ p6)) (fun z => by rw [lookup_putD_int, p5]; split <;> rfl)
    intro kv9 D9 q1 q2 q3 q4
    refine' fEnd ⟨j1 + 1 + 1, tjb, npb, ox, kv9, D9, fun z => if z = 1 + ra then some (1 + rb) else f1 z, _⟩ Fx Nx ?hm ?ho ?hn ?hw ?hp
    (case hp => exact ⟨by dsimp only; omega, by dsimp only; omega, q1, q2, q3, q4⟩)
    (case hm => walk_at "MM")
    (case ho => intro p hp; rw [List.mem_singleton.mp hp]; exact List.mem_cons_self)
    (case hn => exact fun p hp => List.mem_cons_of_mem _ hp)
    (case hw => intro p hp; dsimp only at hp; rw [List.mem_singleton]; rcases List.mem_cons.mp hp with rfl | hp; exact o1; rcases List.mem_cons.mp hp with rfl | hp; exact o2; rcases List.mem_cons.mp hp with rfl | hp; exact o3; exact o4 _ hp)
  · rintro ⟨j1, tj1, np1, od, kvs, D, f1, u1⟩ hp tkp u hJ0 F1 N1
    refine hideG ?_
    intro G9 kG9
    obtain ⟨p1, p2, p3, p4, p6, p5⟩ := hJ0
    refine kG9 ?_
    clear kG9
    dsimp only [mmOf] at F1 p1 p2 p3 p4 p6 p5 ⊢ N1
    have k1 : 0 ≤ j1 := by omega
    have k2 : j1 ≤ j + 9 := by omega
    have k3 : D.length ≤ 4 := by omega
    clear p2 p6
    clear kF' kN'
    try k_fold
    walk_at "STEPS"
    have hT : ∃ kvs, od.IsDictOf (intKind pw w) kvs ∧ PyProof.V.FlatPairs PyData.int kvs D := ⟨kvs, p3, p4⟩
    k_dflt (refine LCg.Assign_ListComp_U (F₀ := by k_asm) (by rfl) (by rfl) (by rfl) (by decide) (by rfl) (by decide) (by rfl) (by rfl) (by rfl) ?_)
    walk_at "STEPS"
    rename IsRange _ _ _ _ _ _ _ _ => hrg2
    rename Fr _ _ _ _ => kF'
    rename News _ _ _ _ => kN'
    obtain ⟨hq1, hq2, hq3⟩ := l1
    have hlo := ‹(_ == sysModules) = false›
    rename pl < _ ∧ AllLt _ rest => l0
    obtain ⟨hl0, hlL'⟩ := l0
    have hlL := allLtLt hlL'
    refine LCg.CompSrc.range (n := 2) hh kF' (News.subl (l' := (pl, plc j1 tj1 np1) :: (_, od) :: (_, _) :: rest) kN' fun p hp => perm3 hp) hrg2 (small_one (by decide) (by decide) (by decide) (by decide)) (by rw [rangeSize_nat]; decide) (by decide) ?_
    intro g9
    refine compInd (fun i ys nw => ∃ j2 tj2 np2 R, nw = (pl, plc j2 tj2 np2) :: R ∧ (∀ p ∈ R, p.1 ≠ pl) ∧ (∀ p ∈ (_, od) :: (_, _) :: rest, p ∈ R) ∧ (∀ p ∈ R, p ∈ rest ∨ ∀ q ∈ rest, q.1 ≠ p.1) ∧ j ≤ j2 ∧ j2 ≤ j1 + 5 * i ∧ ∀ y ∈ ys, ∃ sd, RawSide (fr9 rest R) y sd) ⟨j1, tj1, np1, _, rfl, (by intro p hp; rcases List.mem_cons.mp hp with rfl | hp; exact Nat.ne_of_gt hq2; rcases List.mem_cons.mp hp with rfl | hp; exact Nat.ne_of_gt (Nat.lt_succ_of_lt hl0); exact hr p hp), fun _ hp => hp, (by intro p hp; rcases List.mem_cons.mp hp with rfl | hp; exact .inr (allLtNe hq3); rcases List.mem_cons.mp hp with rfl | hp; exact .inr fun q hq => Nat.ne_of_lt (Nat.lt_succ_of_lt (hlL q hq)); exact .inl hp), p1, by omega, fun y hy => by cases hy⟩ ?_ ?_
    · rintro i ys nw v Ia oI Ca oC Da m₂ h1 tk1 E' hi hyl hJ0 hJ1 hC hx F1 N1 off ne
      refine hideG ?_
      intro G9 kG9
      obtain ⟨j2, tj2, np2, R, rfl, e1, e2, e6, e3, e4, e5⟩ := hJ0
      obtain ⟨tv, rfl⟩ := hJ1
      have k4 : 0 ≤ j2 := by omega
      have k5 : j2 ≤ 54 := by omega
      have hcl := e2 _ (List.mem_cons_of_mem _ List.mem_cons_self)
      have VR : TakerIn f pl R := V.mono fun p hp => e2 p (List.mem_cons_of_mem _ (List.mem_cons_of_mem _ hp))
      obtain ⟨f1, f2, f3⟩ := off _ List.mem_cons_self
      replace f1 : @Ne Nat _ _ := f1
      replace f2 : @Ne Nat _ _ := f2
      replace f3 : @Ne Nat _ _ := f3
      dsimp only at f1 f2 f3
      refine kG9 ?_
      clear kG9
      clear V hr kF' kN'
      try k_fold
      walk_at "STEPS"
      · rename_i ra _ tja npa _ _ ha1 ha2 _ _ ha0
        rename News _ _ _ _ => kN'
        k_dflt (refine LCg.ListComp_U (F₀ := by k_asm) (by rfl) (by decide) (by rfl) (by decide) (by rfl) ?_)
        walk_at "STEPS"
        rename_i rb _ tjb npb _ _ hb1 hb2 _ _ _ _ _ _ _ hrg3 Fb Nb _
        have zb := toNat_one hb1
        refine LCg.CompSrc.range (n := (1 + rb).toNat) hh Fb (News.subl (l' := (pl, plc (j2 + 1 + 1) tjb npb) :: (Ia, oI) :: (Ca, oC) :: (Da, _) :: R) Nb fun p hp => perm4 hp) hrg3 (small_one (by omega) (by omega) (by omega) (by omega)) (by rw [rangeSize_nat, Int.sub_zero]) (by rw [sizeLine_eq]; omega) ?_
        intro g8
        have hR2 : ∀ p ∈ (Ia, oI) :: (Ca, oC) :: (Da, LCg.lst ys) :: R, p.1 ≠ pl := by
          intro p hp
          rcases List.mem_cons.mp hp with rfl | hp; exact Ne.symm f1
          rcases List.mem_cons.mp hp with rfl | hp; exact Ne.symm f2
          rcases List.mem_cons.mp hp with rfl | hp; exact Ne.symm f3
          exact e1 p hp
        have VR2 : TakerIn f pl ((Ia, oI) :: (Ca, oC) :: (Da, LCg.lst ys) :: R) := VR.mono fun p hp => List.mem_cons_of_mem _ (List.mem_cons_of_mem _ (List.mem_cons_of_mem _ hp))
        refine compInd (fun i zs nw => ∃ j3 tj3 np3 gs, nw = (pl, plc j3 tj3 np3) :: (Ia, oI) :: (Ca, oC) :: (Da, LCg.lst ys) :: R ∧ j ≤ j3 ∧ j3 ≤ j2 + 2 + i ∧ IntsAre zs gs ∧ ∀ g ∈ gs, 1 ≤ g) ⟨_, tjb, npb, [], rfl, by omega, by omega, .nil, fun y hy => by cases hy⟩ ?_ ?_
        · rintro i3 zs nw3 v Ib oIb Cb oCb Db m₃ h3 tk3 E3 hi3 hzl hJ0 hJ1 hC3 hx3 F3 N3 off3 ne3
          refine hideG ?_
          intro G9 kG9
          obtain ⟨j3, tj3, np3, gs, rfl, u1, u2, u3, u4⟩ := hJ0
          obtain ⟨tv3, rfl⟩ := hJ1
          have k6 : 0 ≤ j3 := by omega
          have k7 : j3 ≤ 58 := by omega
          obtain ⟨f1', f2', f3'⟩ := off3 _ List.mem_cons_self
          replace f1' : @Ne Nat _ _ := f1'
          replace f2' : @Ne Nat _ _ := f2'
          replace f3' : @Ne Nat _ _ := f3'
          dsimp only at f1' f2' f3'
          refine kG9 ?_
          clear kG9
          clear VR
          try k_fold
          walk_at "STEPS"
          rename_i rc _ tjc npc _ _ hc1 hc2 Fc Nc
          exact cEnd _ Fc Nc (fun _ hp => hp) (fun p hp => by rcases List.mem_cons.mp hp with rfl | hp; exact ⟨f1', f2', f3'⟩; exact off3 p (List.mem_cons_of_mem _ hp)) trivial ⟨j3 + 1, tjc, npc, gs ++ [1 + rc], rfl, by omega, by omega, u3.append (.cons _ _ .nil), fun g hg => by rcases List.mem_append.mp hg with hg | hg; exact u4 g hg; rw [List.mem_singleton.mp hg]; omega⟩
        · rintro zs nw3 hzl ⟨j3, tj3, np3, gs, rfl, u1, u2, u3, u4⟩
          unfold LCg.FinE
          intro D3 h3 tk3 F3 N3 o3
          walk_at "STEPS"
          have hD1 : pl ≠ D3 := o3.1
          have hD2 : Ia ≠ D3 := o3.2.1
          have hD3 : Ca ≠ D3 := o3.2.2.1
          have hD4 : Da ≠ D3 := o3.2.2.2.1
          have hzn : gs.length = zs.length := u3.length.symm
          refine cEnd ((pl, plc j3 tj3 np3) :: (D3, LCg.lst zs) :: R) F3 N3 (fun p hp => ?_) (fun p hp => ?_) trivial ⟨j3, tj3, np3, (D3, LCg.lst zs) :: R, rfl, ?_, fun p hp => List.mem_cons_of_mem _ (e2 p hp), ?_, by omega, by omega, fun y hy => ?_⟩
          · rcases List.mem_cons.mp hp with rfl | hp; exact List.mem_cons_of_mem _ (List.mem_cons_of_mem _ List.mem_cons_self)
            rcases List.mem_cons.mp hp with rfl | hp; exact List.mem_cons_of_mem _ (List.mem_cons_of_mem _ (List.mem_cons_of_mem _ List.mem_cons_self))
            rcases List.mem_cons.mp hp with rfl | hp; exact List.mem_cons_of_mem _ (List.mem_cons_of_mem _ (List.mem_cons_of_mem _ (List.mem_cons_of_mem _ List.mem_cons_self)))
            rcases List.mem_cons.mp hp with rfl | hp; exact List.mem_cons_of_mem _ List.mem_cons_self
            rcases List.mem_cons.mp hp with rfl | hp; exact List.mem_cons_self
            exact List.mem_cons_of_mem _ (List.mem_cons_of_mem _ (List.mem_cons_of_mem _ (List.mem_cons_of_mem _ (List.mem_cons_of_mem _ hp))))
          · rcases List.mem_cons.mp hp with rfl | hp; exact ⟨f1, f2, f3⟩
            rcases List.mem_cons.mp hp with rfl | hp; exact ⟨Ne.symm hD2, Ne.symm hD3, Ne.symm hD4⟩
            exact off p (List.mem_cons_of_mem _ hp)
          · intro p hp; rcases List.mem_cons.mp hp with rfl | hp; exact Ne.symm hD1
            exact e1 p hp
          · intro p hp; rcases List.mem_cons.mp hp with rfl | hp
            · exact .inr fun q hq => off1Ne o3.2.2.2.2 q (e2 q (List.mem_cons_of_mem _ (List.mem_cons_of_mem _ hq)))
            · exact e6 p hp
          · rcases List.mem_append.mp hy with hy | hy
            · obtain ⟨sd, h9⟩ := e5 y hy; exact ⟨sd, h9.mono (fr9_mono fun p hp => List.mem_cons_of_mem _ hp)⟩
            · rw [List.mem_singleton.mp hy]
              exact ⟨some gs, D3, _, zs, rfl, fr9_mem List.mem_cons_self (fun q hq => off1Ne o3.2.2.2.2 q (e2 q (List.mem_cons_of_mem _ (List.mem_cons_of_mem _ hq)))), u3, by omega, by omega, u4⟩
      · rename_i ra _ tja npa _ _ ha1 ha2 Fa Na ha0
        exact cEnd _ Fa Na (fun _ hp => hp) (fun p hp => by rcases List.mem_cons.mp hp with rfl | hp; exact ⟨f1, f2, f3⟩; exact off p (List.mem_cons_of_mem _ hp)) trivial ⟨j2 + 1, tja, npa, R, rfl, e1, e2, e6, by omega, by omega, fun y hy => by rcases List.mem_append.mp hy with hy | hy; exact e5 y hy; rw [List.mem_singleton.mp hy]; exact ⟨none, rfl⟩⟩
    · rintro ys nw hyl ⟨j2, tj2, np2, R, rfl, e1, e2, e6, e3, e4, e5⟩
      unfold LCg.FinA
      intro D1 h1 tk1 F1 N1 o1
      obtain ⟨vb, va, rfl⟩ : ∃ vb va, ys = [vb, va] := len2 hyl
      have hszR : ∀ q ∈ R, q.1 < h1.objs.size := fun q hq => Heap.lt_size (N1 q (List.mem_cons_of_mem _ (List.mem_cons_of_mem _ hq))).1
      obtain ⟨sb, hsb⟩ := e5 vb (by simp)
      obtain ⟨sa, hsa⟩ := e5 va (by simp)
      try k_fold
      walk_at "STEPS"
      have hpD : D1 ≠ pl := Ne.symm o1.1
      rename News h₀ _ _ _ => Nf
      rename Fr h₀ _ _ _ => Ff
      have htp := newsNe Nf List.mem_cons_self (List.mem_cons_of_mem _ (List.mem_cons_of_mem _ List.mem_cons_self)) (listNe rfl rfl)
      refine h _ _ _ vb va od D f1 sb sa j2 tj2 np2 _ _ _ (by omega) (by omega) Ff (News.subl (l' := (pl, plc j2 tj2 np2) :: (_, tupOf [_, vb, va].toArray _) :: (D1, LCg.lst [vb, va]) :: R) Nf fun p hp => perm3 hp) ?_ (fun p hp => ?_) (fr9_mem List.mem_cons_self fun q hq => Nat.ne_of_lt (hszR q (e2 q (List.mem_cons_of_mem _ (List.mem_cons_of_mem _ hq))))) ?_
      · intro p hp
        rcases List.mem_cons.mp hp with rfl | hp; exact htp
        rcases List.mem_cons.mp hp with rfl | hp; exact hpD
        exact e1 p hp
      · exact List.mem_cons_of_mem _ (List.mem_cons_of_mem _ (e2 p (List.mem_cons_of_mem _ (List.mem_cons_of_mem _ hp))))
      · exact RawTab.mono ⟨fr9_mem (e2 _ List.mem_cons_self) (allLtNe hq3), hlo, hT, by omega, p5, hsb, hsa⟩ (fr9_mono fun p hp => List.mem_cons_of_mem _ (List.mem_cons_of_mem _ hp))
end
section
example : True := by w_top off; trivial
local macro_rules | `(tactic| walk_at "call ref") => `(tactic| (k_here; (with_reducible show wpAny _ _ (call (Value.ref 686) [Value.ref _]) _ _ _); k_dflt (refine' table_spec ?C ?F ?N ?r ?V ?a ?b ?_; (case F | N => k_asm); (case V | r => assumption); (case C => walk_at "CX"); (case a | b => omega)); intro tt' n' md' vb' va' om' D' f' sb' sa' j' tj' np' R' h' tk' hj1' hj2' F' N' ha' hs' ht' hT'; (try k_sweep)))
local macro_rules | `(tactic| walk_at "storeName") => `(tactic| (k_here; k_dflt (refine' storeX_F ?F ?N ?c ?U ?d ?_ ?a ?b; (case a | b => rfl); (case F | N => k_asm); (case c => rfl); (case U => k_updF); (case d => k_asm); k_whole); intro h' o' F' N' d'; (try dsimp only at N'); (try k_sweep)))
theorem lawA {w : World} {A₀ A : Around} {E : Value → Shared → Prop} {s : Shared} {base h₀ : Heap} {outer : List Env} {env : Env} {L : Addr} {m mg mb : Str → Option Value} {mean : ExcName → Option Value} {loose : List Str} {rest : List (Addr × Obj)} {Q : Flow → Shared → Prop}
  {f pl fa : Addr} {cd : Value} {oT oR : Obj} {tj : Tok} {np : Nat} (he : env = lawEnv L fa cd) (C : Cx w A₀ A base h₀ outer env L mg mb mean loose 60) (F : Fr h₀ L s.heap m) (N : News h₀ L s.heap ((L + 2, oR) :: (pl, plc 0 tj np) :: rest)) (hr : ∀ p ∈ rest, p.1 ≠ pl) (hr2 : ∀ p ∈ rest, p.1 ≠ L + 2) (hpl : @Ne Nat pl (L + 2)) (V : TakerIn f pl rest)
  (hT : (L + 1, oT) ∈ rest) (hT2 : oT.data = .cell (some (.ref f))) (hR2 : oR.data = .cell none)
  (h : ∀ (rl tbl : Addr) (oR2 : Obj) (pass : Bool) (mask : Int) (tm : Tok) (nb : Nat) (rows : List (Int × Int)) (tabs : List RawT) (r : Str → Option Value) (R : List (Addr × Obj)) (h' : Heap) (tk : Nat),
    Fr h₀ L h' (fun y => if y = Str.ofString "tables" then some (.ref tbl) else if y = Str.ofString "mask" then some (.int mask tm) else if y = Str.ofString "is_passing" then some (.bool pass) else r y) → News h₀ L h' R → (∀ p ∈ rest, p ∈ R) →
    (L + 2, oR2) ∈ R → oR2.data = .cell (some (.ref rl)) → RawRow R rl rows → 1 ≤ mask → mask ≤ 3 → (tbl, listOf (tabs.map fun x => Value.ref x.tt).toArray nb) ∈ R → tabs.length ≤ 2 → (∀ x ∈ tabs, RawTIn w R x) →
    wpAny (model pw w) A (execs (lawT 5) env) Q E { s with heap := h', toks := tk }) :
  wpAny (model pw w) A (execs (lawT 1) env) Q E s := by
  obtain ⟨B, X, T, hA, hf, hke, hh, hdep, hun⟩ := C
  rw [lawT_1]
  unfold lawEnv at he
  conv at he in lawScope => whnf
  dsimp (config := { zeta := true }) only at he
  conv in lawS 1 => whnf
  conv in lawS 2 => whnf
  conv in lawS 3 => whnf
  conv in lawS 4 => whnf
  subst he
  walk_at "STEPS"
  walk1
  k_dflt (refine LCg.ListComp_U (F₀ := by k_asm) (by rfl) (by decide) (by rfl) (by decide) (by rfl) ?_)
  walk_at "STEPS"
  rename_i r0 _ tj0 np0 _ _ hx1 hx2 _ _ _ _ _ _ _ hrg Fb Nb _
  have z0 := toNat_z hx1
  refine LCg.CompSrc.range (n := r0.toNat) hh Fb (News.subl (l' := (pl, plc 1 tj0 np0) :: (L + 2, oR) :: rest) Nb fun p hp => ?_) hrg (small_one (by omega) (by omega) (by omega) (by omega)) (by rw [rangeSize_nat, Int.sub_zero]) (by rw [sizeLine_eq]; omega) ?_
  · rcases List.mem_cons.mp hp with rfl | hp; exact List.mem_cons_of_mem _ List.mem_cons_self
    rcases List.mem_cons.mp hp with rfl | hp; exact List.mem_cons_self
    exact List.mem_cons_of_mem _ (List.mem_cons_of_mem _ hp)
  intro g9
  refine compInd (fun i ys nw => ∃ j2 tj2 np2 R rows, nw = (pl, plc j2 tj2 np2) :: (L + 2, oR) :: R ∧ (∀ p ∈ R, p.1 ≠ pl) ∧ (∀ p ∈ R, p.1 ≠ L + 2) ∧ (∀ p ∈ rest, p ∈ R) ∧ 0 ≤ j2 ∧ j2 ≤ 1 + 2 * i ∧ rows.length = ys.length ∧
      (∀ (i : Nat) v, ys[i]? = some v → ∃ tt n' g o tg to_, v = .ref tt ∧ (tt, tupOf [Value.int g tg, Value.int o to_].toArray n') ∈ R ∧ rows[i]? = some (g, o)) ∧ ∀ p ∈ rows, 1 ≤ p.1 ∧ 1 ≤ p.2 ∧ p.2 ≤ 3)
    ⟨1, tj0, np0, rest, [], rfl, hr, hr2, fun _ hp => hp, by omega, by omega, rfl, (fun i v hv => by simp at hv), fun p hp => by cases hp⟩ ?_ ?_
  · rintro i ys nw v Ia oI Ca oC Da m₂ h1 tk1 E' hi hyl hJ0 hJ1 hC hx F1 N1 off ne
    refine hideG ?_
    intro G9 kG9
    obtain ⟨j2, tj2, np2, R, rows, rfl, e1, e2, e3, e4, e5, e6, e7, e8⟩ := hJ0
    obtain ⟨tv, rfl⟩ := hJ1
    refine kG9 ?_
    clear kG9
    have hcl := e3 _ hT
    have VR : TakerIn f pl R := V.mono e3
    obtain ⟨f1, f2, f3⟩ := off _ List.mem_cons_self
    replace f1 : @Ne Nat _ _ := f1
    replace f2 : @Ne Nat _ _ := f2
    replace f3 : @Ne Nat _ _ := f3
    dsimp only at f1 f2 f3
    clear V hr Nb
    try k_fold
    walk_at "STEPS"
    rename_i ra _ _ _ _ _ ha1 ha2 _ rb _ tjb npb _ _ hb1 hb2 Dt ht Ft Nt lt
    have hD0 : @Ne Nat Ia Dt := Nat.ne_of_lt lt.1
    have hD0' : @Ne Nat Ca Dt := Nat.ne_of_lt lt.2.1
    have hD0'' : @Ne Nat Da Dt := Nat.ne_of_lt lt.2.2.1
    have hD1 : @Ne Nat pl Dt := Nat.ne_of_lt lt.2.2.2.1
    have hD2 : @Ne Nat (L + 2) Dt := Nat.ne_of_lt lt.2.2.2.2.1
    suffices H9 : ∀ t1 t2 n9, News h₀ L ht ((Dt, tupOf #[Value.int (1 + ra) t1, Value.int (1 + rb) t2] n9) :: (Ia, oI) :: (Ca, oC) :: (Da, LCg.lst ys) :: (pl, plc (j2 + 1 + 1) tjb npb) :: (L + 2, oR) :: R) → _ from H9 _ _ _ Nt
    intro t1 t2 n9 Nt9
    refine cEnd ((pl, plc (j2 + 1 + 1) tjb npb) :: (L + 2, oR) :: (Dt, tupOf #[Value.int (1 + ra) t1, Value.int (1 + rb) t2] n9) :: R) Ft Nt9 (fun p hp => ?_) (fun p hp => ?_) trivial ⟨_, tjb, npb, (Dt, tupOf #[Value.int (1 + ra) t1, Value.int (1 + rb) t2] n9) :: R, rows ++ [(1 + ra, 1 + rb)], rfl, ?_, ?_, fun p hp => List.mem_cons_of_mem _ (e3 p hp), by omega, by omega, by simp [e6], ?_, ?_⟩
    · rcases List.mem_cons.mp hp with rfl | hp; exact List.mem_cons_of_mem _ List.mem_cons_self
      rcases List.mem_cons.mp hp with rfl | hp; exact List.mem_cons_of_mem _ (List.mem_cons_of_mem _ List.mem_cons_self)
      rcases List.mem_cons.mp hp with rfl | hp; exact List.mem_cons_of_mem _ (List.mem_cons_of_mem _ (List.mem_cons_of_mem _ List.mem_cons_self))
      rcases List.mem_cons.mp hp with rfl | hp; exact List.mem_cons_of_mem _ (List.mem_cons_of_mem _ (List.mem_cons_of_mem _ (List.mem_cons_of_mem _ List.mem_cons_self)))
      rcases List.mem_cons.mp hp with rfl | hp; exact List.mem_cons_of_mem _ (List.mem_cons_of_mem _ (List.mem_cons_of_mem _ (List.mem_cons_of_mem _ (List.mem_cons_of_mem _ List.mem_cons_self))))
      rcases List.mem_cons.mp hp with rfl | hp; exact List.mem_cons_self
      exact List.mem_cons_of_mem _ (List.mem_cons_of_mem _ (List.mem_cons_of_mem _ (List.mem_cons_of_mem _ (List.mem_cons_of_mem _ (List.mem_cons_of_mem _ hp)))))
    · rcases List.mem_cons.mp hp with rfl | hp; exact ⟨f1, f2, f3⟩
      rcases List.mem_cons.mp hp with rfl | hp; exact off _ (List.mem_cons_of_mem _ List.mem_cons_self)
      rcases List.mem_cons.mp hp with rfl | hp; exact ⟨Ne.symm hD0, Ne.symm hD0', Ne.symm hD0''⟩
      exact off p (List.mem_cons_of_mem _ (List.mem_cons_of_mem _ hp))
    · intro p hp; rcases List.mem_cons.mp hp with rfl | hp; exact Ne.symm hD1
      exact e1 p hp
    · intro p hp; rcases List.mem_cons.mp hp with rfl | hp; exact Ne.symm hD2
      exact e2 p hp
    · intro k v hv
      rcases Nat.lt_or_ge k ys.length with hk | hk
      · rw [List.getElem?_append_left hk] at hv
        obtain ⟨tt, n', g, o, tg, to_, q1, q2, q3⟩ := e7 k v hv
        exact ⟨tt, n', g, o, tg, to_, q1, List.mem_cons_of_mem _ q2, by rw [List.getElem?_append_left (by omega)]; exact q3⟩
      · rw [List.getElem?_append_right hk] at hv
        have hk0 : k - ys.length = 0 := by
          have := (List.getElem?_eq_some_iff.mp hv).1
          simp at this; omega
        rw [hk0] at hv
        cases Option.some.inj hv
        exact ⟨_, _, _, _, _, _, rfl, List.mem_cons_self, by rw [List.getElem?_append_right (by omega), e6, hk0]; rfl⟩
    · intro p hp
      rcases List.mem_append.mp hp with hp | hp
      · exact e8 p hp
      · rw [List.mem_singleton.mp hp]; dsimp only; omega
  · rintro ys nw hyl ⟨j2, tj2, np2, R, rows, rfl, e1, e2, e3, e4, e5, e6, e7, e8⟩
    unfold LCg.FinE
    intro D1 h1 tk1 F1 N1 o1
    have hcl := e3 _ hT
    have VR : TakerIn f pl R := V.mono e3
    have o2 : @Ne Nat pl D1 := o1.1
    have o3 : @Ne Nat (L + 2) D1 := o1.2.1
    clear V hr Nb
    try k_fold
    walk_at "STEPS"
    rename Obj.data _ = Data.cell (some (Value.ref D1)) => dR
    rename_i rp _ _ _ _ _ hp1 hp2 _ _ rm _ tjm npm _ _ hm1 hm2 _ _ _
    k_dflt (refine LCg.Assign_ListComp_U (F₀ := by k_asm) (by rfl) (by rfl) (by rfl) (by decide) (by rfl) (by decide) (by rfl) (by rfl) (by rfl) ?_)
    walk_at "STEPS"
    rename_i rc _ tjc npc _ _ hc1 hc2 _ _ _ _ _ _ _ hrg2 Fc Nc _
    have zc := toNat_one hc1
    obtain ⟨oR2, dR2, Nc2⟩ := (⟨_, dR, Nc⟩ : ∃ o9, Obj.data o9 = Data.cell (some (Value.ref D1)) ∧ News h₀ L _ ((D1, LCg.lst ys) :: (pl, plc (j2 + 1 + 1 + 1) tjc npc) :: (L + 1 + 1, o9) :: R))
    clear Nc
    refine LCg.CompSrc.range (n := (1 + rc).toNat) hh Fc (News.subl (l' := (pl, plc (j2 + 1 + 1 + 1) tjc npc) :: (D1, LCg.lst ys) :: (L + 1 + 1, oR2) :: R) Nc2 fun p hp => ?_) hrg2 (small_one (by omega) (by omega) (by omega) (by omega)) (by rw [rangeSize_nat, Int.sub_zero]) (by rw [sizeLine_eq]; omega) ?_
    · rcases List.mem_cons.mp hp with rfl | hp; exact List.mem_cons_of_mem _ List.mem_cons_self
      rcases List.mem_cons.mp hp with rfl | hp; exact List.mem_cons_self
      exact List.mem_cons_of_mem _ (List.mem_cons_of_mem _ hp)
    intro g9
    refine compInd (fun i vs nw => ∃ j3 tj3 np3 R3 tabs, nw = (pl, plc j3 tj3 np3) :: R3 ∧ (∀ p ∈ R3, p.1 ≠ pl) ∧ (∀ p ∈ (D1, LCg.lst ys) :: (L + 1 + 1, oR2) :: R, p ∈ R3) ∧ 0 ≤ j3 ∧ j3 ≤ 20 + 19 * i ∧ vs = tabs.map (fun x => Value.ref x.tt) ∧ ∀ x ∈ tabs, RawTIn w R3 x)
      ⟨_, tjc, npc, _, [], rfl, (by intro p hp; rcases List.mem_cons.mp hp with rfl | hp; exact Ne.symm o2; rcases List.mem_cons.mp hp with rfl | hp; exact Ne.symm hpl; exact e1 p hp), fun _ hp => hp, by omega, by omega, rfl, fun x hx => by cases hx⟩ ?_ ?_
    · rintro i vs nw v Ia oI Ca oC Da m₂ h2 tk2 E' hi hvl hJ0 hJ1 hC hx F2 N2 off ne
      refine hideG ?_
      intro G9 kG9
      obtain ⟨j3, tj3, np3, R3, tabs, rfl, g1, g2, g3, g4, rfl, g6⟩ := hJ0
      obtain ⟨tv, rfl⟩ := hJ1
      refine kG9 ?_
      clear kG9
      have hcl3 := g2 _ (List.mem_cons_of_mem _ (List.mem_cons_of_mem _ hcl))
      have hi1 : i ≤ 1 := by omega
      obtain ⟨f1, f2, f3⟩ := off _ List.mem_cons_self
      have N3 := News.subl (l' := (pl, plc j3 tj3 np3) :: (Ia, oI) :: (Ca, oC) :: (Da, _) :: R3) N2 fun p hp => perm4 hp
      have hap : ∀ p ∈ (Ia, oI) :: (Ca, oC) :: (Da, LCg.lst (tabs.map fun x => Value.ref x.tt)) :: R3, p.1 ≠ pl := by
        intro p hp
        rcases List.mem_cons.mp hp with rfl | hp; exact Ne.symm f1
        rcases List.mem_cons.mp hp with rfl | hp; exact Ne.symm f2
        rcases List.mem_cons.mp hp with rfl | hp; exact Ne.symm f3
        exact g1 p hp
      have VR3 : TakerIn f pl ((Ia, oI) :: (Ca, oC) :: (Da, LCg.lst (tabs.map fun x => Value.ref x.tt)) :: R3) := VR.mono fun p hp => List.mem_cons_of_mem _ (List.mem_cons_of_mem _ (List.mem_cons_of_mem _ (g2 p (List.mem_cons_of_mem _ (List.mem_cons_of_mem _ hp)))))
      clear N2 VR Nc2
      try k_fold
      walk_at "STEPS"
      rename_i tt n md vb va om D f' sb sa j4 tj4 np4 R4 h4 tk4 hj1 hj2 F4 N4 ha4 hs4 ht4 hT4
      refine cEnd ((pl, plc j4 tj4 np4) :: cut3 Ia Ca Da R4) F4 N4 (fun p hp => ?_) (fun p hp => ?_) trivial ⟨j4, tj4, np4, cut3 Ia Ca Da R4, tabs ++ [⟨tt, n, md, vb, va, om, D, f', sb, sa⟩], rfl, fun p hp => ha4 p (cut3_sub p hp), fun p hp => cut3_mem (hs4 p (List.mem_cons_of_mem _ (List.mem_cons_of_mem _ (List.mem_cons_of_mem _ (g2 p hp))))) (off p (List.mem_cons_of_mem _ (g2 p hp))), by omega, by omega, by simp, fun x hx => ?_⟩
      · rcases List.mem_cons.mp hp with rfl | hp; exact List.mem_cons_of_mem _ (hs4 _ List.mem_cons_self)
        rcases List.mem_cons.mp hp with rfl | hp; exact List.mem_cons_of_mem _ (hs4 _ (List.mem_cons_of_mem _ List.mem_cons_self))
        rcases List.mem_cons.mp hp with rfl | hp; exact List.mem_cons_of_mem _ (hs4 _ (List.mem_cons_of_mem _ (List.mem_cons_of_mem _ List.mem_cons_self)))
        rcases List.mem_cons.mp hp with rfl | hp; exact List.mem_cons_self
        exact List.mem_cons_of_mem _ (cut3_sub p hp)
      · rcases List.mem_cons.mp hp with rfl | hp; exact ⟨f1, f2, f3⟩
        exact cut3_off p hp
      · rcases List.mem_append.mp hx with hx | hx
        · exact (g6 x hx).mono fun p hp => cut3_mem (hs4 p (List.mem_cons_of_mem _ (List.mem_cons_of_mem _ (List.mem_cons_of_mem _ hp)))) (off p (List.mem_cons_of_mem _ hp))
        · rw [List.mem_singleton.mp hx]
          exact ⟨cut3_fr _ ht4, hT4.mono cut3_fr⟩
    · rintro vs nw hvl ⟨j3, tj3, np3, R3, tabs, rfl, g1, g2, g3, g4, rfl, g6⟩
      unfold LCg.FinA
      intro D2 h2 tk2 F2 N2 o5
      have hR3 : ∀ p ∈ R, p ∈ (D2, LCg.lst (tabs.map fun x => Value.ref x.tt)) :: (pl, plc j3 tj3 np3) :: R3 := fun p hp => List.mem_cons_of_mem _ (List.mem_cons_of_mem _ (g2 p (List.mem_cons_of_mem _ (List.mem_cons_of_mem _ hp))))
      rw [List.length_map] at hvl
      refine h D1 D2 oR2 _ _ _ _ rows tabs _ _ _ _ F2 N2 (fun p hp => hR3 p (e3 p hp)) (List.mem_cons_of_mem _ (List.mem_cons_of_mem _ (g2 _ (List.mem_cons_of_mem _ List.mem_cons_self)))) dR2 ⟨⟨_, ys, List.mem_cons_of_mem _ (List.mem_cons_of_mem _ (g2 _ List.mem_cons_self)), e6.symm, fun k v hv => ?_⟩, by omega, e8⟩ (by omega) (by omega) List.mem_cons_self (by omega) (fun x hx => (g6 x hx).mono fun p hp => List.mem_cons_of_mem _ (List.mem_cons_of_mem _ hp))
      obtain ⟨tt, n', g, o, tg, to_, q1, q2, q3⟩ := e7 k v hv
      exact ⟨tt, n', g, o, tg, to_, q1, hR3 _ q2, q3⟩
end
end
section
example : True := by w_top off; trivial
theorem lnext_spec {w : World} {A₀ A : Around} {E : Value → Shared → Prop} {s : Shared} {base h₀ : Heap} {outer : List Env} {env : Env} {L : Addr} {m mg mb : Str → Option Value} {mean : ExcName → Option Value} {loose : List Str} {news : List (Addr × Obj)} {Q : Value → Shared → Prop}
  {l : Addr} {zs : List Value} {gs : List Int} {n : Nat} {pass : Bool} (C : Cx w A₀ A base h₀ outer env L mg mb mean loose 8) (F : Fr h₀ L s.heap m) (N : News h₀ L s.heap news) (hm : (l, listOf zs.toArray n) ∈ news) (hi : IntsAre zs gs) (hl : gs.length ≤ 8)
  (h : ∀ R h' tk t, Fr h₀ L h' m → News h₀ L h' R → (∀ p ∈ news, p ∈ R) → Q (.int (nx pass gs) t) { s with heap := h', toks := tk }) :
  wpAny (model pw w) A (call (.ref 691) [.ref l, .bool pass]) Q E s := by
  obtain ⟨B, X, T, hA, hf, hke, hh, hdep, hun⟩ := C
  walk_at "STEPS"
  rename Obj.data _ = Data.cell _ => dC
  replace dC : _ = Data.cell (some (Value.bool pass)) := dC
  rename News _ _ _ _ => Nz
  k_dflt (refine LCt.Assign_ListComp_T (F₀ := by k_asm) (by rfl) (by rfl) (by rfl) (by decide) (by rfl) (by decide) (by rfl) (by rfl) (by rfl) ?_)
  walk_at "STEPS"
  have hzl := hi.length
  refine LCt.CompSrcT.ledger hh (by assumption) (by assumption) (List.mem_cons_of_mem _ hm) (by simp only [List.size_toArray]; rw [sizeLine_eq]; omega) ?_
  intro g9
  simp only [List.size_toArray, List.getElem?_toArray]
  refine compIndT (fun i ys nw => nw = ledOf Nz ∧ IntsAre ys ((gs.take i).filter fun g => !(pass && mkG g))) ⟨rfl, .nil⟩ ?_ ?_
  · rintro i ys nw v Ia oI Ca oC Da m₂ h1 tk1 E' hin hJ0 hv hC hx F1 N1 off ne
    refine hideG ?_
    intro G9 kG9
    obtain ⟨rfl, e1⟩ := hJ0
    refine kG9 ?_
    clear kG9
    obtain ⟨g, t, rfl, hg⟩ := hi.at i _ hv
    dsimp only [ledOf] at N1 off
    have hE : (gs.take (i + 1)).filter (fun g => !(pass && mkG g)) = (gs.take i).filter (fun g => !(pass && mkG g)) ++ (if (pass && mkG g) then [] else [g]) := by
      rw [List.take_add_one, hg, List.filter_append]
      congr 1
      simp only [Option.toList, List.filter_cons, List.filter_nil]
      cases (pass && mkG g) <;> rfl
    try k_fold
    walk_at "STEPS"
    · have ha := ‹([3, 4].any fun x => x == g) = true›
      have hb := ‹pass = true›
      rw [anyMk] at ha
      exact cEnd (ledOf Nz) (by assumption) (by assumption) (fun p hp => List.mem_cons_of_mem _ hp) off (.inr ⟨_, List.mem_cons_of_mem _ hm, rfl, _, rfl⟩) ⟨rfl, by rw [hE, ha, hb, Bool.true_and, if_pos rfl, List.append_nil, ← hb]; exact e1⟩
    · have ha := ‹([3, 4].any fun x => x == g) = false›
      have hb := ‹pass = true›
      rw [anyMk] at ha
      exact cEnd (ledOf Nz) (by assumption) (by assumption) (fun p hp => List.mem_cons_of_mem _ hp) off (.inr ⟨_, List.mem_cons_of_mem _ hm, rfl, _, rfl⟩) ⟨rfl, by rw [hE, ha, Bool.and_false, if_neg Bool.false_ne_true]; exact e1.append (.cons _ _ .nil)⟩
    · have hb := ‹pass = false›
      exact cEnd (ledOf Nz) (by assumption) (by assumption) (fun p hp => hp) off (.inr ⟨_, List.mem_cons_of_mem _ hm, rfl, _, rfl⟩) ⟨rfl, by rw [hE, hb, Bool.false_and, if_neg Bool.false_ne_true, ← hb]; exact e1.append (.cons _ _ .nil)⟩
  · rintro ys nw ⟨rfl, e1⟩
    rw [hzl, List.take_length] at e1
    unfold LCg.FinA
    intro D1 h1 tk1 F1 N1 o1
    cases hfl : gs.filter (fun g => !(pass && mkG g)) with
    | nil =>
      have hnx : nx pass gs = 0 := by unfold nx; rw [hfl]; rfl
      rw [hfl] at e1
      rw [hnx] at h
      try k_fold
      walk_at "STEPS"
      · exact h _ _ _ _ (by assumption) (by assumption) (by walk_at "SUB")
    | cons g0 gr =>
      have hnx : nx pass gs = g0 := by unfold nx; rw [hfl]; rfl
      rw [hfl] at e1
      rw [hnx] at h
      obtain ⟨t0, hy0⟩ := e1.get 0 g0 rfl
      replace N1 : News _ _ h1 ((D1, listOf ys.toArray ys.length) :: ledOf Nz) := N1
      try k_fold
      walk_at "STEPS"
      · exact absurd ‹decide (g0 :: gr = []) = true› (by simp)
      · exact h _ _ _ _ (by assumption) (by assumption) (by walk_at "SUB")
end
section
local macro_rules | `(tactic| k_all) => `(tactic| first | with_reducible assumption | exact ltNe' (by with_reducible assumption) | exact allLtNe' (by with_reducible assumption) | exact allLtNe' (And.right (by with_reducible assumption)) | exact allLtNe' (And.right (And.right (by with_reducible assumption))) | exact List.forall_mem_nil _ | (refine' List.forall_mem_cons.mpr ⟨?a, ?b⟩; (case a => k_ne); (case b => k_all)))
local macro_rules | `(tactic| walk_at "setAttr ref") => `(tactic| (k_here; k_dflt (refine' set_dict ?k1 ?k2 ?k3 ?k4 ?k5 ?k6 ?k7 ?k8 ?k9 ?k10 ?k11 ?k12 ?k13 ?_; (case k1 | k2 | k3 => k_asm); (case k4 => k_inst); (case k5 => exact rfl); (case k6 | k7 | k8 | k9 => k_is); (case k10 => k_get); (case k11 => k_put); (case k12 => k_upd); (case k13 => exact Nat.le_of_ble_eq_true rfl); k_whole; intro h' F' N'; (try k_sweep))))
local macro_rules | `(tactic| walk_at "FORT") => `(tactic| ((rename Fr _ _ _ _ => lF'); k_dflt (refine' For_invTF lF' ?_ ?k2 (by first | assumption | passes_own); (case k2 => intro _; rfl); k_whole)))
local macro_rules | `(tactic| walk_at "call builtin:list.append") => `(tactic| (k_here; (with_reducible show wpAny _ _ (call (Value.builtin _) [Value.ref _, _]) _ _ _); k_dflt (refine' append_K ?k1 ?k2 ?k3 ?_ ?z; (case k1 | k2 => k_asm); (case k3 => k_upd); (case z => (simp only [List.size_toArray, List.length_map]; rw [sizeLine_eq]; omega)); k_whole); intro h' F' N'; (try k_sweep)))
section
example : True := by w_top off; trivial
local macro_rules | `(tactic| walk_at "call type:tuple") => `(tactic| (k_here; (with_reducible show wpAny _ _ (call (Value.type _) [Value.ref _]) _ _ _); k_dflt (refine' kde_tupleOf ?k1 ?k2 ?k3 ?k4 ?k5 ?_; (case k1 | k2 => k_asm); (case k3 => exact News.isList (by k_asm) (by k_mem)); (case k4 => (simp only [List.size_toArray]; omega)); (case k5 => exact rfl); k_whole); intro D' h' F' N' l1; (try k_sweep)))
local macro_rules | `(tactic| walk_at "setItem ref int") => `(tactic| (k_here; k_dflt (refine' setItem_K PyProof.V.same_int (intKind_is _ _ _ _) ?v ?F ?N ?U ?d ?f ?_ ?z; (case F | N => k_asm); (case U => k_updF); (case d | f => k_asm); (case z => assumption); (case v => k_flat)); intro h' o' F' N' hd' hf'; (try dsimp only at N'); (try k_sweep)))
local macro_rules | `(tactic| walk_at "call builtin:sorted") => `(tactic| (k_here; k_dflt (refine' sorted_intDict ?H ?F ?N ?mm ?l ?d ?n ?_; (case H => assumption); (case F | N => k_asm); (case mm => k_mem); (case l => assumption); (case d => k_asm); (case n => omega)); intro B' vs' ns' c' h' tk' F' N' l1 i' e' p' o'; (try k_sweep)))
structure LpC where
  od : Obj
  kvs : List (Int × Value)
  D : List (PyData × PyData)
theorem coverof_spec {w : World} {A₀ A : Around} {E : Value → Shared → Prop} {s : Shared} {base h₀ : Heap} {outer : List Env} {env : Env} {L : Addr} {m mg mb : Str → Option Value} {mean : ExcName → Option Value} {loose : List Str} {news : List (Addr × Obj)} {Q : Value → Shared → Prop}
  {l : Addr} {zs : List Value} {gs : List Int} {n : Nat} (C : Cx w A₀ A base h₀ outer env L mg mb mean loose 8) (F : Fr h₀ L s.heap m) (N : News h₀ L s.heap news) (hm : (l, listOf zs.toArray n) ∈ news) (hi : IntsAre zs gs) (hl : gs.length ≤ 3)
  (h : ∀ cv gs' R h' tk, Fr h₀ L h' m → News h₀ L h' R → (∀ p ∈ news, p ∈ R) → CovIn w cv gs' (fr9 news R) → (∀ g, g ∈ gs' ↔ g ∈ gs) → Q (.ref cv) { s with heap := h', toks := tk }) :
  wpAny (model pw w) A (call (.ref 626) [.ref l]) Q E s := by
  obtain ⟨B, X, T, hA, hf, hke, hh, hdep, hun⟩ := C
  walk_at "STEPS"
  walk_at "FOR"
  walk_at "STEPS"
  rename Obj.IsDictOf (intKind _ _) _ [] => hdi
  rename PyProof.V.FlatPairs PyData.int [] [] => hfi
  rename Fr _ _ _ _ => kF'
  rename News _ _ _ _ => kN'
  rename ∀ p ∈ news, p.1 < _ => hlt
  have hlo := ‹(_ == sysModules) = false›
  have hzl := hi.length
  refine forListX (mmOf kF' fun rest (c : LpC) y => rest y) (fun c => (_, c.od) :: news) (fun i c => c.od.IsDictOf (intKind pw w) c.kvs ∧ PyProof.V.FlatPairs PyData.int c.kvs c.D ∧ c.kvs.length ≤ i ∧ ∀ k, k ∈ c.kvs.map (·.1) ↔ k ∈ gs.take i) ⟨_, [], []⟩ hh (by k_mem) kF' kN' (by walk_at "MM") (fun _ hp => hp) ⟨hdi, hfi, Nat.le_refl _, fun k => by simp⟩ ?_ ?_
  · rintro i v ⟨od, kvs, D⟩ h1 tk1 Ia oI hne hcI hv hJ0 off F1 N1
    refine hideG ?_
    intro G9 kG9
    obtain ⟨p1, p2, p3, p4⟩ := hJ0
    refine kG9 ?_
    clear kG9
    dsimp only [mmOf] at F1 p1 p2 p3 p4 ⊢ off N1
    clear kF' kN' hdi hfi
    have hil : i < gs.length := by rw [← hzl]; exact (List.getElem?_eq_some_iff.mp hv).1
    obtain ⟨t, hv1, hv2⟩ : ∃ t, v = .int (gs.getD i 0) t ∧ gs[i]? = some (gs.getD i 0) := by
      obtain ⟨g, t, e1, e2⟩ := hi.at i _ hv
      have e3 : gs.getD i 0 = g := by rw [List.getD_eq_getElem?_getD, e2]; rfl
      exact ⟨t, by rw [e3]; exact e1, by rw [e3]; exact e2⟩
    subst hv1
    have o1 := off _ List.mem_cons_self
    dsimp only at o1
    replace o1 : @Ne Nat _ _ := o1
    have o4 : ∀ p ∈ news, p.1 ≠ _ := fun p hp => Nat.ne_of_lt (hlt p hp)
    have hlx := hlt _ hm
    dsimp only at hlx
    replace hlx : @LT.lt Nat _ _ _ := hlx
    have hDz : D.length ≤ sizeLine := by rw [sizeLine_eq, p2.length]; omega
    try k_fold
    walk_at "STEPS"
    rename_i hx ox Fx Nx hdx hfx
    suffices H9 : ∀ kv9 D9, ox.IsDictOf (intKind pw w) kv9 → PyProof.V.FlatPairs PyData.int kv9 D9 → kv9.length ≤ i + 1 → (∀ k, k ∈ kv9.map (·.1) ↔ k ∈ gs.take (i + 1)) → _ from
      H9 _ _ hdx hfx (Nat.le_trans len_stored (Nat.succ_le_succ p3)) (fun k => by rw [keys_stored, p4, List.take_add_one, hv2]; simp [or_comm])
    intro kv9 D9 q1 q2 q3 q4
    refine' fEnd ⟨ox, kv9, D9⟩ Fx Nx ?hm ?ho ?hn ?hw ?hp
    (case hp => exact ⟨q1, q2, q3, q4⟩)
    (case hm => walk_at "MM")
    (case ho => intro p hp; rcases List.mem_cons.mp hp with rfl | hp; exact List.mem_cons_self; rw [List.mem_singleton.mp hp]; exact List.mem_cons_of_mem _ List.mem_cons_self)
    (case hn => exact fun p hp => List.mem_cons_of_mem _ (List.mem_cons_of_mem _ hp))
    (case hw => intro p hp; rw [List.mem_singleton]; rcases List.mem_cons.mp hp with rfl | hp; exact o1; exact off p (List.mem_cons_of_mem _ hp))
  · rintro ⟨od, kvs, D⟩ h1 tk1 u hJ0 F1 N1
    refine hideG ?_
    intro G9 kG9
    obtain ⟨p1, p2, p3, p4⟩ := hJ0
    refine kG9 ?_
    clear kG9
    dsimp only [mmOf] at F1 p1 p2 p3 p4 ⊢ N1
    clear kF' kN' hdi hfi
    have hk6 : kvs.length < 64 := by omega
    try k_fold
    walk_at "STEPS"
    rename News h₀ _ _ _ => Nf
    rename Fr h₀ _ _ _ => Ff
    have hi9 := ‹IntsAre _ _›
    have hp9 := ‹List.Perm _ (kvs.map (·.1))›
    have ho9 := ‹List.Pairwise _ _›
    have q1 := ‹∀ p ∈ (_, listOf (List.toArray _) _) :: (_, od) :: news, p.1 < _›
    rename _ ∧ _ ∧ _ ∧ AllLt _ news => q2
    rename @LT.lt Nat _ _ _ => q3
    have w1 : ∀ q ∈ news, q.1 ≠ _ := fun q hq => Nat.ne_of_lt (q1 q (List.mem_cons_of_mem _ (List.mem_cons_of_mem _ hq)))
    have w2 : ∀ q ∈ news, q.1 ≠ _ := allLtNe q2.2.2.2
    have w3 : ∀ q ∈ news, q.1 ≠ _ := fun q hq => Nat.ne_of_lt (Nat.lt_trans (allLtLt q2.2.2.2 q hq) q3)
    refine h _ _ _ _ _ Ff Nf (fun p hp => ?_) ⟨⟨_, _, _, _, _, fr9_mem List.mem_cons_self w3, fr9_mem (List.mem_cons_of_mem _ List.mem_cons_self) w2, fr9_mem (List.mem_cons_of_mem _ (List.mem_cons_of_mem _ List.mem_cons_self)) w1, hi9⟩, fun i j hij hj => PyProof.Rows.sorted_getD_le ho9 hij hj, ?_⟩ (fun g => ?_)
    · exact List.mem_cons_of_mem _ (List.mem_cons_of_mem _ (List.mem_cons_of_mem _ (List.mem_cons_of_mem _ (List.mem_cons_of_mem _ hp))))
    · rw [hp9.length_eq, List.length_map]; omega
    · rw [hp9.mem_iff, p4, hzl, List.take_length]
end
section
example : True := by w_top off; trivial
/-! objects made, over any ledger -/
theorem mkClassDef {w : World} {A₀ A : Around} {E : Value → Shared → Prop} {s : Shared} {base h₀ : Heap} {outer : List Env} {env : Env} {L : Addr} {m mg mb : Str → Option Value} {mean : ExcName → Option Value} {loose : List Str} {news : List (Addr × Obj)} {Q : Value → Shared → Prop}
  {x : Addr} (C : Cx w A₀ A base h₀ outer env L mg mb mean loose 8) (F : Fr h₀ L s.heap m) (N : News h₀ L s.heap news)
  (h : ∀ (a d : Nat) (k0 : Tok) h' tk, Fr h₀ L h' m → News h₀ L h' ((a, instObj 573 d) :: (d, dictOf [ent w.params "classes" k0 (.ref x)] 1) :: news) → (∀ p ∈ news, p.1 < d) → d < a → Q (.ref a) { s with heap := h', toks := tk }) :
  wpAny (model pw w) A (call (.ref 573) [.ref x]) Q E s := by
  obtain ⟨B, X, T, hA, hf, hke, hh, hdep, hun⟩ := C
  walk_at "STEPS"
  exact h _ _ _ _ _ (by assumption) (by assumption) (by assumption) (by assumption)
theorem mkBuffer {w : World} {A₀ A : Around} {E : Value → Shared → Prop} {s : Shared} {base h₀ : Heap} {outer : List Env} {env : Env} {L : Addr} {m mg mb : Str → Option Value} {mean : ExcName → Option Value} {loose : List Str} {news : List (Addr × Obj)} {Q : Value → Shared → Prop}
  {x : Addr} (C : Cx w A₀ A base h₀ outer env L mg mb mean loose 8) (F : Fr h₀ L s.heap m) (N : News h₀ L s.heap news)
  (h : ∀ (a d : Nat) (k0 k1 k2 k4 k3 k5 : Tok) h' tk, Fr h₀ L h' m → News h₀ L h' ((a, instObj 193 d) :: (d, dictOf [ent w.params "row" k0 (.ref x), ent w.params "is_backward" k1 (.bool false), ent w.params "last_lig" k2 (.int 0 k3), ent w.params "last_split" k4 (.int 0 k5)] 4) :: news) → (∀ p ∈ news, p.1 < d) → d < a → Q (.ref a) { s with heap := h', toks := tk }) :
  wpAny (model pw w) A (call (.ref 193) [.ref x]) Q E s := by
  obtain ⟨B, X, T, hA, hf, hke, hh, hdep, hun⟩ := C
  walk_at "STEPS"
  exact h _ _ _ _ _ _ _ _ _ _ (by assumption) (by assumption) (by assumption) (by assumption)
theorem mkLookup {w : World} {A₀ A : Around} {E : Value → Shared → Prop} {s : Shared} {base h₀ : Heap} {outer : List Env} {env : Env} {L : Addr} {m mg mb : Str → Option Value} {mean : ExcName → Option Value} {loose : List Str} {news : List (Addr × Obj)} {Q : Value → Shared → Prop}
  {x : Addr} {fl : Int} {t1 t2 t3 : Tok} (C : Cx w A₀ A base h₀ outer env L mg mb mean loose 8) (F : Fr h₀ L s.heap m) (N : News h₀ L s.heap news)
  (h : ∀ (a d : Nat) (k0 k1 k2 k3 : Tok) h' tk, Fr h₀ L h' m → News h₀ L h' ((a, instObj 43 d) :: (d, dictOf [ent w.params "kind" k0 (.str (Str.ofString "reverse") t1), ent w.params "flag" k1 (.int fl t2), ent w.params "mark_set" k2 (.int 0 t3), ent w.params "tables" k3 (.ref x)] 4) :: news) → (∀ p ∈ news, p.1 < d) → d < a → Q (.ref a) { s with heap := h', toks := tk }) :
  wpAny (model pw w) A (call (.ref 43) [.str (Str.ofString "reverse") t1, .int fl t2, .int 0 t3, .ref x]) Q E s := by
  obtain ⟨B, X, T, hA, hf, hke, hh, hdep, hun⟩ := C
  walk_at "STEPS"
  exact h _ _ _ _ _ _ _ _ (by assumption) (by assumption) (by assumption) (by assumption)
theorem mkReverse {w : World} {A₀ A : Around} {E : Value → Shared → Prop} {s : Shared} {base h₀ : Heap} {outer : List Env} {env : Env} {L : Addr} {m mg mb : Str → Option Value} {mean : ExcName → Option Value} {loose : List Str} {news : List (Addr × Obj)} {Q : Value → Shared → Prop}
  {x y z : Addr} (C : Cx w A₀ A base h₀ outer env L mg mb mean loose 8) (F : Fr h₀ L s.heap m) (N : News h₀ L s.heap news)
  (h : ∀ (a d : Nat) (k0 k1 k2 : Tok) h' tk, Fr h₀ L h' m → News h₀ L h' ((a, instObj 470 d) :: (d, dictOf [ent w.params "mapping" k0 (.ref x), ent w.params "back" k1 (.ref y), ent w.params "ahead" k2 (.ref z)] 3) :: news) → (∀ p ∈ news, p.1 < d) → d < a → Q (.ref a) { s with heap := h', toks := tk }) :
  wpAny (model pw w) A (call (.ref 470) [.ref x, .ref y, .ref z]) Q E s := by
  obtain ⟨B, X, T, hA, hf, hke, hh, hdep, hun⟩ := C
  walk_at "STEPS"
  exact h _ _ _ _ _ _ _ (by assumption) (by assumption) (by assumption) (by assumption)
theorem mkGdef {w : World} {A₀ A : Around} {E : Value → Shared → Prop} {s : Shared} {base h₀ : Heap} {outer : List Env} {env : Env} {L : Addr} {m mg mb : Str → Option Value} {mean : ExcName → Option Value} {loose : List Str} {news : List (Addr × Obj)} {Q : Value → Shared → Prop}
  {x y z : Addr} (C : Cx w A₀ A base h₀ outer env L mg mb mean loose 8) (F : Fr h₀ L s.heap m) (N : News h₀ L s.heap news)
  (h : ∀ (a d pts crs : Nat) (op oc : Obj) (k0 k1 k2 k3 k4 : Tok) h' tk, Fr h₀ L h' m → News h₀ L h' ((crs, oc) :: (pts, op) :: (a, instObj 670 d) :: (d, dictOf [ent w.params "classes" k0 (.ref x), ent w.params "attach" k1 (.ref y), ent w.params "sets" k2 (.ref z), ent w.params "points" k3 (.ref pts), ent w.params "carets" k4 (.ref crs)] 5) :: news) → (∀ p ∈ news, p.1 < d) → d < a → Q (.ref a) { s with heap := h', toks := tk }) :
  wpAny (model pw w) A (call (.ref 670) [.ref x, .ref y, .ref z]) Q E s := by
  obtain ⟨B, X, T, hA, hf, hke, hh, hdep, hun⟩ := C
  walk_at "STEPS"
  exact h _ _ _ _ _ _ _ _ _ _ _ _ _ (by assumption) (by assumption) (by assumption) (by assumption)
theorem mkScene {w : World} {A₀ A : Around} {E : Value → Shared → Prop} {s : Shared} {base h₀ : Heap} {outer : List Env} {env : Env} {L : Addr} {m mg mb : Str → Option Value} {mean : ExcName → Option Value} {loose : List Str} {news : List (Addr × Obj)} {Q : Value → Shared → Prop}
  {x y z u : Addr} {mask : Int} {tm : Tok} (C : Cx w A₀ A base h₀ outer env L mg mb mean loose 8) (F : Fr h₀ L s.heap m) (N : News h₀ L s.heap news)
  (h : ∀ (a d st : Nat) (j k0 k1 k2 k3 k4 k5 k6 k7 : Tok) h' tk, Fr h₀ L h' m → News h₀ L h' ((st, listOf #[Value.int 0 j] 0) :: (a, instObj 65 d) :: (d, dictOf [ent w.params "buffer" k0 (.ref x), ent w.params "gdef" k1 (.ref y), ent w.params "lookups" k2 (.ref z), ent w.params "lookup" k3 (.ref u), ent w.params "mask" k4 (.int mask tm), ent w.params "depth" k5 (.int 0 k6), ent w.params "steps" k7 (.ref st)] 7) :: news) → (∀ p ∈ news, p.1 < d) → d < a → Q (.ref a) { s with heap := h', toks := tk }) :
  wpAny (model pw w) A (call (.ref 65) [.ref x, .ref y, .ref z, .ref u, .int mask tm]) Q E s := by
  obtain ⟨B, X, T, hA, hf, hke, hh, hdep, hun⟩ := C
  walk_at "STEPS"
  exact h _ _ _ _ _ _ _ _ _ _ _ _ _ _ (by assumption) (by assumption) (by assumption) (by assumption)
end
section
example : True := by w_top off; trivial
/-! law: the tables made -/
noncomputable def SdSame : Option (List Int) → Option (List Int) → Prop
  | none, none => True
  | some gs, some gs' => ∀ g, g ∈ gs' ↔ g ∈ gs
  | _, _ => False
theorem sideL_same {a b : Option (List Int)} (h : SdSame a b) (pass : Bool) (l : List Int) : sideL pass l b = sideL pass l a := by
  cases a with
  | none => cases b with
    | none => rfl
    | some _ => exact h.elim
  | some gs => cases b with
    | none => exact h.elim
    | some gs' => exact decide_eq_decide.mpr (h _)
noncomputable def fireR (pass : Bool) (earlier later : List Int) (g : Int) (x : RawT) : Option Int := if sideL pass earlier x.sb && sideL pass later x.sa then x.f g else none
theorem fire_same {x : RawT} {t : TabD} (h1 : t.f = x.f) (h2 : SdSame x.sb t.sb) (h3 : SdSame x.sa t.sa) (pass : Bool) (e l : List Int) (g : Int) : fireL pass e l g t = fireR pass e l g x := by
  unfold fireL fireR; rw [sideL_same h2, sideL_same h3, h1]
theorem perm4r {a b c d p : Addr × Obj} {R : List (Addr × Obj)} (h : p ∈ a :: b :: c :: d :: R) : p ∈ d :: a :: b :: c :: R := by
  simp only [List.mem_cons] at h ⊢
  rcases h with h | h | h | h | h <;> simp [h]
noncomputable def cut2 (I C : Addr) (R : List (Addr × Obj)) : List (Addr × Obj) := R.filter fun p => decide (p.1 ≠ I ∧ p.1 ≠ C)
theorem cut2_mem {I C : Addr} {R : List (Addr × Obj)} {p : Addr × Obj} (h : p ∈ R) (h2 : p.1 ≠ I ∧ p.1 ≠ C) : p ∈ cut2 I C R := List.mem_filter.mpr ⟨h, decide_eq_true h2⟩
theorem cut2_sub {I C : Addr} {R : List (Addr × Obj)} : ∀ p ∈ cut2 I C R, p ∈ R := fun _ h => (List.mem_filter.mp h).1
theorem cut2_off {I C : Addr} {R : List (Addr × Obj)} : ∀ p ∈ cut2 I C R, p.1 ≠ I ∧ p.1 ≠ C := fun _ h => of_decide_eq_true (List.mem_filter.mp h).2
structure LpM where
  R : List (Addr × Obj)
  ts : List TabD
  n : Nat
  r : Str → Option Value
noncomputable abbrev frM {h₀ h : Heap} {L : Addr} {m : Str → Option Value} (_ : Fr h₀ L h m) : Str → Option Value := m
local macro_rules | `(tactic| walk_at "call ref") => `(tactic| (k_here; (with_reducible show wpAny _ _ (call (Value.ref 626) [Value.ref _]) _ _ _); k_dflt (refine' coverof_spec ?C ?F ?N ?m ?i ?l ?_; (case F | N => k_asm); (case m => k_mem); (case i => assumption); (case C => walk_at "CX"); (case l => omega)); intro cv' gs' R' h' tk' F' N' hs' hc' hg'; (try k_sweep)))
local macro_rules | `(tactic| walk_at "call type:dict") => `(tactic| (k_here; (with_reducible show wpAny _ _ (call (Value.type "dict") [Value.ref _]) _ _ _); k_dflt (refine kt_dict_K (knd := PySem.intKind _ _) (enc := PyData.int) (by k_asm) (by k_asm) (Top.nolimit (by k_asm)) (by k_tabat) (by assumption) ?_); intro d' h' o' kvs' F' N' l1 lo' hd' hf'; (try k_lt l1)))
local macro_rules | `(tactic| walk_at "call ref") => `(tactic| (k_here; (with_reducible show wpAny _ _ (call (Value.ref 470) _) _ _ _); k_dflt (refine' mkReverse ?C ?F ?N ?_; (case F | N => k_asm); (case C => walk_at "CX")); intro a' d' k0' k1' k2' h' tk' F' N' l1 l2; (try k_lt l1); (try k_sweep)))
theorem two2 {R1 : List (Addr × Obj)} {v vb va : Value} {sb sa : Option (List Int)} {j : Nat} (hj : j < 2) (hv : [vb, va][j]? = some v) (a : RawSide R1 vb sb) (b : RawSide R1 va sa) : ∃ sd, RawSide R1 v sd ∧ sd = if j = 0 then sb else sa := by
  cases j with
  | zero => exact ⟨_, (Option.some.inj hv) ▸ a, rfl⟩
  | succ k => cases k with
    | zero => exact ⟨_, (Option.some.inj hv) ▸ b, rfl⟩
    | succ k => exact absurd hj (Nat.not_lt_of_le (Nat.le_add_left 2 k))
theorem lawB {w : World} {A₀ A : Around} {E : Value → Shared → Prop} {s : Shared} {base h₀ : Heap} {outer : List Env} {env : Env} {L : Addr} {mg mb : Str → Option Value} {mean : ExcName → Option Value} {loose : List Str} {R : List (Addr × Obj)} {Q : Flow → Shared → Prop}
  {fa : Addr} {cd : Value} {tbl : Addr} {nb : Nat} {tabs : List RawT} {pass : Bool} {mask : Int} {tm : Tok} {r : Str → Option Value} (he : env = lawEnv L fa cd) (hE : PassesOwn (model pw w) A env E) (C : Cx w A₀ A base h₀ outer env L mg mb mean loose 60)
  (F : Fr h₀ L s.heap (fun y => if y = Str.ofString "tables" then some (.ref tbl) else if y = Str.ofString "mask" then some (.int mask tm) else if y = Str.ofString "is_passing" then some (.bool pass) else r y)) (N : News h₀ L s.heap R)
  (htb : (tbl, listOf (tabs.map fun x => Value.ref x.tt).toArray nb) ∈ R) (hT : ∀ x ∈ tabs, RawTIn w R x) (hl : tabs.length ≤ 2)
  (h : ∀ (tl : Addr) (ts : List TabD) (R' : List (Addr × Obj)) (r' : Str → Option Value) (h' : Heap) (tk : Nat),
    Fr h₀ L h' (fun y => if y = Str.ofString "made" then some (.ref tl) else if y = Str.ofString "tables" then some (.ref tbl) else if y = Str.ofString "mask" then some (.int mask tm) else if y = Str.ofString "is_passing" then some (.bool pass) else r' y) →
    News h₀ L h' R' → (∀ p ∈ R, p ∈ R') → TabsIn w tl ts R' → (∀ e l g, ts.findSome? (fireL pass e l g) = tabs.findSome? (fireR pass e l g)) → wpAny (model pw w) A (execs (lawT 7) env) Q E { s with heap := h', toks := tk }) :
  wpAny (model pw w) A (execs (lawT 5) env) Q E s := by
  obtain ⟨B, X, T, hA, hf, hke, hh, hdep, hun⟩ := C
  rw [lawT_5]
  unfold lawEnv at he
  conv at he in lawScope => whnf
  dsimp (config := { zeta := true }) only at he
  conv in lawS 5 => whnf
  conv in lawS 6 => whnf
  subst he
  walk_at "STEPS"
  walk_at "FORT"
  walk_at "STEPS"
  rename Fr _ _ _ _ => kF'
  rename News _ _ _ _ => kN'
  rename ∀ p ∈ R, p.1 < _ => hlt
  rename_i ml _ _
  refine forListT (fun (c : LpM) y => if y = Str.ofString "made" then some (.ref ml) else if y = Str.ofString "tables" then some (.ref tbl) else if y = Str.ofString "mask" then some (.int mask tm) else if y = Str.ofString "is_passing" then some (.bool pass) else c.r y)
    (fun c => (ml, listOf (c.ts.map fun t => Value.ref t.a).toArray c.n) :: c.R)
    (fun i c => (∀ p ∈ R, p ∈ c.R) ∧ (∀ p ∈ c.R, p.1 ≠ ml) ∧ (∀ t ∈ c.ts, TabIn w t c.R) ∧ c.ts.length = i ∧ ∀ e l g, c.ts.findSome? (fireL pass e l g) = (tabs.take i).findSome? (fireR pass e l g))
    ⟨R, [], 0, r⟩ hh (List.mem_cons_of_mem _ htb) kF' kN' (fun _ => rfl) (fun _ hp => hp) ⟨fun _ hp => hp, fun p hp => Nat.ne_of_lt (hlt p hp), (by intro t ht; cases ht), rfl, fun e l g => by simp⟩ ?_ ?_
  · rintro i v ⟨R1, ts, n1, r1⟩ ⟨hp1, gs1, dr1, tk1, os1⟩ Ia oI hne hcI hv hJ0 off F1 N1
    refine hideG ?_
    intro G9 kG9
    obtain ⟨p1, p2, p3, p4, p5⟩ := hJ0
    dsimp only at F1 p1 p2 p3 p4 p5 off N1
    obtain ⟨x, hx, rfl⟩ : ∃ x, tabs[i]? = some x ∧ v = .ref x.tt := by
      rw [List.getElem?_map] at hv
      cases hx : tabs[i]? with
      | none => rw [hx] at hv; cases hv
      | some x => rw [hx] at hv; exact ⟨x, rfl, (Option.some.inj hv).symm⟩
    obtain ⟨c1, a1, a2, a3, a4, a5, a6, a7⟩ := (hT x (List.mem_of_getElem? hx)).mono p1
    refine kG9 ?_
    clear kG9
    try dsimp only
    clear kF' kN'
    have hDz : x.D.length ≤ sizeLine := by rw [sizeLine_eq]; omega
    have o1 := off _ List.mem_cons_self
    dsimp only at o1
    replace o1 : @Ne Nat _ _ := o1
    have o2 : ∀ p ∈ R1, p.1 ≠ Ia := fun p hp => off p (List.mem_cons_of_mem _ hp)
    have htm : @Ne Nat tbl ml := p2 _ (p1 _ htb)
    have hil : i < tabs.length := (List.getElem?_eq_some_iff.mp hx).1
    have hi1 : ts.length ≤ 1 := by omega
    have hTup : IsTup hp1 x.tt #[Value.ref x.md, x.vb, x.va] := News.isTup N1 (List.mem_cons_of_mem _ (List.mem_cons_of_mem _ (List.mem_cons_of_mem _ c1)))
    try k_fold
    k_dflt (refine' unpackN_ F1 N1 hTup hh (by rfl) (by rfl) ?_; k_whole)
    intro h2 F2 N2
    walk_at "STEPS"
    k_dflt (refine Assign_ListComp_TT (F₀ := by k_asm) (by rfl) (by rfl) (by rfl) (by decide) (by rfl) (by decide) (by rfl) (by rfl) (by rfl) ?_)
    walk_at "STEPS"
    rename Fr _ _ _ _ => kF'
    rename News _ _ _ _ => kN'
    rename _ ∧ _ ∧ _ ∧ AllLt _ R1 => l1
    refine ⟨_, [x.vb, x.va], 0, ledOf kN', rfl, hh, kF', kN', List.mem_cons_self, (by rw [sizeLine_eq]; simp), ?_⟩
    intro s9 hs9
    obtain ⟨h9, rfl⟩ := hs9
    refine compInd (fun i ys nw => (∀ p ∈ ledOf kN', p ∈ nw) ∧ ∀ (j : Nat) y, ys[j]? = some y → ∃ tup n vs sd', y = Value.ref tup ∧ (tup, tupOf (List.toArray vs) n) ∈ fr9 (ledOf kN') nw ∧ SideIn w vs (fr9 (ledOf kN') nw) sd' ∧ SdSame (if j = 0 then x.sb else x.sa) sd') ⟨fun _ hp => hp, fun j y hy => by simp at hy⟩ ?_ ?_
    · rintro j ys nw v Ib oIb Ca oC Da m₂ h3 tk3 E' hj hyl hJ0 hv hC hx2 F3 N3 off3 ne
      refine hideG ?_
      intro G9 kG9
      obtain ⟨e1, e2⟩ := hJ0
      dsimp only [List.length_cons, List.length_nil] at hj
      obtain ⟨sd, hsd, hsame⟩ : ∃ sd, RawSide R1 v sd ∧ sd = if j = 0 then x.sb else x.sa := two2 hj hv a6 a7
      refine kG9 ?_
      clear kG9
      have grow : ∀ (nw9 : List (Addr × Obj)) (y9 : Value), (∀ p ∈ fr9 (ledOf kN') nw, p ∈ fr9 (ledOf kN') nw9) → (∃ tup n vs sd', y9 = Value.ref tup ∧ (tup, tupOf (List.toArray vs) n) ∈ fr9 (ledOf kN') nw9 ∧ SideIn w vs (fr9 (ledOf kN') nw9) sd' ∧ SdSame (if j = 0 then x.sb else x.sa) sd') →
          ∀ (k : Nat) y, (ys ++ [y9])[k]? = some y → ∃ tup n vs sd', y = Value.ref tup ∧ (tup, tupOf (List.toArray vs) n) ∈ fr9 (ledOf kN') nw9 ∧ SideIn w vs (fr9 (ledOf kN') nw9) sd' ∧ SdSame (if k = 0 then x.sb else x.sa) sd' := by
        intro nw9 y9 hmono hnew k y hy
        rcases Nat.lt_or_ge k ys.length with hk | hk
        · rw [List.getElem?_append_left hk] at hy
          obtain ⟨tup, n, vs, sd', q1, q2, q3, q4⟩ := e2 k y hy
          exact ⟨tup, n, vs, sd', q1, hmono _ q2, q3.mono hmono, q4⟩
        · rw [List.getElem?_append_right hk] at hy
          have hk0 : k - ys.length = 0 := by
            have := (List.getElem?_eq_some_iff.mp hy).1
            simp at this; omega
          rw [hk0] at hy
          cases Option.some.inj hy
          rw [show k = j by omega]
          exact hnew
      cases sd with
      | none =>
        rw [show v = .none from hsd] at hx2
        try k_fold
        walk_at "STEPS"
        try k_unfold
        rename Fr _ _ _ _ => Fz
        rename News _ _ _ _ => Nz
        rename _ ∧ _ ∧ _ ∧ AllLt _ nw => lz
        refine cEnd ((_, tupOf (List.toArray []) 0) :: nw) Fz Nz (fun p hp => perm4r hp) (fun p hp => ?_) (List.mem_cons_of_mem _ (e1 _ List.mem_cons_self)) ⟨fun p hp => List.mem_cons_of_mem _ (e1 p hp), grow _ _ (fr9_mono fun p hp => List.mem_cons_of_mem _ hp) ⟨_, 0, [], none, rfl, fr9_mem List.mem_cons_self (fun q hq => allLtNe lz.2.2.2 q (e1 q hq)), rfl, ?_⟩⟩
        · rcases List.mem_cons.mp hp with rfl | hp; exact ⟨Ne.symm (Nat.ne_of_lt lz.1), Ne.symm (Nat.ne_of_lt lz.2.1), Ne.symm (Nat.ne_of_lt lz.2.2.1)⟩
          exact off3 p hp
        · rw [← hsame]; trivial
      | some gs =>
        refine hideG ?_
        intro G9 kG9
        obtain ⟨D, n, zs, rfl, hm, hi, hl3, hpos, hge⟩ := hsd
        refine kG9 ?_
        clear kG9
        have hmm := e1 _ (List.mem_cons_of_mem _ (List.mem_cons_of_mem _ (List.mem_cons_of_mem _ (List.mem_cons_of_mem _ hm))))
        try k_fold
        walk_at "STEPS"
        try k_unfold
        rename Fr _ _ _ _ => Fz
        rename News _ _ _ _ => Nz
        rename CovIn _ _ _ _ => hcov
        rename ∀ g, g ∈ _ ↔ g ∈ gs => hgs
        rename ∀ p ∈ (Ib, oIb) :: _, p ∈ _ => hsub
        rename_i cv gs2 R9 _ _ Dz _ hltz
        refine cEnd ((Dz, tupOf (List.toArray [Value.ref cv]) 0) :: cut3 Ib Ca Da R9) Fz Nz (fun p hp => ?_) (fun p hp => ?_) (List.mem_cons_of_mem _ (cut3_mem (hsub _ (List.mem_cons_of_mem _ (List.mem_cons_of_mem _ (List.mem_cons_of_mem _ (e1 _ List.mem_cons_self))))) (off3 _ (e1 _ List.mem_cons_self))))
          ⟨fun p hp => List.mem_cons_of_mem _ (cut3_mem (hsub _ (List.mem_cons_of_mem _ (List.mem_cons_of_mem _ (List.mem_cons_of_mem _ (e1 p hp))))) (off3 _ (e1 p hp))), grow _ _ (fr9_mono fun p hp => List.mem_cons_of_mem _ (cut3_mem (hsub _ (List.mem_cons_of_mem _ (List.mem_cons_of_mem _ (List.mem_cons_of_mem _ hp)))) (off3 _ hp))) ⟨Dz, 0, [Value.ref cv], some gs2, rfl, fr9_mem List.mem_cons_self (fun q hq => Nat.ne_of_lt (hltz q (hsub _ (List.mem_cons_of_mem _ (List.mem_cons_of_mem _ (List.mem_cons_of_mem _ (e1 q hq))))))), ⟨cv, rfl, hcov.mono fun p hp => fr9_mem (List.mem_cons_of_mem _ (cut3_fr p hp)) (fun q hq => fr9_off hp q (List.mem_cons_of_mem _ (List.mem_cons_of_mem _ (List.mem_cons_of_mem _ (e1 q hq))))), fun h0 => absurd (hge 0 ((hgs 0).mp h0)) (by decide)⟩, ?_⟩⟩
        · rcases List.mem_cons.mp hp with rfl | hp; exact List.mem_cons_of_mem _ (hsub _ List.mem_cons_self)
          rcases List.mem_cons.mp hp with rfl | hp; exact List.mem_cons_of_mem _ (hsub _ (List.mem_cons_of_mem _ List.mem_cons_self))
          rcases List.mem_cons.mp hp with rfl | hp; exact List.mem_cons_of_mem _ (hsub _ (List.mem_cons_of_mem _ (List.mem_cons_of_mem _ List.mem_cons_self)))
          rcases List.mem_cons.mp hp with rfl | hp; exact List.mem_cons_self
          exact List.mem_cons_of_mem _ (cut3_sub p hp)
        · rcases List.mem_cons.mp hp with rfl | hp
          · exact ⟨Ne.symm (Nat.ne_of_lt (hltz _ (hsub _ List.mem_cons_self))), Ne.symm (Nat.ne_of_lt (hltz _ (hsub _ (List.mem_cons_of_mem _ List.mem_cons_self)))), Ne.symm (Nat.ne_of_lt (hltz _ (hsub _ (List.mem_cons_of_mem _ (List.mem_cons_of_mem _ List.mem_cons_self)))))⟩
          · exact cut3_off p hp
        · rw [← hsame]; exact hgs
    · rintro ys nw hyl ⟨e1, e2⟩
      unfold LCg.FinA
      intro D1 h3 tk3 F3 N3 off3
      obtain ⟨vb, va, rfl⟩ : ∃ vb va, ys = [vb, va] := len2 hyl
      obtain ⟨tb, nb9, vbs, sb, rfl, b1, b2, b3⟩ := e2 0 _ rfl
      obtain ⟨ta, na9, vas, sa, rfl, b4, b5, b6⟩ := e2 1 _ rfl
      rw [if_pos rfl] at b3
      rw [if_neg (by decide)] at b6
      have oD := off1Ne off3
      have oD1 : @Ne Nat ml D1 := oD _ (e1 _ (List.mem_cons_of_mem _ (List.mem_cons_of_mem _ (List.mem_cons_of_mem _ List.mem_cons_self))))
      have hb : ∀ p ∈ fr9 (ledOf kN') nw, p ∈ cut2 ml Ia nw := fun p hp => cut2_mem (fr9_sub p hp) ⟨Ne.symm (fr9_off hp _ (List.mem_cons_of_mem _ (List.mem_cons_of_mem _ (List.mem_cons_of_mem _ List.mem_cons_self)))), Ne.symm (fr9_off hp _ (List.mem_cons_of_mem _ List.mem_cons_self))⟩
      have hR1 : ∀ p ∈ R1, p ∈ cut2 ml Ia nw := fun p hp => cut2_mem (e1 _ (List.mem_cons_of_mem _ (List.mem_cons_of_mem _ (List.mem_cons_of_mem _ (List.mem_cons_of_mem _ hp))))) ⟨p2 p hp, o2 p hp⟩
      have N4 := News.subl (l' := (D1, LCg.lst [Value.ref tb, Value.ref ta]) :: (ml, listOf (ts.map fun t => Value.ref t.a).toArray n1) :: (Ia, oI) :: (tbl, listOf (tabs.map fun x => Value.ref x.tt).toArray nb) :: cut2 ml Ia nw) N3 fun p hp => by
        rcases List.mem_cons.mp hp with rfl | hp; exact List.mem_cons_self
        rcases List.mem_cons.mp hp with rfl | hp; exact List.mem_cons_of_mem _ (e1 _ (List.mem_cons_of_mem _ (List.mem_cons_of_mem _ (List.mem_cons_of_mem _ List.mem_cons_self))))
        rcases List.mem_cons.mp hp with rfl | hp; exact List.mem_cons_of_mem _ (e1 _ (List.mem_cons_of_mem _ List.mem_cons_self))
        rcases List.mem_cons.mp hp with rfl | hp; exact List.mem_cons_of_mem _ (e1 _ (List.mem_cons_of_mem _ (List.mem_cons_of_mem _ List.mem_cons_self)))
        exact List.mem_cons_of_mem _ (cut2_sub p hp)
      have hc2 : ∀ p ∈ cut2 ml Ia nw, p.1 ≠ ml := fun p hp => (cut2_off p hp).1
      have hmd := hR1 _ a1
      have hmb := hb _ b1
      have hma := hb _ b4
      obtain ⟨kx, a3, a8⟩ := a3
      clear N3
      dsimp only
      try k_fold
      walk_at "STEPS"
      rename News _ _ _ _ => Nz
      rename Fr _ _ _ _ => Fz
      rename (_ == sysModules) = false => lo9
      rename Obj.IsDictOf _ _ _ => hd9
      rename PyProof.V.FlatPairs _ _ _ => hf9
      rename D1 < _ ∧ ml < _ ∧ Ia < _ ∧ tbl < _ ∧ AllLt _ _ => l8
      rename _ < _ ∧ D1 < _ ∧ ml < _ ∧ Ia < _ ∧ tbl < _ ∧ AllLt _ _ => l9
      rename @LT.lt Nat _ _ _ => l2
      obtain ⟨xi, di, mdn, on, kvn, t0, t1, t2, Ny, lo, hd, hf, ⟨u1, u2, u3⟩, ⟨u4, u5⟩, u6⟩ : ∃ (xi di mdn : Addr) (on : Obj) (kvn : List (Int × Value)) (t0 t1 t2 : Tok), News h₀ L _ ((xi, instObj 470 di) :: (di, dictOf [ent w.params "mapping" t0 (.ref mdn), ent w.params "back" t1 (.ref tb), ent w.params "ahead" t2 (.ref ta)] 3) :: (mdn, on) :: (D1, LCg.lst [Value.ref tb, Value.ref ta]) :: (ml, listOf ((ts.map fun t => Value.ref t.a).toArray.push (.ref xi)) (n1 + 1)) :: (Ia, oI) :: (tbl, listOf (tabs.map fun x => Value.ref x.tt).toArray nb) :: cut2 ml Ia nw) ∧
          (mdn == sysModules) = false ∧ on.IsDictOf (intKind pw w) kvn ∧ PyProof.V.FlatPairs PyData.int kvn x.D ∧ (D1 < mdn ∧ ml < mdn ∧ Ia < mdn) ∧ (ml < di ∧ Ia < di) ∧ di < xi := ⟨_, _, _, _, _, _, _, _, Nz, lo9, hd9, hf9, ⟨l8.1, l8.2.1, l8.2.2.1⟩, ⟨l9.2.2.1, l9.2.2.2.1⟩, l2⟩
      have v1 : mdn ≠ ml := Nat.ne_of_gt u2
      have v2 : mdn ≠ Ia := Nat.ne_of_gt u3
      have v3 : di ≠ ml := Nat.ne_of_gt u4
      have v4 : di ≠ Ia := Nat.ne_of_gt u5
      have v5 : xi ≠ ml := Nat.ne_of_gt (Nat.lt_trans u4 u6)
      have v6 : xi ≠ Ia := Nat.ne_of_gt (Nat.lt_trans u5 u6)
      let tn : TabD := ⟨xi, di, mdn, on, x.D, x.f, tb, ta, vbs, vas, sb, sa, fun n => if n = 0 then t0 else if n = 1 then t1 else t2⟩
      have hml : listOf ((ts.map fun t => Value.ref t.a).toArray.push (.ref xi)) (n1 + 1) = listOf ((ts ++ [tn]).map fun t => Value.ref t.a).toArray (n1 + 1) := by
        rw [List.map_append, List.push_toArray]; rfl
      rw [hml] at Ny
      dsimp only [FPostT]
      refine fEndT (⟨(xi, instObj 470 di) :: (di, dictOf [ent w.params "mapping" t0 (.ref mdn), ent w.params "back" t1 (.ref tb), ent w.params "ahead" t2 (.ref ta)] 3) :: (mdn, on) :: cut2 ml Ia nw, ts ++ [tn], n1 + 1, frM Fz⟩ : LpM) Fz Ny ?hm ?ho ?hn ?hw ?hp
      case hm => walk_at "MM"
      case ho =>
        intro p hp
        rcases List.mem_cons.mp hp with rfl | hp; exact List.mem_cons_of_mem _ (List.mem_cons_of_mem _ (List.mem_cons_of_mem _ (List.mem_cons_of_mem _ (List.mem_cons_of_mem _ List.mem_cons_self))))
        rw [List.mem_singleton.mp hp]; exact List.mem_cons_of_mem _ (List.mem_cons_of_mem _ (List.mem_cons_of_mem _ (List.mem_cons_of_mem _ (List.mem_cons_of_mem _ (List.mem_cons_of_mem _ List.mem_cons_self)))))
      case hn =>
        intro p hp
        rcases List.mem_cons.mp hp with rfl | hp; exact List.mem_cons_of_mem _ (List.mem_cons_of_mem _ (List.mem_cons_of_mem _ (List.mem_cons_of_mem _ List.mem_cons_self)))
        rcases List.mem_cons.mp hp with rfl | hp; exact List.mem_cons_self
        rcases List.mem_cons.mp hp with rfl | hp; exact List.mem_cons_of_mem _ List.mem_cons_self
        rcases List.mem_cons.mp hp with rfl | hp; exact List.mem_cons_of_mem _ (List.mem_cons_of_mem _ List.mem_cons_self)
        exact List.mem_cons_of_mem _ (List.mem_cons_of_mem _ (List.mem_cons_of_mem _ (List.mem_cons_of_mem _ (List.mem_cons_of_mem _ (List.mem_cons_of_mem _ (List.mem_cons_of_mem _ hp))))))
      case hw =>
        intro p hp
        rw [List.mem_singleton]
        rcases List.mem_cons.mp hp with rfl | hp; exact o1
        rcases List.mem_cons.mp hp with rfl | hp; exact v6
        rcases List.mem_cons.mp hp with rfl | hp; exact v4
        rcases List.mem_cons.mp hp with rfl | hp; exact v2
        exact (cut2_off p hp).2
      case hp =>
        have g3 : ∀ p ∈ cut2 ml Ia nw, p ∈ (xi, instObj 470 di) :: (di, dictOf [ent w.params "mapping" t0 (.ref mdn), ent w.params "back" t1 (.ref tb), ent w.params "ahead" t2 (.ref ta)] 3) :: (mdn, on) :: cut2 ml Ia nw := fun p hp => List.mem_cons_of_mem _ (List.mem_cons_of_mem _ (List.mem_cons_of_mem _ hp))
        refine ⟨fun p hp => g3 p (hR1 p (p1 p hp)), ?_, ?_, by simp [p4], fun e l g => ?_⟩
        · intro p hp
          rcases List.mem_cons.mp hp with rfl | hp; exact v5
          rcases List.mem_cons.mp hp with rfl | hp; exact v3
          rcases List.mem_cons.mp hp with rfl | hp; exact v1
          exact hc2 p hp
        · intro t ht
          rcases List.mem_append.mp ht with ht | ht
          · exact (p3 t ht).mono fun p hp => g3 p (hR1 p hp)
          · rw [List.mem_singleton.mp ht]
            exact ⟨List.mem_cons_self, List.mem_cons_of_mem _ List.mem_cons_self, List.mem_cons_of_mem _ (List.mem_cons_of_mem _ List.mem_cons_self), lo, ⟨kvn, hd, hf⟩, a5, ⟨_, g3 _ hmb⟩, ⟨_, g3 _ hma⟩, b2.mono fun p hp => g3 p (hb p hp), b5.mono fun p hp => g3 p (hb p hp)⟩
        · show (ts ++ [tn]).findSome? _ = _
          rw [List.findSome?_append, List.take_add_one, hx, List.findSome?_append, p5]
          congr 1
          show [tn].findSome? _ = [x].findSome? _
          rw [List.findSome?_singleton, List.findSome?_singleton]
          exact fire_same rfl b3 b6 pass e l g
  · rintro ⟨R1, ts, n1, r1⟩ h1 tk1 hJ0 F1 N1
    refine hideG ?_
    intro G9 kG9
    obtain ⟨p1, p2, p3, p4, p5⟩ := hJ0
    refine kG9 ?_
    clear kG9
    dsimp only at p1 p2 p3 p4 p5
    rw [List.length_map] at p4 p5
    exact h ml ts _ r1 h1 tk1 F1 N1 (fun p hp => List.mem_cons_of_mem _ (p1 p hp)) ⟨⟨n1, List.mem_cons_self⟩, fun t ht => (p3 t ht).mono fun p hp => List.mem_cons_of_mem _ hp, by omega⟩ (fun e l g => by rw [p5, List.take_length])
end
section
example : True := by w_top off; trivial
/-! law: the infos, their masks -/
noncomputable abbrev mmC (tl tbl : Addr) (mask : Int) (tm : Tok) (pass : Bool) (r : Str → Option Value) : Str → Option Value := fun y => if y = Str.ofString "made" then some (.ref tl) else if y = Str.ofString "tables" then some (.ref tbl) else if y = Str.ofString "mask" then some (.int mask tm) else if y = Str.ofString "is_passing" then some (.bool pass) else r y
noncomputable def clusterAt (k : Nat) : Int := 30 + Int.fdiv (k : Int) 2
theorem RawRow.at_ {R : List (Addr × Obj)} {rl : Addr} {rows : List (Int × Int)} (V : RawRow R rl rows) : ∃ n ps, (rl, listOf (List.toArray ps) n) ∈ R ∧ ps.length = rows.length ∧ ∀ (i : Nat) g o, rows[i]? = some (g, o) → ∃ tt n' tg to_, ps[i]? = some (.ref tt) ∧ (tt, tupOf [Value.int g tg, Value.int o to_].toArray n') ∈ R := by
  obtain ⟨⟨n, ps, a, b, c⟩, _, _⟩ := V
  refine ⟨n, ps, a, b, fun i g o hi => ?_⟩
  have hl : i < ps.length := by rw [b]; exact (List.getElem?_eq_some_iff.mp hi).1
  obtain ⟨tt, n', g', o', tg, to_, e1, e2, e3⟩ := c i _ (List.getElem?_eq_getElem hl)
  rw [hi] at e3
  cases e3
  exact ⟨tt, n', tg, to_, by rw [List.getElem?_eq_getElem hl, e1], e2⟩
theorem RawRow.mono {R R' : List (Addr × Obj)} {rl : Addr} {rows : List (Int × Int)} (V : RawRow R rl rows) (hs : ∀ p ∈ R, p ∈ R') : RawRow R' rl rows := by
  obtain ⟨⟨n, ps, a, b, c⟩, d, e⟩ := V
  exact ⟨⟨n, ps, hs _ a, b, fun i v hv => by obtain ⟨tt, n', g, o, tg, to_, e1, e2, e3⟩ := c i v hv; exact ⟨tt, n', g, o, tg, to_, e1, hs _ e2, e3⟩⟩, d, e⟩
structure InfsIn (w : World) (R R' : List (Addr × Obj)) (rows : List (Int × Int)) (I : List InfoD) : Prop where
  i1 : ∀ p ∈ R, p ∈ R'
  i2 : ∀ x ∈ I, (x.a, instObj 142 x.d) ∈ R' ∧ (x.d, dictOf (infoEs w.params x) 16) ∈ R'
  i3 : (I.map (·.d)).Nodup
  i4 : I.map (·.glyph) = (rows.take I.length).map (·.1)
  i5 : I.map (·.cluster) = (List.range I.length).map clusterAt
  i6 : ∀ p ∈ R, ∀ x ∈ I, p.1 ≠ x.d
theorem newsInfo {P : Params} {h₀ h : Heap} {L xi di : Addr} {g c : Int} {gt mt k0 k1 k2 k3 k4 k5 k6 k7 k8 k9 k10 k11 k12 k13 k14 k15 k16 k17 k18 k19 k20 k21 k22 k23 k24 k25 k26 k27 k28 : Tok} {l : List (Addr × Obj)} (N : News h₀ L h ((xi, instObj 142 di) :: (di, dictOf [ent P "code" k0 (.int 0 k1), ent P "glyph" k2 (.int g gt), ent P "cluster" k3 (.int c k4), ent P "mask" k5 (.int 0 mt), ent P "is_unsafe" k6 (.bool false), ent P "lig_id" k7 (.int 0 k8), ent P "lig_part" k9 (.int 0 k10), ent P "lig_count" k11 (.int 0 k12), ent P "split_id" k13 (.int 0 k14), ent P "kind" k15 (.str (Str.ofString "") k16), ent P "x_advance" k17 (.int 0 k18), ent P "y_advance" k19 (.int 0 k20), ent P "x_offset" k21 (.int 0 k22), ent P "y_offset" k23 (.int 0 k24), ent P "parent" k25 (.int 0 k26), ent P "bond" k27 (.str (Str.ofString "") k28)] 16) :: l)) :
  ∃ gt mt k, News h₀ L h ((xi, instObj 142 di) :: (di, dictOf (infoEs P ⟨xi, di, g, gt, c, 0, mt, false, k⟩) 16) :: l) := ⟨gt, mt, fun n => match n with | 0 => k0 | 1 => k1 | 2 => k2 | 3 => k3 | 4 => k4 | 5 => k5 | 6 => k6 | 7 => k7 | 8 => k8 | 9 => k9 | 10 => k10 | 11 => k11 | 12 => k12 | 13 => k13 | 14 => k14 | 15 => k15 | 16 => k16 | 17 => k17 | 18 => k18 | 19 => k19 | 20 => k20 | 21 => k21 | 22 => k22 | 23 => k23 | 24 => k24 | 25 => k25 | 26 => k26 | 27 => k27 | _ => k28, N⟩
theorem mkInfo {w : World} {A₀ A : Around} {E : Value → Shared → Prop} {s : Shared} {base h₀ : Heap} {outer : List Env} {env : Env} {L : Addr} {m mg mb : Str → Option Value} {mean : ExcName → Option Value} {loose : List Str} {news : List (Addr × Obj)} {Q : Value → Shared → Prop}
  {g c : Int} {t0 t1 t2 : Tok} (C : Cx w A₀ A base h₀ outer env L mg mb mean loose 8) (F : Fr h₀ L s.heap m) (N : News h₀ L s.heap news)
  (h : ∀ (a d : Nat) (gt mt : Tok) (k : Nat → Tok) h' tk, Fr h₀ L h' m → News h₀ L h' ((a, instObj 142 d) :: (d, dictOf (infoEs w.params ⟨a, d, g, gt, c, 0, mt, false, k⟩) 16) :: news) → (∀ p ∈ news, p.1 < d) → d < a → Q (.ref a) { s with heap := h', toks := tk }) :
  wpAny (model pw w) A (call (.ref 142) [.int 0 t0, .int g t1, .int c t2]) Q E s := by
  obtain ⟨B, X, T, hA, hf, hke, hh, hdep, hun⟩ := C
  walk_at "STEPS"
  rename News h₀ _ _ _ => Nz
  obtain ⟨gt, mt, k, Ny⟩ := newsInfo Nz
  exact h _ _ gt mt k _ _ (by assumption) Ny (by assumption) (by assumption)
local macro_rules | `(tactic| walk_at "call ref") => `(tactic| (k_here; (with_reducible show wpAny _ _ (call (Value.ref 142) _) _ _ _); k_dflt (refine' mkInfo ?C ?F ?N ?_; (case F | N => k_asm); (case C => walk_at "CX")); intro a' d' g' m' k' h' tk' F' N' l1 l2; (try k_lt l1); (try k_sweep)))
theorem lawC_turn {w : World} {h₀ h' : Heap} {L xi di Ib Ca Da : Addr} {oIb oC : Obj} {m : Str → Option Value} {R nw : List (Addr × Obj)} {rows : List (Int × Int)} {I : List InfoD} {i tk : Nat} {s₁ : Shared} {g o : Int} {gt mt : Tok} {k : Nat → Tok}
  (F : Fr h₀ L h' m) (Ny : News h₀ L h' ((xi, instObj 142 di) :: (di, dictOf (infoEs w.params ⟨xi, di, g, gt, 30 + Int.fdiv (i : Int) 2, 0, mt, false, k⟩) 16) :: (Ib, oIb) :: (Ca, oC) :: (Da, LCg.lst (I.map fun x => Value.ref x.a)) :: nw))
  (l1 : Ib < di ∧ Ca < di ∧ Da < di ∧ AllLt di nw) (l2 : di < xi) (II : InfsIn w R nw rows I) (hIl : I.length = i) (hro : rows[i]? = some (g, o)) (off3 : ∀ p ∈ nw, p.1 ≠ Ib ∧ p.1 ≠ Ca ∧ p.1 ≠ Da) :
  LCg.CompEnd h₀ L m s₁ Ib oIb Ca oC Da (LCg.lst (I.map fun x => Value.ref x.a)) (fun _ => True) (fun y nw' => ∃ I1, I1.length = i + 1 ∧ I.map (fun x => Value.ref x.a) ++ [y] = I1.map (fun x => Value.ref x.a) ∧ InfsIn w R nw' rows I1) (Value.ref xi) { s₁ with heap := h', toks := tk } := by
  obtain ⟨i1, i2, i3, i4, i5, i6⟩ := II
  have q1 : ∀ p ∈ nw, p.1 < di := allLtLt l1.2.2.2
  have v1 : di ≠ Ib := Nat.ne_of_gt l1.1
  have v2 : di ≠ Ca := Nat.ne_of_gt l1.2.1
  have v3 : di ≠ Da := Nat.ne_of_gt l1.2.2.1
  have v4 : xi ≠ Ib := Nat.ne_of_gt (Nat.lt_trans l1.1 l2)
  have v5 : xi ≠ Ca := Nat.ne_of_gt (Nat.lt_trans l1.2.1 l2)
  have v6 : xi ≠ Da := Nat.ne_of_gt (Nat.lt_trans l1.2.2.1 l2)
  have up : ∀ p ∈ nw, p ∈ (xi, instObj 142 di) :: (di, dictOf (infoEs w.params ⟨xi, di, g, gt, 30 + Int.fdiv (i : Int) 2, 0, mt, false, k⟩) 16) :: nw := fun p hp => List.mem_cons_of_mem _ (List.mem_cons_of_mem _ hp)
  refine cEnd ((xi, instObj 142 di) :: (di, dictOf (infoEs w.params ⟨xi, di, g, gt, 30 + Int.fdiv (i : Int) 2, 0, mt, false, k⟩) 16) :: nw) F Ny (fun p hp => ?_) (fun p hp => ?_) trivial ⟨I ++ [⟨xi, di, g, gt, 30 + Int.fdiv (i : Int) 2, 0, mt, false, k⟩], by simp [hIl], by simp, fun p hp => up p (i1 p hp), fun x hx => ?_, ?_, ?_, ?_, fun p hp x hx => ?_⟩
  · simp only [List.mem_cons] at hp ⊢
    rcases hp with h | h | h | h | h | h <;> simp [h]
  · rcases List.mem_cons.mp hp with rfl | hp; exact ⟨v4, v5, v6⟩
    rcases List.mem_cons.mp hp with rfl | hp; exact ⟨v1, v2, v3⟩
    exact off3 p hp
  · rcases List.mem_append.mp hx with hx | hx
    · exact ⟨up _ (i2 x hx).1, up _ (i2 x hx).2⟩
    · rw [List.mem_singleton.mp hx]; exact ⟨List.mem_cons_self, List.mem_cons_of_mem _ List.mem_cons_self⟩
  · rw [List.map_append, List.nodup_append]
    refine ⟨i3, by simp, fun a ha b hb => ?_⟩
    obtain ⟨x, hx, rfl⟩ := List.mem_map.mp ha
    rw [show b = di by simpa using hb]
    exact Nat.ne_of_lt (q1 _ (i2 x hx).2)
  · rw [List.map_append, i4, List.length_append, List.length_singleton, List.take_add_one, hIl, hro]
    simp
  · rw [List.map_append, i5, List.length_append, List.length_singleton, List.range_succ, List.map_append, hIl]
    rfl
  · rcases List.mem_append.mp hx with hx | hx
    · exact i6 p hp x hx
    · rw [List.mem_singleton.mp hx]; exact Nat.ne_of_lt (q1 p (i1 p hp))
noncomputable def keyJ (e : InfoD) : Addr × Addr × Int × Int := (e.a, e.d, e.glyph, e.cluster)
structure MaskP (w : World) (D1 : Addr) (R : List (Addr × Obj)) (rows : List (Int × Int)) (I : List InfoD) (i : Nat) (I1 : List InfoD) (nw1 : List (Addr × Obj)) : Prop where
  k1 : RowIn w D1 I1 nw1
  k2 : ∀ p ∈ R, p ∈ nw1
  k3 : I1.map keyJ = I.map keyJ
  k4 : ∀ j, j < i → (I1.map (·.mask))[j]? = (rows.map (·.2))[j]?
theorem lawC {w : World} {A₀ A : Around} {E : Value → Shared → Prop} {s : Shared} {base h₀ : Heap} {outer : List Env} {env : Env} {L : Addr} {mg mb : Str → Option Value} {mean : ExcName → Option Value} {loose : List Str} {R : List (Addr × Obj)} {Q : Flow → Shared → Prop}
  {fa : Addr} {cd : Value} {tl tbl rl : Addr} {oR : Obj} {rows : List (Int × Int)} {pass : Bool} {mask : Int} {tm : Tok} {r : Str → Option Value} (he : env = lawEnv L fa cd) (hE : PassesOwn (model pw w) A env E) (C : Cx w A₀ A base h₀ outer env L mg mb mean loose 60)
  (F : Fr h₀ L s.heap (mmC tl tbl mask tm pass r)) (N : News h₀ L s.heap R) (hR : (L + 2, oR) ∈ R) (hR2 : oR.data = .cell (some (.ref rl))) (V : RawRow R rl rows)
  (h : ∀ (il : Addr) (I : List InfoD) (R' : List (Addr × Obj)) (r' : Str → Option Value) (h' : Heap) (tk : Nat),
    Fr h₀ L h' (fun y => if y = Str.ofString "infos" then some (.ref il) else mmC tl tbl mask tm pass r' y) → News h₀ L h' R' → (∀ p ∈ R, p ∈ R') → RowIn w il I R' → (∀ p ∈ R, ∀ x ∈ I, p.1 ≠ x.d) → I.map (·.glyph) = rows.map (·.1) → I.map (·.mask) = rows.map (·.2) → I.map (·.cluster) = (List.range I.length).map clusterAt →
    wpAny (model pw w) A (execs (lawT 9) env) Q E { s with heap := h', toks := tk }) :
  wpAny (model pw w) A (execs (lawT 7) env) Q E s := by
  obtain ⟨B, X, T, hA, hf, hke, hh, hdep, hun⟩ := C
  rw [lawT_7]
  unfold lawEnv at he
  conv at he in lawScope => whnf
  dsimp (config := { zeta := true }) only at he
  conv in lawS 7 => whnf
  conv in lawS 8 => whnf
  subst he
  have hlr := V.b2
  obtain ⟨nr, ps, r1, r2, r3⟩ := V.at_
  walk_at "STEPS"
  k_dflt (refine LCg.Assign_ListComp_U (F₀ := by k_asm) (by rfl) (by rfl) (by rfl) (by decide) (by rfl) (by decide) (by rfl) (by rfl) (by rfl) ?_)
  walk_at "STEPS"
  rename IsRange _ _ _ _ _ _ _ _ => hrg
  rename Fr _ _ _ _ => kF
  rename News _ _ _ _ => kN
  refine LCg.CompSrc.range (n := ps.length) hh kF kN hrg (small_one (by omega) (by omega) (by omega) (by omega)) (by rw [rangeSize_nat, Int.sub_zero, Int.toNat_natCast]) (by rw [sizeLine_eq]; omega) ?_
  intro g9
  refine compInd (fun i ys nw => ∃ I, I.length = i ∧ ys = I.map (fun x => Value.ref x.a) ∧ InfsIn w R nw rows I) ⟨[], rfl, rfl, fun _ hp => hp, (by intro x hx; cases hx), List.nodup_nil, rfl, rfl, (by intro p hp x hx; cases hx)⟩ ?_ ?_
  · rintro i ys nw v Ib oIb Ca oC Da m₂ h3 tk3 E' hi hyl hJ0 hJ1 hC hx F3 N3 off3 ne
    refine hideG ?_
    intro G9 kG9
    obtain ⟨I, hIl, rfl, II⟩ := hJ0
    obtain ⟨tv, rfl⟩ := hJ1
    refine kG9 ?_
    clear kG9
    rw [show (0 : Int) + (i : Int) = (i : Int) by omega] at hx
    obtain ⟨⟨g, o⟩, hro⟩ : ∃ p, rows[i]? = some p := ⟨rows[i]'(by omega), by simp⟩
    obtain ⟨tt, n', tg, to_, e1, e2⟩ := r3 i g o hro
    have e1' : ps[((i : Int)).toNat]? = some (.ref tt) := by simpa using e1
    have e3 := II.i1 _ e2
    have e4 := II.i1 _ r1
    have e5 := II.i1 _ hR
    clear kF kN
    try k_fold
    walk_at "STEPS"
    rename News _ _ _ _ => Nz
    rename Fr _ _ _ _ => Fz
    rename _ ∧ _ ∧ _ ∧ AllLt _ nw => l1
    rename @LT.lt Nat _ _ _ => l2
    exact lawC_turn Fz Nz l1 l2 II hIl hro off3
  · rintro ys nw hyl ⟨I, hIl, rfl, II⟩
    unfold LCg.FinA
    intro D1 h1 tk1 F1 N1 o5
    have RW : RowIn w D1 I ((D1, LCg.lst (I.map fun x => Value.ref x.a)) :: nw) := ⟨⟨_, List.mem_cons_self⟩, fun x hx => ⟨List.mem_cons_of_mem _ (II.i2 x hx).1, List.mem_cons_of_mem _ (II.i2 x hx).2⟩, by omega, II.i3⟩
    have e4 := II.i1 _ r1
    have e5 := II.i1 _ hR
    clear kF kN
    walk_at "STEPS"
    walk_at "FORE"
    walk_at "STEPS"
    rename IsRange _ _ _ _ _ _ _ _ => hrg2
    rename Fr _ _ _ _ => kF
    rename News _ _ _ _ => kN
    refine forRangeX (n := ps.length) (mmOf kF fun rest (c : List InfoD × List (Addr × Obj)) y => rest y) (fun c => c.2) (fun i c => MaskP w D1 R rows I i c.1 c.2) (I, _) hh hrg2 (small_one (by omega) (by omega) (by omega) (by omega)) (by rw [rangeSize_nat, Int.sub_zero, Int.toNat_natCast]) kF kN (by walk_at "MM") (fun _ hp => hp) ⟨RW, fun p hp => List.mem_cons_of_mem _ (II.i1 p hp), rfl, fun j hj => absurd hj (Nat.not_lt_zero _)⟩ ?_ ?_
    · rintro i t' ⟨I1, nw1⟩ h2 tk2 Ia pr qr hin MP off F2 N2
      dsimp only [mmOf] at F2 N2 MP off ⊢
      clear kF kN
      rw [show (0 : Int) + (i : Int) * 1 = (i : Int) by omega] at F2
      obtain ⟨⟨g, o⟩, hro⟩ : ∃ p, rows[i]? = some p := ⟨rows[i]'(by omega), by simp⟩
      obtain ⟨tt, n', tg, to_, b1, b2⟩ := r3 i g o hro
      have b1' : ps[((i : Int)).toNat]? = some (.ref tt) := by simpa using b1
      have b3 := MP.k2 _ b2
      have b4 := MP.k2 _ r1
      have b5 := MP.k2 _ hR
      have hl1 : I1.length = I.length := by have := congrArg List.length MP.k3; simpa using this
      obtain ⟨e, hie⟩ : ∃ e, I1[i]? = some e := ⟨I1[i]'(by omega), by simp⟩
      have R1 := MP.k1.mono (news' := (Ia, ritOf pr qr 1) :: nw1) (fun p hp => List.mem_cons_of_mem _ hp)
      have R1' := R1
      obtain ⟨⟨n1, v1⟩, v2, v3, v4⟩ := R1'
      obtain ⟨w1, w2⟩ := v2 e (List.mem_of_getElem? hie)
      have hx : (I1.map fun x => Value.ref x.a)[((i : Int)).toNat]? = some (.ref e.a) := by simp [hie]
      have RS := fun t9 => R1.set N2 hie (e' := { e with mask := o, mt := t9 }) rfl rfl
      have hIa : Ia ≠ e.d := fun q => off _ (MP.k1.r2 e (List.mem_of_getElem? hie)).2 q.symm
      have hsepI := II.i6
      have hed : ∀ p ∈ R, p.1 ≠ e.d := fun p hp => by
        have : keyJ e ∈ I.map keyJ := MP.k3 ▸ List.mem_map_of_mem (List.mem_of_getElem? hie)
        obtain ⟨x, hx, ex⟩ := List.mem_map.mp this
        have ed : x.d = e.d := congrArg (fun q => q.2.1) ex
        rw [← ed]; exact hsepI p hp x hx
      clear RW II hyl
      try k_fold
      walk_at "STEPS"
      rename Fr _ _ _ _ => Fz
      rename News _ _ _ _ => Nz
      have hIn : (Ia, ritOf pr qr 1) ∈ ledOf Nz := setL_keep List.mem_cons_self hIa
      refine' fEnd (I1.set i { e with mask := o, mt := to_ }, List.filter (fun p => decide (p.1 ≠ Ia)) (ledOf Nz)) Fz Nz ?hm ?ho ?hn ?hw ?hp
      case hp =>
        refine ⟨(RS to_).but Nz hIn rfl, fun p hp => List.mem_filter.mpr ⟨setL_keep (List.mem_cons_of_mem _ (MP.k2 p hp)) (hed p hp), decide_eq_true (off p (MP.k2 p hp))⟩, ?_, fun j hj => ?_⟩
        · dsimp only; rw [map_set_same (z := { e with mask := o, mt := to_ }) keyJ hie rfl]; exact MP.k3
        · dsimp only
          rw [List.map_set]
          by_cases hji : j = i
          · subst hji
            rw [List.getElem?_set_self (by simp; omega), List.getElem?_map, hro]; rfl
          · rw [List.getElem?_set_ne (Ne.symm hji)]; exact MP.k4 j (by omega)
      case hm => intro y hy; exact if_neg hy
      case ho => intro p hp; rw [List.mem_singleton.mp hp]; exact hIn
      case hn => exact fun p hp => (List.mem_filter.mp hp).1
      case hw => intro p hp; simpa using (List.mem_filter.mp hp).2
    · rintro ⟨I1, nw1⟩ h2 tk2 u MP F2 N2
      dsimp only [mmOf] at F2 N2 MP ⊢
      have hl1 : I1.length = I.length := by have := congrArg List.length MP.k3; simpa using this
      have eg : I1.map (·.glyph) = I.map (·.glyph) := by
        have := congrArg (List.map fun q : Addr × Addr × Int × Int => q.2.2.1) MP.k3
        rw [List.map_map, List.map_map] at this
        exact this
      have ec : I1.map (·.cluster) = I.map (·.cluster) := by
        have := congrArg (List.map fun q : Addr × Addr × Int × Int => q.2.2.2) MP.k3
        rw [List.map_map, List.map_map] at this
        exact this
      refine h D1 I1 nw1 (frM F2) _ _ (frCongr F2 (by walk_at "MM"; (try dsimp only [mmC]); (repeat (refine mmN (by assumption) ?_)); try rfl)) N2 MP.k2 MP.k1 (fun p hp x hx => ?_) (by rw [eg, II.i4, hIl, r2, List.take_length]) ?_ (by rw [ec, II.i5, hl1])
      · have : keyJ x ∈ I.map keyJ := MP.k3 ▸ List.mem_map_of_mem hx
        obtain ⟨z, hz, ez⟩ := List.mem_map.mp this
        have ed : z.d = x.d := congrArg (fun q => q.2.1) ez
        rw [← ed]; exact II.i6 p hp z hz
      · apply List.ext_getElem?
        intro j
        by_cases hj : j < ps.length
        · exact MP.k4 j hj
        · rw [List.getElem?_eq_none (by simp; omega), List.getElem?_eq_none (by simp; omega)]
end
section
example : True := by w_top off; trivial
/-! law: the lookup, the buffer, the scene -/
noncomputable abbrev mmI (il tl tbl : Addr) (mask : Int) (tm : Tok) (pass : Bool) (r : Str → Option Value) : Str → Option Value := fun y => if y = Str.ofString "infos" then some (.ref il) else mmC tl tbl mask tm pass r y
theorem lawD_end {w : World} {h₀ h : Heap} {L st sc dsc lks crs pts gd dgd sets at_ da dA cd dcd cm bf dbf lu dlu il tl : Nat} {ol oc op os oat oda oA ocm : Obj} {j0 a1 a2 a3 a4 k0 k1 k2 k3 k4 k5 k6 k7 k8 k9 k10 k11 k12 k13 k14 k15 k16 k17 k18 k19 k20 k21 k22 k23 k24 k25 k26 : Tok} {mask fl : Int} {tm : Tok} {pass : Bool} {R R₀ : List (Addr × Obj)} {I : List InfoD} {ts : List TabD}
  (N : News h₀ L h ((st, listOf #[Value.int 0 j0] 0) :: (sc, instObj 65 dsc) :: (dsc, dictOf [ent w.params "buffer" k0 (.ref bf), ent w.params "gdef" k1 (.ref gd), ent w.params "lookups" k2 (.ref lks), ent w.params "lookup" k3 (.ref lu), ent w.params "mask" k4 (.int mask tm), ent w.params "depth" k5 (.int 0 k6), ent w.params "steps" k7 (.ref st)] 7) :: (lks, ol) :: (crs, oc) :: (pts, op) :: (gd, instObj 670 dgd) ::
    (dgd, dictOf [ent w.params "classes" k14 (.ref cd), ent w.params "attach" k15 (.ref at_), ent w.params "sets" k16 (.ref sets), ent w.params "points" k17 (.ref pts), ent w.params "carets" k18 (.ref crs)] 5) :: (sets, os) :: (at_, oat) :: (da, oda) :: (dA, oA) :: (cd, instObj 573 dcd) :: (dcd, dictOf [ent w.params "classes" k19 (.ref cm)] 1) :: (cm, ocm) :: (bf, instObj 193 dbf) ::
    (dbf, dictOf [ent w.params "row" k8 (.ref il), ent w.params "is_backward" k9 (.bool false), ent w.params "last_lig" k10 (.int 0 k11), ent w.params "last_split" k12 (.int 0 k13)] 4) :: (lu, instObj 43 dlu) :: (dlu, dictOf [ent w.params "kind" k20 (.str (Str.ofString "reverse") k21), ent w.params "flag" k22 (.int fl k23), ent w.params "mark_set" k24 (.int 0 k25), ent w.params "tables" k26 (.ref tl)] 4) :: R))
  (TS : TabsIn w tl ts R₀) (h0 : ∀ p ∈ R₀, p ∈ R) (hsep : ∀ p ∈ R₀, ∀ x ∈ I, p.1 ≠ x.d) (hI : ∀ x ∈ I, ∃ o, (x.d, o) ∈ R) (hfl : fl = if pass then 8 else 0)
  (l1 : ∀ p ∈ R, p.1 < dlu) (l2 : dlu < lu) (l3 : lu < dbf ∧ dlu < dbf ∧ AllLt dbf R) (l4 : dbf < bf) (l5 : bf < cm ∧ dbf < cm ∧ lu < cm ∧ dlu < cm ∧ AllLt cm R) (l6 : cm < dcd ∧ bf < dcd ∧ dbf < dcd ∧ lu < dcd ∧ dlu < dcd ∧ AllLt dcd R) (l7 : dcd < cd)
  (l8 : sets < dgd ∧ at_ < dgd ∧ da < dgd ∧ dA < dgd ∧ cd < dgd ∧ dcd < dgd ∧ cm < dgd ∧ bf < dgd ∧ dbf < dgd ∧ lu < dgd ∧ dlu < dgd ∧ AllLt dgd R) (l9 : dgd < gd)
  (l10 : lks < dsc ∧ crs < dsc ∧ pts < dsc ∧ gd < dsc ∧ dgd < dsc ∧ sets < dsc ∧ at_ < dsc ∧ da < dsc ∧ dA < dsc ∧ cd < dsc ∧ dcd < dsc ∧ cm < dsc ∧ bf < dsc ∧ dbf < dsc ∧ lu < dsc ∧ dlu < dsc ∧ AllLt dsc R) (l11 : dsc < sc)
  (lo : (cm == sysModules) = false) (hd : ocm.IsDictOf (intKind pw w) (intKeyPairs [(.int 3 a1, .int 3 a2), (.int 4 a3, .int 3 a4)])) (hf : PyProof.V.FlatPairs PyData.int (intKeyPairs [(.int 3 a1, .int 3 a2), (.int 4 a3, .int 3 a4)]) [(PyData.int 3, PyData.int 3), (PyData.int 4, PyData.int 3)]) :
  ∃ (x : ScD) (fx news : List (Addr × Obj)), x.sc = sc ∧ x.bf = bf ∧ x.rw = il ∧ x.tl = tl ∧ x.pass = pass ∧ x.mask = mask ∧ ScIn w x fx ∧ TabsIn w x.tl ts fx ∧ (∀ p ∈ fx, ∀ y ∈ I, p.1 ≠ y.d) ∧ (∀ p ∈ fx, p ∈ news) ∧ (∀ p ∈ R, p ∈ news) ∧ News h₀ L h news := by
  subst hfl
  let x : ScD := ⟨sc, dsc, bf, dbf, il, gd, dgd, cd, dcd, cm, ocm, [(PyData.int 3, PyData.int 3), (PyData.int 4, PyData.int 3)], at_, sets, pts, crs, lks, lu, dlu, tl, st, pass, mask, tm, fun n => match n with | 0 => k0 | 1 => k1 | 2 => k2 | 3 => k3 | 4 => k4 | 5 => k5 | 6 => k6 | 7 => k7 | 8 => k8 | 9 => k9 | 10 => k10 | 11 => k11 | 12 => k12 | 13 => k13 | 14 => k14 | 15 => k15 | 16 => k16 | 17 => k17 | 18 => k18 | 19 => k19 | 20 => k20 | 21 => k21 | 22 => k22 | 23 => k23 | 24 => k24 | 25 => k25 | _ => k26⟩
  have hy : ∀ y ∈ I, @LT.lt Nat _ y.d dlu := fun y hy => by obtain ⟨o, ho⟩ := hI y hy; exact l1 _ ho
  refine ⟨x, (sc, instObj 65 dsc) :: (dsc, dictOf (scEs w.params x) 7) :: (bf, instObj 193 dbf) :: (dbf, dictOf (bfEs w.params x) 4) :: (gd, instObj 670 dgd) :: (dgd, dictOf (gdEs w.params x) 5) :: (cd, instObj 573 dcd) :: (dcd, dictOf (cdEs w.params x) 1) :: (lu, instObj 43 dlu) :: (dlu, dictOf (luEs w.params x) 4) :: (cm, ocm) :: R₀, _, rfl, rfl, rfl, rfl, rfl, rfl, ⟨?_, ?_, ?_, ?_, ?_, ?_, ?_, ?_, ?_, ?_, ?_, lo, ⟨_, hd, hf⟩, ?_⟩, ⟨?_, ?_, TS.l3⟩, ?_, ?_, ?_, N⟩
  · exact List.mem_cons_self
  · exact List.mem_cons_of_mem _ (List.mem_cons_self)
  · exact List.mem_cons_of_mem _ (List.mem_cons_of_mem _ (List.mem_cons_self))
  · exact List.mem_cons_of_mem _ (List.mem_cons_of_mem _ (List.mem_cons_of_mem _ (List.mem_cons_self)))
  · exact List.mem_cons_of_mem _ (List.mem_cons_of_mem _ (List.mem_cons_of_mem _ (List.mem_cons_of_mem _ (List.mem_cons_self))))
  · exact List.mem_cons_of_mem _ (List.mem_cons_of_mem _ (List.mem_cons_of_mem _ (List.mem_cons_of_mem _ (List.mem_cons_of_mem _ (List.mem_cons_self)))))
  · exact List.mem_cons_of_mem _ (List.mem_cons_of_mem _ (List.mem_cons_of_mem _ (List.mem_cons_of_mem _ (List.mem_cons_of_mem _ (List.mem_cons_of_mem _ (List.mem_cons_self))))))
  · exact List.mem_cons_of_mem _ (List.mem_cons_of_mem _ (List.mem_cons_of_mem _ (List.mem_cons_of_mem _ (List.mem_cons_of_mem _ (List.mem_cons_of_mem _ (List.mem_cons_of_mem _ (List.mem_cons_self)))))))
  · exact List.mem_cons_of_mem _ (List.mem_cons_of_mem _ (List.mem_cons_of_mem _ (List.mem_cons_of_mem _ (List.mem_cons_of_mem _ (List.mem_cons_of_mem _ (List.mem_cons_of_mem _ (List.mem_cons_of_mem _ (List.mem_cons_self))))))))
  · exact List.mem_cons_of_mem _ (List.mem_cons_of_mem _ (List.mem_cons_of_mem _ (List.mem_cons_of_mem _ (List.mem_cons_of_mem _ (List.mem_cons_of_mem _ (List.mem_cons_of_mem _ (List.mem_cons_of_mem _ (List.mem_cons_of_mem _ (List.mem_cons_self)))))))))
  · exact List.mem_cons_of_mem _ (List.mem_cons_of_mem _ (List.mem_cons_of_mem _ (List.mem_cons_of_mem _ (List.mem_cons_of_mem _ (List.mem_cons_of_mem _ (List.mem_cons_of_mem _ (List.mem_cons_of_mem _ (List.mem_cons_of_mem _ (List.mem_cons_of_mem _ (List.mem_cons_self))))))))))
  · intro i
    show Spec.lookup (.int i) (PyProof.V.putD (.int 4) (.int 3) (PyProof.V.putD (.int 3) (.int 3) [])) = _
    rw [lookup_putD_int, lookup_putD_int]
    unfold mkG
    by_cases h4 : i = 4
    · subst h4; rfl
    · by_cases h3 : i = 3
      · subst h3; rfl
      · rw [if_neg h4, if_neg h3]
        have e1 : (i == 3) = false := by simpa using h3
        have e2 : (i == 4) = false := by simpa using h4
        rw [e1, e2]; rfl
  · obtain ⟨n, q⟩ := TS.l1; exact ⟨n, List.mem_cons_of_mem _ (List.mem_cons_of_mem _ (List.mem_cons_of_mem _ (List.mem_cons_of_mem _ (List.mem_cons_of_mem _ (List.mem_cons_of_mem _ (List.mem_cons_of_mem _ (List.mem_cons_of_mem _ (List.mem_cons_of_mem _ (List.mem_cons_of_mem _ (List.mem_cons_of_mem _ (q)))))))))))⟩
  · exact fun t ht => (TS.l2 t ht).mono fun p hp => List.mem_cons_of_mem _ (List.mem_cons_of_mem _ (List.mem_cons_of_mem _ (List.mem_cons_of_mem _ (List.mem_cons_of_mem _ (List.mem_cons_of_mem _ (List.mem_cons_of_mem _ (List.mem_cons_of_mem _ (List.mem_cons_of_mem _ (List.mem_cons_of_mem _ (List.mem_cons_of_mem _ (hp)))))))))))
  · intro p hp y hyI
    have hyd := hy y hyI
    rcases List.mem_cons.mp hp with rfl | hp; exact (by omega : @Ne Nat sc y.d)
    rcases List.mem_cons.mp hp with rfl | hp; exact (by omega : @Ne Nat dsc y.d)
    rcases List.mem_cons.mp hp with rfl | hp; exact (by omega : @Ne Nat bf y.d)
    rcases List.mem_cons.mp hp with rfl | hp; exact (by omega : @Ne Nat dbf y.d)
    rcases List.mem_cons.mp hp with rfl | hp; exact (by omega : @Ne Nat gd y.d)
    rcases List.mem_cons.mp hp with rfl | hp; exact (by omega : @Ne Nat dgd y.d)
    rcases List.mem_cons.mp hp with rfl | hp; exact (by omega : @Ne Nat cd y.d)
    rcases List.mem_cons.mp hp with rfl | hp; exact (by omega : @Ne Nat dcd y.d)
    rcases List.mem_cons.mp hp with rfl | hp; exact (by omega : @Ne Nat lu y.d)
    rcases List.mem_cons.mp hp with rfl | hp; exact (by omega : @Ne Nat dlu y.d)
    rcases List.mem_cons.mp hp with rfl | hp; exact (by omega : @Ne Nat cm y.d)
    exact hsep p hp y hyI
  · intro p hp
    rcases List.mem_cons.mp hp with rfl | hp; exact List.mem_cons_of_mem _ (List.mem_cons_self)
    rcases List.mem_cons.mp hp with rfl | hp; exact List.mem_cons_of_mem _ (List.mem_cons_of_mem _ (List.mem_cons_self))
    rcases List.mem_cons.mp hp with rfl | hp; exact List.mem_cons_of_mem _ (List.mem_cons_of_mem _ (List.mem_cons_of_mem _ (List.mem_cons_of_mem _ (List.mem_cons_of_mem _ (List.mem_cons_of_mem _ (List.mem_cons_of_mem _ (List.mem_cons_of_mem _ (List.mem_cons_of_mem _ (List.mem_cons_of_mem _ (List.mem_cons_of_mem _ (List.mem_cons_of_mem _ (List.mem_cons_of_mem _ (List.mem_cons_of_mem _ (List.mem_cons_of_mem _ (List.mem_cons_self)))))))))))))))
    rcases List.mem_cons.mp hp with rfl | hp; exact List.mem_cons_of_mem _ (List.mem_cons_of_mem _ (List.mem_cons_of_mem _ (List.mem_cons_of_mem _ (List.mem_cons_of_mem _ (List.mem_cons_of_mem _ (List.mem_cons_of_mem _ (List.mem_cons_of_mem _ (List.mem_cons_of_mem _ (List.mem_cons_of_mem _ (List.mem_cons_of_mem _ (List.mem_cons_of_mem _ (List.mem_cons_of_mem _ (List.mem_cons_of_mem _ (List.mem_cons_of_mem _ (List.mem_cons_of_mem _ (List.mem_cons_self))))))))))))))))
    rcases List.mem_cons.mp hp with rfl | hp; exact List.mem_cons_of_mem _ (List.mem_cons_of_mem _ (List.mem_cons_of_mem _ (List.mem_cons_of_mem _ (List.mem_cons_of_mem _ (List.mem_cons_of_mem _ (List.mem_cons_self))))))
    rcases List.mem_cons.mp hp with rfl | hp; exact List.mem_cons_of_mem _ (List.mem_cons_of_mem _ (List.mem_cons_of_mem _ (List.mem_cons_of_mem _ (List.mem_cons_of_mem _ (List.mem_cons_of_mem _ (List.mem_cons_of_mem _ (List.mem_cons_self)))))))
    rcases List.mem_cons.mp hp with rfl | hp; exact List.mem_cons_of_mem _ (List.mem_cons_of_mem _ (List.mem_cons_of_mem _ (List.mem_cons_of_mem _ (List.mem_cons_of_mem _ (List.mem_cons_of_mem _ (List.mem_cons_of_mem _ (List.mem_cons_of_mem _ (List.mem_cons_of_mem _ (List.mem_cons_of_mem _ (List.mem_cons_of_mem _ (List.mem_cons_of_mem _ (List.mem_cons_self))))))))))))
    rcases List.mem_cons.mp hp with rfl | hp; exact List.mem_cons_of_mem _ (List.mem_cons_of_mem _ (List.mem_cons_of_mem _ (List.mem_cons_of_mem _ (List.mem_cons_of_mem _ (List.mem_cons_of_mem _ (List.mem_cons_of_mem _ (List.mem_cons_of_mem _ (List.mem_cons_of_mem _ (List.mem_cons_of_mem _ (List.mem_cons_of_mem _ (List.mem_cons_of_mem _ (List.mem_cons_of_mem _ (List.mem_cons_self)))))))))))))
    rcases List.mem_cons.mp hp with rfl | hp; exact List.mem_cons_of_mem _ (List.mem_cons_of_mem _ (List.mem_cons_of_mem _ (List.mem_cons_of_mem _ (List.mem_cons_of_mem _ (List.mem_cons_of_mem _ (List.mem_cons_of_mem _ (List.mem_cons_of_mem _ (List.mem_cons_of_mem _ (List.mem_cons_of_mem _ (List.mem_cons_of_mem _ (List.mem_cons_of_mem _ (List.mem_cons_of_mem _ (List.mem_cons_of_mem _ (List.mem_cons_of_mem _ (List.mem_cons_of_mem _ (List.mem_cons_of_mem _ (List.mem_cons_self)))))))))))))))))
    rcases List.mem_cons.mp hp with rfl | hp; exact List.mem_cons_of_mem _ (List.mem_cons_of_mem _ (List.mem_cons_of_mem _ (List.mem_cons_of_mem _ (List.mem_cons_of_mem _ (List.mem_cons_of_mem _ (List.mem_cons_of_mem _ (List.mem_cons_of_mem _ (List.mem_cons_of_mem _ (List.mem_cons_of_mem _ (List.mem_cons_of_mem _ (List.mem_cons_of_mem _ (List.mem_cons_of_mem _ (List.mem_cons_of_mem _ (List.mem_cons_of_mem _ (List.mem_cons_of_mem _ (List.mem_cons_of_mem _ (List.mem_cons_of_mem _ (List.mem_cons_self))))))))))))))))))
    rcases List.mem_cons.mp hp with rfl | hp; exact List.mem_cons_of_mem _ (List.mem_cons_of_mem _ (List.mem_cons_of_mem _ (List.mem_cons_of_mem _ (List.mem_cons_of_mem _ (List.mem_cons_of_mem _ (List.mem_cons_of_mem _ (List.mem_cons_of_mem _ (List.mem_cons_of_mem _ (List.mem_cons_of_mem _ (List.mem_cons_of_mem _ (List.mem_cons_of_mem _ (List.mem_cons_of_mem _ (List.mem_cons_of_mem _ (List.mem_cons_self))))))))))))))
    exact List.mem_cons_of_mem _ (List.mem_cons_of_mem _ (List.mem_cons_of_mem _ (List.mem_cons_of_mem _ (List.mem_cons_of_mem _ (List.mem_cons_of_mem _ (List.mem_cons_of_mem _ (List.mem_cons_of_mem _ (List.mem_cons_of_mem _ (List.mem_cons_of_mem _ (List.mem_cons_of_mem _ (List.mem_cons_of_mem _ (List.mem_cons_of_mem _ (List.mem_cons_of_mem _ (List.mem_cons_of_mem _ (List.mem_cons_of_mem _ (List.mem_cons_of_mem _ (List.mem_cons_of_mem _ (List.mem_cons_of_mem _ (h0 p hp)))))))))))))))))))
  · exact fun p hp => List.mem_cons_of_mem _ (List.mem_cons_of_mem _ (List.mem_cons_of_mem _ (List.mem_cons_of_mem _ (List.mem_cons_of_mem _ (List.mem_cons_of_mem _ (List.mem_cons_of_mem _ (List.mem_cons_of_mem _ (List.mem_cons_of_mem _ (List.mem_cons_of_mem _ (List.mem_cons_of_mem _ (List.mem_cons_of_mem _ (List.mem_cons_of_mem _ (List.mem_cons_of_mem _ (List.mem_cons_of_mem _ (List.mem_cons_of_mem _ (List.mem_cons_of_mem _ (List.mem_cons_of_mem _ (List.mem_cons_of_mem _ (hp)))))))))))))))))))
noncomputable abbrev mmE (sc bf tbl : Addr) (mask : Int) (tm : Tok) (pass : Bool) (r : Str → Option Value) : Str → Option Value := fun y => if y = Str.ofString "scene" then some (.ref sc) else if y = Str.ofString "buffer" then some (.ref bf) else if y = Str.ofString "tables" then some (.ref tbl) else if y = Str.ofString "mask" then some (.int mask tm) else if y = Str.ofString "is_passing" then some (.bool pass) else r y
local macro_rules | `(tactic| walk_at "call ref") => `(tactic| (k_here; (with_reducible show wpAny _ _ (call (Value.ref 573) _) _ _ _); k_dflt (refine' mkClassDef ?C ?F ?N ?_; (case F | N => k_asm); (case C => walk_at "CX")); intro a' d' k0' h' tk' F' N' l1 l2; (try k_lt l1); (try k_sweep)))
local macro_rules | `(tactic| walk_at "call ref") => `(tactic| (k_here; (with_reducible show wpAny _ _ (call (Value.ref 193) _) _ _ _); k_dflt (refine' mkBuffer ?C ?F ?N ?_; (case F | N => k_asm); (case C => walk_at "CX")); intro a' d' k0' k1' k2' k4' k3' k5' h' tk' F' N' l1 l2; (try k_lt l1); (try k_sweep)))
local macro_rules | `(tactic| walk_at "call ref") => `(tactic| (k_here; (with_reducible show wpAny _ _ (call (Value.ref 43) _) _ _ _); k_dflt (refine' mkLookup ?C ?F ?N ?_; (case F | N => k_asm); (case C => walk_at "CX")); intro a' d' k0' k1' k2' k3' h' tk' F' N' l1 l2; (try k_lt l1); (try k_sweep)))
local macro_rules | `(tactic| walk_at "call ref") => `(tactic| (k_here; (with_reducible show wpAny _ _ (call (Value.ref 670) _) _ _ _); k_dflt (refine' mkGdef ?C ?F ?N ?_; (case F | N => k_asm); (case C => walk_at "CX")); intro a' d' p' c' o1' o2' k0' k1' k2' k3' k4' h' tk' F' N' l1 l2; (try k_lt l1); (try k_sweep)))
local macro_rules | `(tactic| walk_at "call ref") => `(tactic| (k_here; (with_reducible show wpAny _ _ (call (Value.ref 65) _) _ _ _); k_dflt (refine' mkScene ?C ?F ?N ?_; (case F | N => k_asm); (case C => walk_at "CX")); intro a' d' s' j' k0' k1' k2' k3' k4' k5' k6' k7' h' tk' F' N' l1 l2; (try k_lt l1); (try k_sweep)))
theorem lawT_9b : lawT 9 = lawS 9 :: lawT 10 := rfl
theorem lawT_10 : lawT 10 = lawS 10 :: lawS 11 :: lawT 12 := rfl
theorem lawD1 {w : World} {A₀ A : Around} {E : Value → Shared → Prop} {s : Shared} {base h₀ : Heap} {outer : List Env} {env : Env} {L : Addr} {mg mb : Str → Option Value} {mean : ExcName → Option Value} {loose : List Str} {R : List (Addr × Obj)} {Q : Flow → Shared → Prop}
  {fa : Addr} {cd : Value} {il tl tbl : Addr} {pass : Bool} {mask : Int} {tm : Tok} {r : Str → Option Value} (he : env = lawEnv L fa cd) (hE : PassesOwn (model pw w) A env E) (C : Cx w A₀ A base h₀ outer env L mg mb mean loose 60)
  (F : Fr h₀ L s.heap (mmI il tl tbl mask tm pass r)) (N : News h₀ L s.heap R)
  (h : ∀ (lu dlu : Nat) (fl : Int) (k20 k21 k22 k23 k24 k25 k26 : Tok) (h' : Heap) (tk : Nat), fl = (if pass then 8 else 0) → Fr h₀ L h' (fun y => if y = Str.ofString "lookup" then some (.ref lu) else mmI il tl tbl mask tm pass r y) → News h₀ L h' ((lu, instObj 43 dlu) :: (dlu, dictOf [ent w.params "kind" k20 (.str (Str.ofString "reverse") k21), ent w.params "flag" k22 (.int fl k23), ent w.params "mark_set" k24 (.int 0 k25), ent w.params "tables" k26 (.ref tl)] 4) :: R) → (∀ p ∈ R, p.1 < dlu) → dlu < lu →
    wpAny (model pw w) A (execs (lawT 10) env) Q E { s with heap := h', toks := tk }) :
  wpAny (model pw w) A (execs (lawT 9) env) Q E s := by
  obtain ⟨B, X, T, hA, hf, hke, hh, hdep, hun⟩ := C
  rw [lawT_9b]
  unfold lawEnv at he
  conv at he in lawScope => whnf
  dsimp (config := { zeta := true }) only at he
  conv in lawS 9 => whnf
  generalize lawT 10 = q12 at h ⊢
  subst he
  cases pass with
  | true =>
    walk_at "STEPS"
    exact h _ _ 8 _ _ _ _ _ _ _ _ _ rfl (by assumption) (by assumption) (by assumption) (by assumption)
  | false =>
    walk_at "STEPS"
    exact h _ _ 0 _ _ _ _ _ _ _ _ _ rfl (by assumption) (by assumption) (by assumption) (by assumption)
theorem lawD2 {w : World} {A₀ A : Around} {E : Value → Shared → Prop} {s : Shared} {base h₀ : Heap} {outer : List Env} {env : Env} {L : Addr} {mg mb : Str → Option Value} {mean : ExcName → Option Value} {loose : List Str} {R R₀ : List (Addr × Obj)} {Q : Flow → Shared → Prop}
  {fa : Addr} {cd : Value} {il tl tbl : Addr} {I : List InfoD} {ts : List TabD} {pass : Bool} {mask : Int} {tm : Tok} {r : Str → Option Value} (he : env = lawEnv L fa cd) (hE : PassesOwn (model pw w) A env E) (C : Cx w A₀ A base h₀ outer env L mg mb mean loose 60)
  {lu dlu : Nat} {fl : Int} {k20 k21 k22 k23 k24 k25 k26 : Tok} (F : Fr h₀ L s.heap (fun y => if y = Str.ofString "lookup" then some (.ref lu) else mmI il tl tbl mask tm pass r y)) (N : News h₀ L s.heap ((lu, instObj 43 dlu) :: (dlu, dictOf [ent w.params "kind" k20 (.str (Str.ofString "reverse") k21), ent w.params "flag" k22 (.int fl k23), ent w.params "mark_set" k24 (.int 0 k25), ent w.params "tables" k26 (.ref tl)] 4) :: R)) (hfl : fl = (if pass then 8 else 0)) (g1 : ∀ p ∈ R, p.1 < dlu) (g2 : dlu < lu) (TS : TabsIn w tl ts R₀) (h0 : ∀ p ∈ R₀, p ∈ R) (hsep : ∀ p ∈ R₀, ∀ x ∈ I, p.1 ≠ x.d) (hI : ∀ x ∈ I, ∃ o, (x.d, o) ∈ R)
  (h : ∀ (x : ScD) (fx R' : List (Addr × Obj)) (r' : Str → Option Value) (h' : Heap) (tk : Nat),
    Fr h₀ L h' (mmE x.sc x.bf tbl mask tm pass r') → News h₀ L h' R' → (∀ p ∈ R, p ∈ R') → (∀ p ∈ fx, p ∈ R') → (∀ p ∈ fx, ∀ y ∈ I, p.1 ≠ y.d) → ScIn w x fx → TabsIn w x.tl ts fx → x.rw = il → x.pass = pass → x.mask = mask →
    wpAny (model pw w) A (execs (lawT 12) env) Q E { s with heap := h', toks := tk }) :
  wpAny (model pw w) A (execs (lawT 10) env) Q E s := by
  obtain ⟨B, X, T, hA, hf, hke, hh, hdep, hun⟩ := C
  rw [lawT_10]
  unfold lawEnv at he
  conv at he in lawScope => whnf
  dsimp (config := { zeta := true }) only at he
  conv in lawS 10 => whnf
  conv in lawS 11 => whnf
  generalize lawT 12 = q12 at h ⊢
  subst he
  walk_at "STEPS"
  rename Fr _ _ _ _ => Fz
  rename News _ _ _ _ => Nz
  obtain ⟨x, fx, news, rfl, rfl, e3, e4, e5, e6, S, TS', sep, sub, subR, N'⟩ := lawD_end Nz TS h0 hsep hI (pass := pass) hfl g1 g2 (by assumption) (by assumption) (by assumption) (by assumption) (by assumption) (by assumption) (by assumption) (by assumption) (by assumption) (by assumption) (by assumption) (by assumption)
  exact h x fx news (frM Fz) _ _ (frCongr Fz (by walk_at "MM"; (try dsimp only [mmI, mmC]); (repeat (refine mmN (by assumption) ?_)); try rfl)) N' subR sub sep S TS' e3 e5 e6
theorem lawD {w : World} {A₀ A : Around} {E : Value → Shared → Prop} {s : Shared} {base h₀ : Heap} {outer : List Env} {env : Env} {L : Addr} {mg mb : Str → Option Value} {mean : ExcName → Option Value} {loose : List Str} {R R₀ : List (Addr × Obj)} {Q : Flow → Shared → Prop}
  {fa : Addr} {cd : Value} {il tl tbl : Addr} {I : List InfoD} {ts : List TabD} {pass : Bool} {mask : Int} {tm : Tok} {r : Str → Option Value} (he : env = lawEnv L fa cd) (hE : PassesOwn (model pw w) A env E) (C : Cx w A₀ A base h₀ outer env L mg mb mean loose 60)
  (F : Fr h₀ L s.heap (mmI il tl tbl mask tm pass r)) (N : News h₀ L s.heap R) (TS : TabsIn w tl ts R₀) (h0 : ∀ p ∈ R₀, p ∈ R) (hsep : ∀ p ∈ R₀, ∀ x ∈ I, p.1 ≠ x.d) (hI : ∀ x ∈ I, ∃ o, (x.d, o) ∈ R)
  (h : ∀ (x : ScD) (fx R' : List (Addr × Obj)) (r' : Str → Option Value) (h' : Heap) (tk : Nat),
    Fr h₀ L h' (mmE x.sc x.bf tbl mask tm pass r') → News h₀ L h' R' → (∀ p ∈ R, p ∈ R') → (∀ p ∈ fx, p ∈ R') → (∀ p ∈ fx, ∀ y ∈ I, p.1 ≠ y.d) → ScIn w x fx → TabsIn w x.tl ts fx → x.rw = il → x.pass = pass → x.mask = mask →
    wpAny (model pw w) A (execs (lawT 12) env) Q E { s with heap := h', toks := tk }) :
  wpAny (model pw w) A (execs (lawT 9) env) Q E s :=
  lawD1 he hE C F N fun _ _ _ _ _ _ _ _ _ _ h' tk hfl F' N' g1 g2 => lawD2 he hE C F' N' hfl g1 g2 TS h0 hsep hI h
end
section
example : True := by w_top off; trivial
/-! law: the plain run; a side asked of a table -/
noncomputable def bodyFor : Stmt → List Stmt
  | .For _ _ b _ _ => b
  | _ => []
noncomputable def bodyIf : Stmt → List Stmt
  | .If _ b _ _ => b
  | _ => []
noncomputable def runS (k : Nat) : Stmt := (bodyFor (lawS 14)).getD k (.Pass default)
noncomputable def runT (k : Nat) : List Stmt := (bodyFor (lawS 14)).drop k
noncomputable def inS (k : Nat) : Stmt := (bodyFor ((bodyIf (runS 3)).getD 0 (.Pass default))).getD k (.Pass default)
noncomputable def inT (k : Nat) : List Stmt := (bodyFor ((bodyIf (runS 3)).getD 0 (.Pass default))).drop k
theorem inT_0 : inT 0 = inS 0 :: inT 1 := rfl
theorem inT_1 : inT 1 = inS 1 :: inT 2 := rfl
theorem inT_2 : inT 2 = [inS 2] := rfl
theorem runT_0 : runT 0 = runS 0 :: runS 1 :: runS 2 :: runT 3 := rfl
theorem runT_3 : runT 3 = runS 3 :: runT 4 := rfl
theorem runT_4 : runT 4 = [runS 4, runS 5] := rfl
theorem anyNx {gs : List Int} {k : Int} : gs.any (· == k) = decide (k ∈ gs) := by
  rw [Bool.eq_iff_iff]; simp only [List.any_eq_true, beq_iff_eq, decide_eq_true_eq]
  exact ⟨fun ⟨x, hx, e⟩ => e ▸ hx, fun h => ⟨k, h, rfl⟩⟩
structure RunV where
  fl : Addr
  el : Addr
  own : Int
  to_ : Tok
  g : Int
  tg : Tok
  la : Addr
  cnt : Int
  tc : Tok
  sc : Addr
  bf : Addr
  tbl : Addr
  mask : Int
  tm : Tok
  pass : Bool
  r : Str → Option Value
noncomputable abbrev mmF (c : RunV) : Str → Option Value := fun y => if y = Str.ofString "found" then some (.ref c.fl) else if y = Str.ofString "earlier" then some (.ref c.el) else if y = Str.ofString "own" then some (.int c.own c.to_) else if y = Str.ofString "glyph" then some (.int c.g c.tg) else if y = Str.ofString "later" then some (.ref c.la) else if y = Str.ofString "count" then some (.int c.cnt c.tc) else mmE c.sc c.bf c.tbl c.mask c.tm c.pass c.r y
noncomputable abbrev mmT (md : Addr) (vb va : Value) (m : Str → Option Value) : Str → Option Value := fun y => if y = Str.ofString "ahead" then some va else if y = Str.ofString "back" then some vb else if y = Str.ofString "mapping" then some (.ref md) else m y
noncomputable abbrev mmB (v : Value) (m : Str → Option Value) : Str → Option Value := fun y => if y = Str.ofString "is_back" then some v else m y
noncomputable abbrev mmA (v : Value) (m : Str → Option Value) : Str → Option Value := fun y => if y = Str.ofString "is_ahead" then some v else m y
theorem mmF_self {c : RunV} {m : Str → Option Value} (h1 : m (Str.ofString "found") = some (.ref c.fl)) (h2 : m (Str.ofString "earlier") = some (.ref c.el)) (h3 : m (Str.ofString "own") = some (.int c.own c.to_)) (h4 : m (Str.ofString "glyph") = some (.int c.g c.tg)) (h5 : m (Str.ofString "later") = some (.ref c.la)) (h6 : m (Str.ofString "count") = some (.int c.cnt c.tc))
  (h7 : m (Str.ofString "scene") = some (.ref c.sc)) (h8 : m (Str.ofString "buffer") = some (.ref c.bf)) (h9 : m (Str.ofString "tables") = some (.ref c.tbl)) (hA : m (Str.ofString "mask") = some (.int c.mask c.tm)) (hB : m (Str.ofString "is_passing") = some (.bool c.pass)) : ∀ y, m y = mmF { c with r := m } y := by
  intro y
  dsimp only [mmF, mmE]
  repeat (refine mmS (fun e => ?_) (fun e => ?_); (subst e; assumption))
  rfl
local macro_rules | `(tactic| walk_at "call ref") => `(tactic| (k_here; (with_reducible show wpAny _ _ (call (Value.ref 691) [Value.ref _, Value.bool _]) _ _ _); k_dflt (refine' lnext_spec ?C ?F ?N ?m ?i ?l ?_; (case F | N => k_asm); (case m => k_mem); (case i => assumption); (case C => walk_at "CX"); (case l => assumption)); intro R' h' tk' t' F' N' hs'; (try k_sweep)))
local macro_rules | `(tactic| walk_at "compareOp In int ref") => `(tactic| (k_here; k_dflt (refine' in_list_ints ?l ?i ?_; (case l => first | exact News.isList (by k_asm) (by k_mem) | (rename ∀ p ∈ _, p ∈ _ => hs9; exact News.isList (by k_asm) (hs9 _ (by assumption)))); (case i => assumption); k_whole)))
theorem lawSideB {w : World} {A₀ A : Around} {E : Value → Shared → Prop} {s : Shared} {base h₀ : Heap} {outer : List Env} {env : Env} {L : Addr} {mg mb : Str → Option Value} {mean : ExcName → Option Value} {loose : List Str} {R : List (Addr × Obj)} {Q : Flow → Shared → Prop}
  {fa : Addr} {cd : Value} {c : RunV} {md : Addr} {vb va : Value} {sb : Option (List Int)} {ws : List Value} {e : List Int} {ne : Nat} (he : env = lawEnv L fa cd) (C : Cx w A₀ A base h₀ outer env L mg mb mean loose 40)
  (F : Fr h₀ L s.heap (mmT md vb va (mmF c))) (N : News h₀ L s.heap R) (hsd : RawSide R vb sb) (hel : (c.el, listOf ws.toArray ne) ∈ R) (hi : IntsAre ws e) (hl : e.length ≤ 8)
  (h : ∀ R' h' tk, Fr h₀ L h' (mmB (.bool (sideL c.pass e sb)) (mmT md vb va (mmF c))) → News h₀ L h' R' → (∀ p ∈ R, p ∈ R') → wpAny (model pw w) A (execs (inT 1) env) Q E { s with heap := h', toks := tk }) :
  wpAny (model pw w) A (execs (inT 0) env) Q E s := by
  obtain ⟨B, X, T, hA, hf, hke, hh, hdep, hun⟩ := C
  rw [inT_0]
  unfold lawEnv at he
  conv at he in lawScope => whnf
  dsimp (config := { zeta := true }) only at he
  conv in inS 0 => whnf
  generalize inT 1 = q1 at h ⊢
  subst he
  cases sb with
  | none =>
    rw [show vb = .none from hsd] at F h
    try k_fold
    walk_at "STEPS"
    exact h _ _ _ (by assumption) (by assumption) (fun _ hp => hp)
  | some gs =>
    obtain ⟨D, n, zs, rfl, hm, hz, hz3, hpos, hge⟩ := hsd
    try k_fold
    walk_at "STEPS"
    rename Fr _ _ _ _ => Fz
    rename News _ _ _ _ => Nz
    rename ∀ p ∈ _, p ∈ _ => hs9
    refine h _ _ _ (frCongr Fz fun y => ?_) Nz hs9
    rw [anyNx]; rfl
theorem lawSideA {w : World} {A₀ A : Around} {E : Value → Shared → Prop} {s : Shared} {base h₀ : Heap} {outer : List Env} {env : Env} {L : Addr} {mg mb : Str → Option Value} {mean : ExcName → Option Value} {loose : List Str} {R : List (Addr × Obj)} {Q : Flow → Shared → Prop}
  {fa : Addr} {cd : Value} {c : RunV} {md : Addr} {vb va vv : Value} {sb : Option (List Int)} {ws : List Value} {e : List Int} {ne : Nat} (he : env = lawEnv L fa cd) (C : Cx w A₀ A base h₀ outer env L mg mb mean loose 40)
  (F : Fr h₀ L s.heap (mmB vv (mmT md vb va (mmF c)))) (N : News h₀ L s.heap R) (hsd : RawSide R va sb) (hel : (c.la, listOf ws.toArray ne) ∈ R) (hi : IntsAre ws e) (hl : e.length ≤ 8)
  (h : ∀ R' h' tk, Fr h₀ L h' (mmA (.bool (sideL c.pass e sb)) (mmB vv (mmT md vb va (mmF c)))) → News h₀ L h' R' → (∀ p ∈ R, p ∈ R') → wpAny (model pw w) A (execs (inT 2) env) Q E { s with heap := h', toks := tk }) :
  wpAny (model pw w) A (execs (inT 1) env) Q E s := by
  obtain ⟨B, X, T, hA, hf, hke, hh, hdep, hun⟩ := C
  rw [inT_1]
  unfold lawEnv at he
  conv at he in lawScope => whnf
  dsimp (config := { zeta := true }) only at he
  conv in inS 1 => whnf
  generalize inT 2 = q1 at h ⊢
  subst he
  cases sb with
  | none =>
    rw [show va = .none from hsd] at F h
    try k_fold
    walk_at "STEPS"
    exact h _ _ _ (by assumption) (by assumption) (fun _ hp => hp)
  | some gs =>
    obtain ⟨D, n, zs, rfl, hm, hz, hz3, hpos, hge⟩ := hsd
    try k_fold
    walk_at "STEPS"
    rename Fr _ _ _ _ => Fz
    rename News _ _ _ _ => Nz
    rename ∀ p ∈ _, p ∈ _ => hs9
    refine h _ _ _ (frCongr Fz fun y => ?_) Nz hs9
    rw [anyNx]; rfl
end
section
example : True := by w_top off; trivial
local macro_rules | `(tactic| walk_at "NONE") => `(tactic| skip)
/-! law: the tables asked, turn by turn -/
noncomputable def ifS : Stmt := (bodyIf (runS 3)).getD 0 (.Pass default)
noncomputable def tgtOf : Stmt → Expr
  | .For t _ _ _ _ => t
  | _ => default
noncomputable def iterOf : Stmt → Expr
  | .For _ i _ _ _ => i
  | _ => default
noncomputable def posFor : Stmt → Pos
  | .For _ _ _ _ p => p
  | _ => default
theorem ifS_eq : ifS = .For (tgtOf ifS) (iterOf ifS) (inT 0) [] (posFor ifS) := rfl
theorem inV {prog : Program} {w : World} {A : Around} {E : Value → Shared → Prop} {s : Shared} {d : Addr} {D : List (PyData × PyData)} {i : Int} {tk : Tok} {o : Option Int} {Q : Value → Shared → Prop} (T : IntTab prog w s.heap d D) (hl : Spec.lookup (.int i) D = o.map PyData.int)
  (h : Q (.bool o.isSome) { s with toks := s.toks + 1 }) : wpAny (model prog w) A (compareOp .In (.int i tk) (.ref d)) Q E s := in_intTab T (by rw [hl]; cases o <;> exact h)
theorem itemV' {prog : Program} {w : World} {A : Around} {E : Value → Shared → Prop} {s : Shared} {d : Addr} {D : List (PyData × PyData)} {value slice : PySem.Expr} {i v : Int} {tk : Tok} {Q : Value → Shared → Prop} (T : IntTab prog w s.heap d D) (hl : Spec.lookup (.int i) D = (some v).map PyData.int)
  (h : ∀ t, Q (.int v t) { s with toks := s.toks + 1 }) (hs : subscripted slice false (.ref d) (.int i tk) = operate [.ref d, .int i tk] (getItem (.ref d) (.int i tk)) := by with_unfolding_all rfl) (hg : ∀ r, letTemporaryGo value (.ref d) r = pure () := by intro _; with_unfolding_all rfl) :
  wpAny (model prog w) A (subscriptTail value slice (.ref d) (.int i tk)) Q E s := item_intTab T hl (fun u hu => by obtain ⟨t', rfl⟩ := PyProof.V.Flat.int_inv hu; exact h t') hs hg
local macro_rules | `(tactic| walk_at "compareOp In int ref") => `(tactic| (k_here; k_dflt (refine' inV ?T ?l ?_; (case T => k_tabat); (case l => assumption); k_whole); (try dsimp only [Option.isSome, Bool.not_true, Bool.not_false])))
local macro_rules | `(tactic| walk_at "subscriptTail") => `(tactic| (k_here; (with_reducible show wpAny _ _ (subscriptTail _ _ (Value.ref _) (Value.int _ _)) _ _ _); k_dflt (refine' itemV' ?T ?l ?_; (case T => k_tabat); (case l => assumption); k_whole; intro _)))
structure LpI where
  R : List (Addr × Obj)
  fs : List Value
  n : Nat
  r : Str → Option Value
theorem lawIn {w : World} {A₀ A : Around} {E : Value → Shared → Prop} {s : Shared} {base h₀ : Heap} {outer : List Env} {env : Env} {L : Addr} {mg mb : Str → Option Value} {mean : ExcName → Option Value} {loose : List Str} {R : List (Addr × Obj)} {Q : Flow → Shared → Prop}
  {fa : Addr} {cd : Value} {c : RunV} {tabs : List RawT} {nb : Nat} {ws zs : List Value} {e l : List Int} {n1 n2 : Nat} (he : env = lawEnv L fa cd) (hE : PassesOwn (model pw w) A env E) (C : Cx w A₀ A base h₀ outer env L mg mb mean loose 50)
  (F : Fr h₀ L s.heap (mmF c)) (N : News h₀ L s.heap ((c.fl, listOf #[] 0) :: R)) (hfl : ∀ p ∈ R, p.1 ≠ c.fl) (htb : (c.tbl, listOf (tabs.map fun x => Value.ref x.tt).toArray nb) ∈ R) (hT : ∀ x ∈ tabs, RawTIn w R x) (hl : tabs.length ≤ 2)
  (hw : (c.el, listOf ws.toArray n1) ∈ R) (hwi : IntsAre ws e) (hwl : e.length ≤ 8) (hz : (c.la, listOf zs.toArray n2) ∈ R) (hzi : IntsAre zs l) (hzl : l.length ≤ 8)
  (h : ∀ fs n R' r' h' tk, Fr h₀ L h' (mmF { c with r := r' }) → News h₀ L h' ((c.fl, listOf (List.toArray fs) n) :: R') → (∀ p ∈ R', p.1 ≠ c.fl) → (∀ p ∈ R, p ∈ R') → IntsAre fs (tabs.filterMap (fireR c.pass e l c.g)) → Q .next { s with heap := h', toks := tk }) :
  wpAny (model pw w) A (exec ifS env) Q E s := by
  obtain ⟨B, X, T, hA, hf, hke, hh, hdep, hun⟩ := C
  rw [ifS_eq]
  obtain ⟨q0, hq⟩ : ∃ q, q = inT 0 := ⟨_, rfl⟩
  rw [← hq]
  have he0 := he
  unfold lawEnv at he
  conv at he in lawScope => whnf
  dsimp (config := { zeta := true }) only at he
  conv in tgtOf ifS => whnf
  conv in iterOf ifS => whnf
  subst he
  walk_at "FORT"
  walk_at "STEPS"
  rename Fr _ _ _ _ => kF'
  rename News _ _ _ _ => kN'
  refine forListT (fun (d : LpI) => mmF { c with r := d.r }) (fun d => (c.fl, listOf d.fs.toArray d.n) :: d.R)
    (fun i d => (∀ p ∈ R, p ∈ d.R) ∧ (∀ p ∈ d.R, p.1 ≠ c.fl) ∧ IntsAre d.fs ((tabs.take i).filterMap (fireR c.pass e l c.g)))
    ⟨R, [], 0, c.r⟩ hh (List.mem_cons_of_mem _ htb) kF' kN' (fun _ => rfl) (fun _ hp => hp) ⟨fun _ hp => hp, hfl, .nil⟩ ?_ ?_
  · rintro i v ⟨R1, fs, nf, r1⟩ ⟨hp1, gs1, dr1, tk1, os1⟩ Ia oI hne hcI hv hJ0 off F1 N1
    refine hideG ?_
    intro G9 kG9
    obtain ⟨p1, p2, p3⟩ := hJ0
    dsimp only at F1 p1 p2 p3 off N1
    obtain ⟨x, hx, rfl⟩ : ∃ x, tabs[i]? = some x ∧ v = .ref x.tt := by
      rw [List.getElem?_map] at hv
      cases hx : tabs[i]? with
      | none => rw [hx] at hv; cases hv
      | some x => rw [hx] at hv; exact ⟨x, rfl, (Option.some.inj hv).symm⟩
    obtain ⟨c1, a1, a2, a3, a4, a5, a6, a7⟩ := (hT x (List.mem_of_getElem? hx)).mono p1
    refine kG9 ?_
    clear kG9
    try dsimp only
    clear kF' kN'
    have hTup : IsTup hp1 x.tt #[Value.ref x.md, x.vb, x.va] := News.isTup N1 (List.mem_cons_of_mem _ (List.mem_cons_of_mem _ (List.mem_cons_of_mem _ c1)))
    try k_fold
    k_dflt (refine' unpackN_ F1 N1 hTup hh (by rfl) (by rfl) ?_; k_whole)
    intro h2 F2 N2
    walk_at "STEPS"
    rename Fr _ _ _ _ => F3
    rename News _ _ _ _ => N3
    subst hq
    have up3 : ∀ p ∈ R1, p ∈ ledOf N3 := fun p hp => List.mem_cons_of_mem _ (List.mem_cons_of_mem _ (List.mem_cons_of_mem _ hp))
    refine lawSideB (c := { c with r := r1 }) he0 ⟨B, X, T, hA, hf, hke, hh, by omega, by omega⟩ F3 N3 (a6.mono up3) (up3 _ (p1 _ hw)) hwi hwl ?_
    intro R4 h4 tk4 F4 N4 s4
    refine lawSideA (c := { c with r := r1 }) he0 ⟨B, X, T, hA, hf, hke, hh, by omega, by omega⟩ F4 N4 (a7.mono fun p hp => s4 p (up3 p hp)) (s4 _ (up3 _ (p1 _ hz))) hzi hzl ?_
    intro R5 h5 tk5 F5 N5 s5
    rw [inT_2]
    conv in inS 2 => whnf
    have s9 : ∀ p ∈ ledOf N3, p ∈ R5 := fun p hp => s5 _ (s4 _ hp)
    have o1 : @Ne Nat c.fl Ia := off _ List.mem_cons_self
    have o2 : ∀ p ∈ R1, p.1 ≠ Ia := fun p hp => off p (List.mem_cons_of_mem _ hp)
    have htm : @Ne Nat c.tbl c.fl := p2 _ (p1 _ htb)
    have N6 := News.subl (l' := (c.fl, listOf fs.toArray nf) :: (Ia, oI) :: (c.tbl, listOf (tabs.map fun x => Value.ref x.tt).toArray nb) :: cut2 c.fl Ia R5) N5 fun p hp => by
      rcases List.mem_cons.mp hp with rfl | hp; exact s9 _ (List.mem_cons_of_mem _ (List.mem_cons_of_mem _ List.mem_cons_self))
      rcases List.mem_cons.mp hp with rfl | hp; exact s9 _ List.mem_cons_self
      rcases List.mem_cons.mp hp with rfl | hp; exact s9 _ (List.mem_cons_of_mem _ List.mem_cons_self)
      exact cut2_sub p hp
    have hc2 : ∀ p ∈ cut2 c.fl Ia R5, p.1 ≠ c.fl := fun p hp => (cut2_off p hp).1
    have hR1 : ∀ p ∈ R1, p ∈ cut2 c.fl Ia R5 := fun p hp => cut2_mem (s9 _ (up3 p hp)) ⟨p2 p hp, o2 p hp⟩
    have hmd := hR1 _ a1
    have hil : i < tabs.length := (List.getElem?_eq_some_iff.mp hx).1
    have hfs : fs.length ≤ 2 := by
      rw [p3.length]
      exact Nat.le_trans (List.length_filterMap_le _ _) (by rw [List.length_take]; omega)
    have hstep : (tabs.take (i + 1)).filterMap (fireR c.pass e l c.g) = (tabs.take i).filterMap (fireR c.pass e l c.g) ++ (fireR c.pass e l c.g x).toList := by
      rw [List.take_add_one, hx, List.filterMap_append]
      congr 1
    obtain ⟨kx, a3, a8⟩ := a3
    have hlk := a5 c.g
    clear s9 s5 s4 up3 N5 N4 N3 F4 F3 N2 F2 N1 F1
    cases hfg : x.f c.g with
    | none =>
      have hfire : fireR c.pass e l c.g x = none := by unfold fireR; rw [hfg]; split <;> rfl
      rw [hfg] at hlk
      walk_at "STEPS"
      rename Fr _ _ _ _ => Fz
      rename News _ _ _ _ => Nz
      dsimp only [FPostT]
      refine fEndT (⟨cut2 c.fl Ia R5, fs, nf, frM Fz⟩ : LpI) Fz Nz ?hm ?ho ?hn ?hw ?hp
      case hm => exact mmF_self (c := c) rfl rfl rfl rfl rfl rfl rfl rfl rfl rfl rfl
      case ho =>
        intro p hp
        rcases List.mem_cons.mp hp with rfl | hp; exact List.mem_cons_of_mem _ List.mem_cons_self
        rw [List.mem_singleton.mp hp]; exact List.mem_cons_of_mem _ (List.mem_cons_of_mem _ List.mem_cons_self)
      case hn =>
        intro p hp
        rcases List.mem_cons.mp hp with rfl | hp; exact List.mem_cons_self
        exact List.mem_cons_of_mem _ (List.mem_cons_of_mem _ (List.mem_cons_of_mem _ hp))
      case hw =>
        intro p hp
        rw [List.mem_singleton]
        rcases List.mem_cons.mp hp with rfl | hp; exact o1
        exact (cut2_off p hp).2
      case hp => exact ⟨fun p hp => hR1 p (p1 p hp), hc2, by rw [hstep, hfire]; simpa using p3⟩
    | some v =>
      rw [hfg] at hlk
      cases hb : sideL c.pass e x.sb with
      | false =>
        rw [hb] at F5
        walk_at "STEPS"
        have hfire : fireR c.pass e l c.g x = none := by unfold fireR; rw [hb]; rfl
        rename Fr _ _ _ _ => Fz
        rename News _ _ _ _ => Nz
        dsimp only [FPostT]
        refine fEndT (⟨cut2 c.fl Ia R5, fs, nf, frM Fz⟩ : LpI) Fz Nz ?hm ?ho ?hn ?hw ?hp
        case hm => exact mmF_self (c := c) rfl rfl rfl rfl rfl rfl rfl rfl rfl rfl rfl
        case ho =>
          intro p hp
          rcases List.mem_cons.mp hp with rfl | hp; exact List.mem_cons_of_mem _ List.mem_cons_self
          rw [List.mem_singleton.mp hp]; exact List.mem_cons_of_mem _ (List.mem_cons_of_mem _ List.mem_cons_self)
        case hn =>
          intro p hp
          rcases List.mem_cons.mp hp with rfl | hp; exact List.mem_cons_self
          exact List.mem_cons_of_mem _ (List.mem_cons_of_mem _ (List.mem_cons_of_mem _ hp))
        case hw =>
          intro p hp
          rw [List.mem_singleton]
          rcases List.mem_cons.mp hp with rfl | hp; exact o1
          exact (cut2_off p hp).2
        case hp => exact ⟨fun p hp => hR1 p (p1 p hp), hc2, by rw [hstep, hfire]; simpa using p3⟩
      | true =>
        rw [hb] at F5
        cases ha : sideL c.pass l x.sa with
        | false =>
          rw [ha] at F5
          walk_at "STEPS"
          have hfire : fireR c.pass e l c.g x = none := by unfold fireR; rw [hb, ha]; rfl
          rename Fr _ _ _ _ => Fz
          rename News _ _ _ _ => Nz
          dsimp only [FPostT]
          refine fEndT (⟨cut2 c.fl Ia R5, fs, nf, frM Fz⟩ : LpI) Fz Nz ?hm ?ho ?hn ?hw ?hp
          case hm => exact mmF_self (c := c) rfl rfl rfl rfl rfl rfl rfl rfl rfl rfl rfl
          case ho =>
            intro p hp
            rcases List.mem_cons.mp hp with rfl | hp; exact List.mem_cons_of_mem _ List.mem_cons_self
            rw [List.mem_singleton.mp hp]; exact List.mem_cons_of_mem _ (List.mem_cons_of_mem _ List.mem_cons_self)
          case hn =>
            intro p hp
            rcases List.mem_cons.mp hp with rfl | hp; exact List.mem_cons_self
            exact List.mem_cons_of_mem _ (List.mem_cons_of_mem _ (List.mem_cons_of_mem _ hp))
          case hw =>
            intro p hp
            rw [List.mem_singleton]
            rcases List.mem_cons.mp hp with rfl | hp; exact o1
            exact (cut2_off p hp).2
          case hp => exact ⟨fun p hp => hR1 p (p1 p hp), hc2, by rw [hstep, hfire]; simpa using p3⟩
        | true =>
          rw [ha] at F5
          walk_at "STEPS"
          have hfire : fireR c.pass e l c.g x = some v := by unfold fireR; rw [hb, ha]; exact hfg
          obtain ⟨tv, Nq⟩ : ∃ tv, News h₀ L _ ((c.fl, listOf (fs.toArray.push (Value.int v tv)) (nf + 1)) :: (Ia, oI) :: (c.tbl, listOf (tabs.map fun x => Value.ref x.tt).toArray nb) :: cut2 c.fl Ia R5) := ⟨_, by assumption⟩
          rw [List.push_toArray] at Nq
          rename Fr _ _ _ _ => Fz
          rename News _ _ _ _ => Nz
          dsimp only [FPostT]
          refine fEndT (⟨cut2 c.fl Ia R5, fs ++ [Value.int v tv], nf + 1, frM Fz⟩ : LpI) Fz Nz ?hm ?ho ?hn ?hw ?hp
          case hm => exact mmF_self (c := c) rfl rfl rfl rfl rfl rfl rfl rfl rfl rfl rfl
          case ho =>
            intro p hp
            rcases List.mem_cons.mp hp with rfl | hp; exact List.mem_cons_of_mem _ List.mem_cons_self
            rw [List.mem_singleton.mp hp]; exact List.mem_cons_of_mem _ (List.mem_cons_of_mem _ List.mem_cons_self)
          case hn =>
            intro p hp
            rcases List.mem_cons.mp hp with rfl | hp; exact List.mem_cons_self
            exact List.mem_cons_of_mem _ (List.mem_cons_of_mem _ (List.mem_cons_of_mem _ hp))
          case hw =>
            intro p hp
            rw [List.mem_singleton]
            rcases List.mem_cons.mp hp with rfl | hp; exact o1
            exact (cut2_off p hp).2
          case hp => exact ⟨fun p hp => hR1 p (p1 p hp), hc2, by rw [hstep, hfire]; exact p3.append (.cons _ _ .nil)⟩
  · rintro ⟨R1, fs, nf, r1⟩ h1 tk1 hJ0 F1 N1
    refine hideG ?_
    intro G9 kG9
    obtain ⟨p1, p2, p3⟩ := hJ0
    refine kG9 ?_
    clear kG9
    dsimp only at p1 p2 p3 F1 N1
    rw [List.length_map, List.take_length] at p3
    exact h fs nf R1 r1 h1 tk1 F1 N1 p2 p1 p3
end
end
section
example : True := by w_top off; trivial
/-! the buffer told -/
theorem glyphs_spec {w : World} {A₀ A : Around} {E : Value → Shared → Prop} {s : Shared} {base h₀ : Heap} {outer : List Env} {env : Env} {L : Addr} {m mg mb : Str → Option Value} {mean : ExcName → Option Value} {loose : List Str} {news : List (Addr × Obj)} {Q : Value → Shared → Prop}
  {x : ScD} {I : List InfoD} (C : Cx w A₀ A base h₀ outer env L mg mb mean loose 8) (F : Fr h₀ L s.heap m) (N : News h₀ L s.heap news) (S : ScIn w x news) (R : RowIn w x.rw I news)
  (h : ∀ D ws h' tk, Fr h₀ L h' m → News h₀ L h' ((D, listOf (List.toArray ws) ws.length) :: news) → IntsAre ws (I.map (·.glyph)) → Q (.ref D) { s with heap := h', toks := tk }) :
  wpAny (model pw w) A (call (.ref 166) [.ref x.bf]) Q E s := by
  obtain ⟨B, X, T, hA, hf, hke, hh, hdep, hun⟩ := C
  have S' := S
  obtain ⟨m1, m2, m3, m4, m5, m6, m7, m8, m9, m10, m11, m12, m13, m14⟩ := S'
  obtain ⟨⟨nr, r1⟩, r2, r3, r4⟩ := R
  walk_at "STEPS"
  k_dflt (refine LCg.ListComp_U (F₀ := by k_asm) (by rfl) (by decide) (by rfl) (by decide) (by rfl) ?_)
  walk_at "STEPS"
  rename Fr _ _ _ _ => kF
  rename News _ _ _ _ => kN
  refine LCg.CompSrc.ledger hh kF kN r1 (by rw [sizeLine_eq, List.size_toArray, List.length_map]; omega) ?_
  intro g9
  have hsz : (I.map fun x => Value.ref x.a).toArray.size = I.length := by rw [List.size_toArray, List.length_map]
  rw [hsz]
  simp only [List.getElem?_toArray]
  refine compInd (fun i ys nw => nw = ledOf kN ∧ IntsAre ys ((I.map (·.glyph)).take i)) ⟨rfl, .nil⟩ ?_ ?_
  · rintro i ys nw v Ib oIb Ca oC Da m₂ h3 tk3 E' hi hyl hJ0 hv hC hx F3 N3 off3 ne
    refine hideG ?_
    intro G9 kG9
    obtain ⟨rfl, e1⟩ := hJ0
    refine kG9 ?_
    clear kG9
    try dsimp only [ledOf] at N3 off3
    obtain ⟨e, hie⟩ : ∃ e, I[i]? = some e := ⟨I[i]'(by omega), by simp⟩
    obtain ⟨q1, q2⟩ := r2 e (List.mem_of_getElem? hie)
    rw [List.getElem?_map, hie] at hv
    cases Option.some.inj hv
    try k_fold
    walk_at "STEPS"
    exact cEnd (ledOf kN) (by assumption) (by assumption) (fun p hp => hp) off3 (.inr ⟨_, r1, rfl, _, rfl⟩) ⟨rfl, by rw [List.take_add_one, List.getElem?_map, hie]; exact e1.append (.cons _ _ .nil)⟩
  · rintro ys nw hyl ⟨rfl, e1⟩
    unfold LCg.FinE
    intro D1 h3 tk3 F3 N3 off3
    try dsimp only [ledOf] at N3 off3
    rw [List.take_of_length_le (by rw [List.length_map]; exact Nat.le_refl _)] at e1
    walk_at "STEPS"
    exact h _ ys _ _ (by assumption) (by assumption) e1
theorem clusters_spec {w : World} {A₀ A : Around} {E : Value → Shared → Prop} {s : Shared} {base h₀ : Heap} {outer : List Env} {env : Env} {L : Addr} {m mg mb : Str → Option Value} {mean : ExcName → Option Value} {loose : List Str} {news : List (Addr × Obj)} {Q : Value → Shared → Prop}
  {x : ScD} {I : List InfoD} (C : Cx w A₀ A base h₀ outer env L mg mb mean loose 8) (F : Fr h₀ L s.heap m) (N : News h₀ L s.heap news) (S : ScIn w x news) (R : RowIn w x.rw I news)
  (h : ∀ D ws h' tk, Fr h₀ L h' m → News h₀ L h' ((D, listOf (List.toArray ws) ws.length) :: news) → IntsAre ws (I.map (·.cluster)) → Q (.ref D) { s with heap := h', toks := tk }) :
  wpAny (model pw w) A (call (.ref 171) [.ref x.bf]) Q E s := by
  obtain ⟨B, X, T, hA, hf, hke, hh, hdep, hun⟩ := C
  have S' := S
  obtain ⟨m1, m2, m3, m4, m5, m6, m7, m8, m9, m10, m11, m12, m13, m14⟩ := S'
  obtain ⟨⟨nr, r1⟩, r2, r3, r4⟩ := R
  walk_at "STEPS"
  k_dflt (refine LCg.ListComp_U (F₀ := by k_asm) (by rfl) (by decide) (by rfl) (by decide) (by rfl) ?_)
  walk_at "STEPS"
  rename Fr _ _ _ _ => kF
  rename News _ _ _ _ => kN
  refine LCg.CompSrc.ledger hh kF kN r1 (by rw [sizeLine_eq, List.size_toArray, List.length_map]; omega) ?_
  intro g9
  have hsz : (I.map fun x => Value.ref x.a).toArray.size = I.length := by rw [List.size_toArray, List.length_map]
  rw [hsz]
  simp only [List.getElem?_toArray]
  refine compInd (fun i ys nw => nw = ledOf kN ∧ IntsAre ys ((I.map (·.cluster)).take i)) ⟨rfl, .nil⟩ ?_ ?_
  · rintro i ys nw v Ib oIb Ca oC Da m₂ h3 tk3 E' hi hyl hJ0 hv hC hx F3 N3 off3 ne
    refine hideG ?_
    intro G9 kG9
    obtain ⟨rfl, e1⟩ := hJ0
    refine kG9 ?_
    clear kG9
    try dsimp only [ledOf] at N3 off3
    obtain ⟨e, hie⟩ : ∃ e, I[i]? = some e := ⟨I[i]'(by omega), by simp⟩
    obtain ⟨q1, q2⟩ := r2 e (List.mem_of_getElem? hie)
    rw [List.getElem?_map, hie] at hv
    cases Option.some.inj hv
    try k_fold
    walk_at "STEPS"
    exact cEnd (ledOf kN) (by assumption) (by assumption) (fun p hp => hp) off3 (.inr ⟨_, r1, rfl, _, rfl⟩) ⟨rfl, by rw [List.take_add_one, List.getElem?_map, hie]; exact e1.append (.cons _ _ .nil)⟩
  · rintro ys nw hyl ⟨rfl, e1⟩
    unfold LCg.FinE
    intro D1 h3 tk3 F3 N3 off3
    try dsimp only [ledOf] at N3 off3
    rw [List.take_of_length_le (by rw [List.length_map]; exact Nat.le_refl _)] at e1
    walk_at "STEPS"
    exact h _ ys _ _ (by assumption) (by assumption) e1
end
section
example : True := by w_top off; trivial
local macro_rules | `(tactic| walk_at "NONE") => `(tactic| skip)
/-! law: one spot of the plain run -/
theorem lawS14_eq : lawS 14 = .For (tgtOf (lawS 14)) (iterOf (lawS 14)) (runT 0) [] (posFor (lawS 14)) := rfl
noncomputable abbrev mmL (la : Addr) (cnt : Int) (tc : Tok) (m : Str → Option Value) : Str → Option Value := fun y => if y = Str.ofString "later" then some (.ref la) else if y = Str.ofString "count" then some (.int cnt tc) else m y
noncomputable abbrev mmSp (k : Int) (t : Tok) (m : Str → Option Value) : Str → Option Value := fun y => if y = Str.ofString "spot" then some (.int k t) else m y
theorem pickUpto (vs : List Value) (k : Nat) : (slicePick vs.toArray none (some (k : Int)) none).toList = vs.take k := by
  have hb : sliceBounds none (some (k : Int)) none vs.toArray.size = (((0 : Nat) : Int), ((min k vs.length : Nat) : Int), 1) := by
    simp only [sliceBounds, List.size_toArray]
    have h1 : ¬ ((k : Int) < 0) := by omega
    simp [h1]
    omega
  rw [kmk_pick_nat vs.toArray hb]
  simp only [List.drop_zero, Nat.sub_zero]
  rw [List.take_eq_take_iff]
  exact Nat.min_eq_left (Nat.min_le_right _ _)
theorem lawP {w : World} {A₀ A : Around} {E : Value → Shared → Prop} {s : Shared} {base h₀ : Heap} {outer : List Env} {env : Env} {L : Addr} {mg mb : Str → Option Value} {mean : ExcName → Option Value} {loose : List Str} {R : List (Addr × Obj)} {Q : Flow → Shared → Prop}
  {fa : Addr} {cd : Value} {sc bf tbl la rl : Addr} {cnt mask g own : Int} {tc tm t0 : Tok} {pass : Bool} {r : Str → Option Value} {oR : Obj} {rows : List (Int × Int)} {k : Nat} (he : env = lawEnv L fa cd) (C : Cx w A₀ A base h₀ outer env L mg mb mean loose 50)
  (F : Fr h₀ L s.heap (mmSp (k : Int) t0 (mmL la cnt tc (mmE sc bf tbl mask tm pass r)))) (N : News h₀ L s.heap R) (hR : (L + 2, oR) ∈ R) (hR2 : oR.data = .cell (some (.ref rl))) (V : RawRow R rl rows) (hk : rows[k]? = some (g, own))
  (h : ∀ fl el to_ tg ws ne R' r' h' tk, Fr h₀ L h' (mmF ⟨fl, el, own, to_, g, tg, la, cnt, tc, sc, bf, tbl, mask, tm, pass, r'⟩) → News h₀ L h' ((fl, listOf #[] 0) :: R') → (∀ p ∈ R', p.1 ≠ fl) → (∀ p ∈ R, p ∈ R') → (el, listOf (List.toArray ws) ne) ∈ R' → IntsAre ws ((rows.map (·.1)).take k).reverse → wpAny (model pw w) A (execs (runT 3) env) Q E { s with heap := h', toks := tk }) :
  wpAny (model pw w) A (execs (runT 0) env) Q E s := by
  obtain ⟨B, X, T, hA, hf, hke, hh, hdep, hun⟩ := C
  rw [runT_0]
  generalize runT 3 = q3 at h ⊢
  unfold lawEnv at he
  conv at he in lawScope => whnf
  dsimp (config := { zeta := true }) only at he
  conv in runS 0 => whnf
  conv in runS 1 => whnf
  conv in runS 2 => whnf
  subst he
  have hlr := V.b2
  obtain ⟨nr, ps, r1, r2, r3⟩ := V.at_
  obtain ⟨tt, n', tg, to_, b1, b2⟩ := r3 k g own hk
  have b1' : ps[((k : Int)).toNat]? = some (.ref tt) := by simpa using b1
  have hsl : (slicePick ps.toArray none (some (k : Int)) none).toList = ps.take k := pickUpto ps k
  have hkl : k < rows.length := (List.getElem?_eq_some_iff.mp hk).1
  walk_at "STEPS"
  k_dflt (refine' unpackN_ (by k_asm) (by k_asm) (News.isTup (by k_asm) b2) hh (by rfl) (by rfl) ?_; k_whole)
  intro h2 F2 N2
  walk_at "STEPS"
  k_dflt (refine LCg.ListComp_U (F₀ := by k_asm) (by rfl) (by decide) (by rfl) (by decide) (by rfl) ?_)
  walk_at "STEPS"
  rename Fr _ _ _ _ => kF
  rename News _ _ _ _ => kN
  rename ∀ p ∈ R, p.1 < _ => hlt
  refine LCg.CompSrc.ledger hh kF kN List.mem_cons_self (by rw [sizeLine_eq, List.size_toArray, List.length_take]; omega) ?_
  intro g9
  have hsz : (List.take k ps).toArray.size = k := by rw [List.size_toArray, List.length_take]; omega
  rw [hsz]
  simp only [List.getElem?_toArray]
  refine compInd (fun i ys nw => nw = ledOf kN ∧ IntsAre ys ((rows.map (·.1)).take i)) ⟨rfl, .nil⟩ ?_ ?_
  · rintro i ys nw v Ib oIb Ca oC Da m₂ h3 tk3 E' hi hyl hJ0 hv hC hx F3 N3 off3 ne
    refine hideG ?_
    intro G9 kG9
    obtain ⟨rfl, e1⟩ := hJ0
    refine kG9 ?_
    clear kG9
    dsimp only [ledOf] at N3 off3
    obtain ⟨⟨g', o'⟩, hro⟩ : ∃ p, rows[i]? = some p := ⟨rows[i]'(by omega), by simp⟩
    obtain ⟨tt2, n2, tg2, to2, d1, d2⟩ := r3 i g' o' hro
    rw [List.getElem?_take_of_lt hi, d1] at hv
    cases Option.some.inj hv
    try k_fold
    walk_at "STEPS"
    exact cEnd (ledOf kN) (by assumption) (by assumption) (fun p hp => hp) off3 (.inr ⟨_, List.mem_cons_self, rfl, _, rfl⟩) ⟨rfl, by rw [List.take_add_one, List.getElem?_map, hro]; exact e1.append (.cons _ _ .nil)⟩
  · rintro ys nw hyl ⟨rfl, e1⟩
    unfold LCg.FinE
    intro D1 h3 tk3 F3 N3 off3
    dsimp only [ledOf] at N3 off3
    walk_at "STEPS"
    rename Fr _ _ _ _ => Fz
    rename News _ _ _ _ => Nz
    rename _ < _ ∧ D1 < _ ∧ _ < _ ∧ AllLt _ R => l1
    exact h _ _ to_ tg _ _ _ (frM Fz) _ _ (frCongr Fz (by walk_at "MM"; (try dsimp only [mmSp, mmL, mmE]); (repeat (refine mmN (by assumption) ?_)); try rfl)) Nz (allLtNe l1) (fun p hp => List.mem_cons_of_mem _ (List.mem_cons_of_mem _ (List.mem_cons_of_mem _ hp))) List.mem_cons_self (by assumption)
end
section
example : True := by w_top off; trivial
/-! law: one spot, asked -/
noncomputable def testOf : Stmt → Expr
  | .If t _ _ _ => t
  | _ => default
noncomputable def posIf : Stmt → Pos
  | .If _ _ _ p => p
  | _ => default
theorem runS3_eq : runS 3 = .If (testOf (runS 3)) [ifS] [] (posIf (runS 3)) := rfl
noncomputable def condR (c : RunV) : Bool := decide (Builtin.bitAnd c.own c.mask ≠ 0) && !(c.pass && mkG c.g)
theorem bitPos {a b : Int} (h1 : 1 ≤ a) (h2 : a ≤ 3) (h3 : 1 ≤ b) (h4 : b ≤ 3) : (Builtin.bitAnd a b > 0) ↔ Builtin.bitAnd a b ≠ 0 := by
  have ha : a = 1 ∨ a = 2 ∨ a = 3 := by omega
  have hb : b = 1 ∨ b = 2 ∨ b = 3 := by omega
  rcases ha with rfl | rfl | rfl <;> rcases hb with rfl | rfl | rfl <;> decide
theorem lawQ {w : World} {A₀ A : Around} {E : Value → Shared → Prop} {s : Shared} {base h₀ : Heap} {outer : List Env} {env : Env} {L : Addr} {mg mb : Str → Option Value} {mean : ExcName → Option Value} {loose : List Str} {R : List (Addr × Obj)} {Q : Flow → Shared → Prop}
  {fa : Addr} {cd : Value} {c : RunV} {tabs : List RawT} {nb : Nat} {ws zs : List Value} {e l : List Int} {n1 n2 : Nat} (he : env = lawEnv L fa cd) (hE : PassesOwn (model pw w) A env E) (C : Cx w A₀ A base h₀ outer env L mg mb mean loose 52)
  (F : Fr h₀ L s.heap (mmF c)) (N : News h₀ L s.heap ((c.fl, listOf #[] 0) :: R)) (hfl : ∀ p ∈ R, p.1 ≠ c.fl) (htb : (c.tbl, listOf (tabs.map fun x => Value.ref x.tt).toArray nb) ∈ R) (hT : ∀ x ∈ tabs, RawTIn w R x) (hl : tabs.length ≤ 2)
  (hw : (c.el, listOf ws.toArray n1) ∈ R) (hwi : IntsAre ws e) (hwl : e.length ≤ 8) (hz : (c.la, listOf zs.toArray n2) ∈ R) (hzi : IntsAre zs l) (hzl : l.length ≤ 8) (ho1 : 1 ≤ c.own) (ho2 : c.own ≤ 3) (hm1 : 1 ≤ c.mask) (hm2 : c.mask ≤ 3)
  (h : ∀ fs n R' r' h' tk, Fr h₀ L h' (mmF { c with r := r' }) → News h₀ L h' ((c.fl, listOf (List.toArray fs) n) :: R') → (∀ p ∈ R', p.1 ≠ c.fl) → (∀ p ∈ R, p ∈ R') → IntsAre fs (if condR c then tabs.filterMap (fireR c.pass e l c.g) else []) → wpAny (model pw w) A (execs (runT 4) env) Q E { s with heap := h', toks := tk }) :
  wpAny (model pw w) A (execs (runT 3) env) Q E s := by
  have C0 := C
  obtain ⟨B, X, T, hA, hf, hke, hh, hdep, hun⟩ := C
  rw [runT_3, runS3_eq]
  generalize runT 4 = q4 at h ⊢
  obtain ⟨qi, hqi⟩ : ∃ q, q = ifS := ⟨_, rfl⟩
  rw [← hqi]
  have he0 := he
  unfold lawEnv at he
  conv at he in lawScope => whnf
  dsimp (config := { zeta := true }) only at he
  conv in testOf (runS 3) => whnf
  subst he
  have hbp := bitPos ho1 ho2 hm1 hm2
  walk_at "STEPS"
  · have hc : condR c = false := by unfold condR; rw [‹c.pass = true›, ← anyMk, ‹([3, 4].any fun x => x == c.g) = true›]; simp
    exact h [] 0 R c.r _ _ (by assumption) (News.subl (l' := (c.fl, listOf #[] 0) :: R) (by assumption) (by walk_at "SUB")) hfl (fun _ hp => hp) (by rw [hc]; exact .nil)
  · rename Fr _ _ _ _ => Fz
    rename News _ _ _ _ => Nz
    have hc : condR c = true := by unfold condR; rw [‹c.pass = true›, ← anyMk, ‹([3, 4].any fun x => x == c.g) = false›]; simpa using hbp.mp ‹_›
    subst hqi
    refine lawIn he0 hE ⟨B, X, T, hA, hf, hke, hh, by omega, by omega⟩ Fz (News.subl (l' := (c.fl, listOf #[] 0) :: R) Nz (by walk_at "SUB")) hfl htb hT hl hw hwi hwl hz hzi hzl ?_
    intro fs n R' r' h' tk F' N' q1 q2 q3
    walk_at "STEPS"
    exact h fs n R' r' _ _ F' N' q1 q2 (by rw [hc]; exact q3)
  · rename Fr _ _ _ _ => Fz
    rename News _ _ _ _ => Nz
    have hc : condR c = true := by unfold condR; rw [‹c.pass = false›]; simpa using hbp.mp ‹_›
    subst hqi
    refine lawIn he0 hE ⟨B, X, T, hA, hf, hke, hh, by omega, by omega⟩ Fz (News.subl (l' := (c.fl, listOf #[] 0) :: R) Nz (by walk_at "SUB")) hfl htb hT hl hw hwi hwl hz hzi hzl ?_
    intro fs n R' r' h' tk F' N' q1 q2 q3
    walk_at "STEPS"
    exact h fs n R' r' _ _ F' N' q1 q2 (by rw [hc]; exact q3)
  · have hc : condR c = false := by unfold condR; rw [decide_eq_false (by intro q; exact absurd (hbp.mpr q) ‹_›)]; rfl
    exact h [] 0 R c.r _ _ (by assumption) (News.subl (l' := (c.fl, listOf #[] 0) :: R) (by assumption) (by walk_at "SUB")) hfl (fun _ hp => hp) (by rw [hc]; exact .nil)
end
section
example : True := by w_top off; trivial
local macro_rules | `(tactic| walk_at "NONE") => `(tactic| skip)
/-! law: one spot, told -/
theorem lawU_end {h₀ h' : Heap} {L D : Addr} {ct : Int} {tk : Tok} {c : RunV} (F : Fr h₀ L h' (fun y => if y = Str.ofString "later" then some (.ref D) else if y = Str.ofString "count" then some (.int ct tk) else mmF c y)) : ∃ r', Fr h₀ L h' (mmL D ct tk (mmE c.sc c.bf c.tbl c.mask c.tm c.pass r')) := by
  refine ⟨frM F, frCongr F ?_⟩
  walk_at "MM"
  (try dsimp only [mmF, mmE]); (repeat (refine mmN (by assumption) ?_)); try rfl
theorem lawU {w : World} {A₀ A : Around} {E : Value → Shared → Prop} {s : Shared} {base h₀ : Heap} {outer : List Env} {env : Env} {L : Addr} {mg mb : Str → Option Value} {mean : ExcName → Option Value} {loose : List Str} {R : List (Addr × Obj)} {Q : Flow → Shared → Prop}
  {fa : Addr} {cd : Value} {c : RunV} {fs zs : List Value} {fi l : List Int} {n n2 : Nat} (he : env = lawEnv L fa cd) (C : Cx w A₀ A base h₀ outer env L mg mb mean loose 50)
  (F : Fr h₀ L s.heap (mmF c)) (N : News h₀ L s.heap R) (hf9 : (c.fl, listOf fs.toArray n) ∈ R) (hfi : IntsAre fs fi) (hfl : fi.length ≤ 8) (hz : (c.la, listOf zs.toArray n2) ∈ R) (hzi : IntsAre zs l) (hzl : l.length ≤ 8)
  (h : ∀ la' zs' n' tc' R' r' h' tk, Fr h₀ L h' (mmL la' (c.cnt + if fi = [] then 0 else 1) tc' (mmE c.sc c.bf c.tbl c.mask c.tm c.pass r')) → News h₀ L h' R' → (∀ p ∈ R, p ∈ R') → (la', listOf (List.toArray zs') n') ∈ R' → IntsAre zs' (fi.headD c.g :: l) → Q .next { s with heap := h', toks := tk }) :
  wpAny (model pw w) A (execs (runT 4) env) Q E s := by
  obtain ⟨B, X, T, hA, hf, hke, hh, hdep, hun⟩ := C
  rw [runT_4]
  unfold lawEnv at he
  conv at he in lawScope => whnf
  dsimp (config := { zeta := true }) only at he
  conv in runS 4 => whnf
  conv in runS 5 => whnf
  subst he
  have hfl' := hfi.length
  have hzl' := hzi.length
  cases fi with
  | nil =>
    cases fs with
    | cons _ _ => simp at hfl'
    | nil =>
      walk_at "STEPS"
      rename Fr _ _ _ _ => Fz
      rename News _ _ _ _ => Nz
      rename IntsAre _ _ => hI9
      obtain ⟨r', F9⟩ := lawU_end Fz
      exact h _ _ _ _ _ r' _ _ F9 Nz (by walk_at "SUB") List.mem_cons_self hI9
  | cons g0 gr =>
    obtain ⟨t0, hy0⟩ := hfi.get 0 g0 rfl
    replace N := News.subl (l' := (c.fl, listOf fs.toArray n) :: R) N fun p hp => by
      rcases List.mem_cons.mp hp with rfl | hp
      · exact hf9
      · exact hp
    walk_at "STEPS"
    rename Fr _ _ _ _ => Fz
    rename News _ _ _ _ => Nz
    rename IntsAre _ _ => hI9
    obtain ⟨r', F9⟩ := lawU_end Fz
    exact h _ _ _ _ _ r' _ _ F9 Nz (by walk_at "SUB") List.mem_cons_self hI9
end
section
example : True := by w_top off; trivial
/-! law: the plain run -/
structure LpE where
  R : List (Addr × Obj)
  la : Addr
  zs : List Value
  n : Nat
  cnt : Int
  tc : Tok
  r : Str → Option Value
theorem stepProc {pass : Bool} {ts : List TabD} {mask : Int} {rows : List (Int × Int)} {j k : Nat} {g own : Int} {fi : List Int} (hk : k + (j + 1) = rows.length) (hr : rows[k]? = some (g, own))
    (hfi : fi.head? = newG pass ts mask ((rows.map (·.1)).take k).reverse (proc pass ts mask rows j).1 g own) :
    proc pass ts mask rows (j + 1) = (fi.headD g :: (proc pass ts mask rows j).1, (proc pass ts mask rows j).2 + if fi = [] then 0 else 1) := by
  rw [proc_succ hk hr, ← hfi]
  cases fi with
  | nil => simp
  | cons a b => simp
theorem lawE_start {h₀ h' : Heap} {L D : Addr} {ct : Int} {tk : Tok} {m : Str → Option Value} (F : Fr h₀ L h' (fun y => if y = Str.ofString "count" then some (.int ct tk) else if y = Str.ofString "later" then some (.ref D) else m y)) : Fr h₀ L h' (mmL D ct tk m) := by
  refine frCongr F ?_
  walk_at "MM"
theorem lawE {w : World} {A₀ A : Around} {E : Value → Shared → Prop} {s : Shared} {base h₀ : Heap} {outer : List Env} {env : Env} {L : Addr} {mg mb : Str → Option Value} {mean : ExcName → Option Value} {loose : List Str} {R : List (Addr × Obj)} {Q : Flow → Shared → Prop}
  {fa : Addr} {cd : Value} {sc bf tbl rl : Addr} {mask : Int} {tm : Tok} {pass : Bool} {r : Str → Option Value} {oR : Obj} {rows : List (Int × Int)} {tabs : List RawT} {ts : List TabD} {nb : Nat} (he : env = lawEnv L fa cd) (hE : PassesOwn (model pw w) A env E) (C : Cx w A₀ A base h₀ outer env L mg mb mean loose 60)
  (F : Fr h₀ L s.heap (mmE sc bf tbl mask tm pass r)) (N : News h₀ L s.heap R) (hR : (L + 2, oR) ∈ R) (hR2 : oR.data = .cell (some (.ref rl))) (V : RawRow R rl rows)
  (htb : (tbl, listOf (tabs.map fun x => Value.ref x.tt).toArray nb) ∈ R) (hT : ∀ x ∈ tabs, RawTIn w R x) (hl : tabs.length ≤ 2) (hfire : ∀ e l g, ts.findSome? (fireL pass e l g) = tabs.findSome? (fireR pass e l g)) (hm1 : 1 ≤ mask) (hm2 : mask ≤ 3)
  (h : ∀ la zs n tc R' r' h' tk, Fr h₀ L h' (mmL la (proc pass ts mask rows rows.length).2 tc (mmE sc bf tbl mask tm pass r')) → News h₀ L h' R' → (∀ p ∈ R, p ∈ R') → (la, listOf (List.toArray zs) n) ∈ R' → IntsAre zs (proc pass ts mask rows rows.length).1 → wpAny (model pw w) A (execs (lawT 15) env) Q E { s with heap := h', toks := tk }) :
  wpAny (model pw w) A (execs (lawT 12) env) Q E s := by
  obtain ⟨B, X, T, hA, hf, hke, hh, hdep, hun⟩ := C
  rw [lawT_12, lawS14_eq]
  generalize lawT 15 = q15 at h ⊢
  obtain ⟨q0, hq⟩ : ∃ q, q = runT 0 := ⟨_, rfl⟩
  rw [← hq]
  have he0 := he
  unfold lawEnv at he
  conv at he in lawScope => whnf
  dsimp (config := { zeta := true }) only at he
  conv in lawS 12 => whnf
  conv in lawS 13 => whnf
  conv in tgtOf (lawS 14) => whnf
  conv in iterOf (lawS 14) => whnf
  subst he
  have hlr := V.b2
  obtain ⟨nr, ps, r1, r2, r3⟩ := V.at_
  walk_at "STEPS"
  walk_at "FORE"
  walk_at "STEPS"
  rename IsRange _ _ _ _ _ _ _ _ => hrg
  rename Fr _ _ _ _ => kF
  rename News _ _ _ _ => kN
  replace kF := lawE_start kF
  refine forRangeX (n := ps.length) (fun (d : LpE) => mmL d.la d.cnt d.tc (mmE sc bf tbl mask tm pass d.r)) (fun d => d.R)
    (fun i d => (∀ p ∈ R, p ∈ d.R) ∧ (d.la, listOf d.zs.toArray d.n) ∈ d.R ∧ IntsAre d.zs (proc pass ts mask rows i).1 ∧ d.cnt = (proc pass ts mask rows i).2)
    ⟨_, _, [], 0, 0, _, r⟩ hh hrg (small_down (by omega) (by omega) (by omega) (by omega)) (by rw [rangeSize_downNat]; omega) kF kN (fun _ _ => rfl) (fun _ hp => hp) ⟨fun p hp => List.mem_cons_of_mem _ hp, List.mem_cons_self, .nil, rfl⟩ ?_ ?_
  · rintro i t' ⟨R1, la, zs, n1, cnt, tc, rr⟩ h2 tk2 Ia pr qr hin hJ0 off F2 N2
    refine hideG ?_
    intro G9 kG9
    obtain ⟨p1, p2, p3, p4⟩ := hJ0
    refine kG9 ?_
    clear kG9
    dsimp only at p1 p2 p3 p4 off F2 N2 ⊢
    clear kF kN
    obtain ⟨k, hk⟩ : ∃ k, k + (i + 1) = rows.length := ⟨rows.length - (i + 1), by omega⟩
    rw [show ((ps.length : Int) - 1 + (i : Int) * -1) = (k : Int) by omega] at F2
    obtain ⟨⟨g, own⟩, hro⟩ : ∃ p, rows[k]? = some p := ⟨rows[k]'(by omega), by simp⟩
    obtain ⟨g1, ow1, ow2⟩ := V.b3 _ (List.mem_of_getElem? hro)
    have hpl := proc_len (pass := pass) (ts := ts) (mask := mask) (rows := rows) i (by omega)
    have up1 : ∀ p ∈ R, p ∈ (Ia, ritOf pr qr (-1)) :: R1 := fun p hp => List.mem_cons_of_mem _ (p1 p hp)
    subst hq
    refine lawP he0 ⟨B, X, T, hA, hf, hke, hh, by omega, by omega⟩ F2 N2 (up1 _ hR) hR2 (V.mono up1) hro ?_
    intro fl el to_ tg ws ne R3 r3' h3 tk3 F3 N3 f3 s3 hel hwi
    have hel8 : ((rows.map (·.1)).take k).reverse.length ≤ 8 := by rw [List.length_reverse, List.length_take, List.length_map]; omega
    refine lawQ he0 hE ⟨B, X, T, hA, hf, hke, hh, by omega, by omega⟩ F3 N3 f3 (s3 _ (up1 _ htb)) (fun x hx => (hT x hx).mono fun p hp => s3 p (up1 p hp)) hl hel hwi hel8 (s3 _ (List.mem_cons_of_mem _ p2)) p3 (by omega) ow1 ow2 hm1 hm2 ?_
    intro fs n4 R4 r4 h4 tk4 F4 N4 f4 s4 hfi
    have hfl : (if condR ⟨fl, el, own, to_, g, tg, la, cnt, tc, sc, bf, tbl, mask, tm, pass, r3'⟩ then tabs.filterMap (fireR pass ((rows.map (·.1)).take k).reverse (proc pass ts mask rows i).1 g) else []).length ≤ 8 := by
      split
      · exact Nat.le_trans (List.length_filterMap_le _ _) (by omega)
      · exact Nat.zero_le _
    refine lawU he0 ⟨B, X, T, hA, hf, hke, hh, by omega, by omega⟩ F4 N4 List.mem_cons_self hfi hfl (List.mem_cons_of_mem _ (s4 _ (s3 _ (List.mem_cons_of_mem _ p2)))) p3 (by omega) ?_
    intro la5 zs5 n5 tc5 R5 r5 h5 tk5 F5 N5 s5 hla hzi
    have hp := stepProc (pass := pass) (ts := ts) (mask := mask) (j := i) (fi := if condR ⟨fl, el, own, to_, g, tg, la, cnt, tc, sc, bf, tbl, mask, tm, pass, r3'⟩ then tabs.filterMap (fireR pass ((rows.map (·.1)).take k).reverse (proc pass ts mask rows i).1 g) else []) hk hro (by
      unfold condR newG
      dsimp only
      split
      · rw [List.head?_filterMap, hfire]
      · rfl)
    have up5 : ∀ p ∈ (Ia, ritOf pr qr (-1)) :: R1, p ∈ R5 := fun p hp => s5 p (List.mem_cons_of_mem _ (s4 p (s3 p hp)))
    have hIn := up5 _ List.mem_cons_self
    have hla5 : la5 ≠ Ia := newsNe N5 hla hIn (ritNe (by rfl) (by rfl))
    have F6 : Fr h₀ L h5 (mmL la5 (proc pass ts mask rows (i + 1)).2 tc5 (mmE sc bf tbl mask tm pass r5)) := by rw [hp, ← p4]; exact F5
    dsimp only [FPost]
    refine' fEnd (⟨List.filter (fun p => decide (p.1 ≠ Ia)) R5, la5, zs5, n5, (proc pass ts mask rows (i + 1)).2, tc5, r5⟩ : LpE) F6 N5 ?hm ?ho ?hn ?hw ?hp
    case hm => exact fun _ _ => rfl
    case ho => intro p hp; rw [List.mem_singleton.mp hp]; exact hIn
    case hn => exact fun p hp => (List.mem_filter.mp hp).1
    case hw => intro p hp; simpa using (List.mem_filter.mp hp).2
    case hp =>
      refine ⟨fun p hp => List.mem_filter.mpr ⟨up5 _ (List.mem_cons_of_mem _ (p1 p hp)), decide_eq_true (off p (p1 p hp))⟩, List.mem_filter.mpr ⟨hla, decide_eq_true hla5⟩, ?_, rfl⟩
      dsimp only
      rw [hp]; exact hzi
  · rintro ⟨R1, la, zs, n1, cnt, tc, rr⟩ h2 tk2 u hJ0 F2 N2
    refine hideG ?_
    intro G9 kG9
    obtain ⟨p1, p2, p3, p4⟩ := hJ0
    refine kG9 ?_
    clear kG9
    dsimp only at p1 p2 p3 p4 F2 N2 ⊢
    rw [r2] at p3 p4
    subst p4
    walk_at "STEPS"
    exact h la zs n1 tc R1 (frM F2) _ _ (frCongr F2 (by walk_at "MM"; (try dsimp only [mmL, mmE]); (repeat (refine mmN (by assumption) ?_)); try rfl)) N2 p1 p2 p3
end
section
example : True := by w_top off; trivial
theorem passes_spec {w : World} {A₀ A : Around} {E : Value → Shared → Prop} {s : Shared} {base h₀ : Heap} {outer : List Env} {env : Env} {L : Addr} {m mg mb : Str → Option Value} {mean : ExcName → Option Value} {loose : List Str} {news : List (Addr × Obj)} {Q : Value → Shared → Prop}
  {x : ScD} {I : List InfoD} {i : Nat} {e : InfoD} {ti : Tok} (C : Cx w A₀ A base h₀ outer env L mg mb mean loose 6) (F : Fr h₀ L s.heap m) (N : News h₀ L s.heap news) (S : ScIn w x news) (R : RowIn w x.rw I news) (hi : I[i]? = some e)
  (h : ∀ h' tk, Fr h₀ L h' m → News h₀ L h' news → Q (.bool (x.pass && mkG e.glyph)) { s with heap := h', toks := tk }) :
  wpAny (model pw w) A (call (.ref 97) [.ref x.sc, .int (i : Int) ti]) Q E s := by
  obtain ⟨B, X, T, hA, hf, hke, hh, hdep, hun⟩ := C
  obtain ⟨m1, m2, m3, m4, m5, m6, m7, m8, m9, m10, m11, m12, ⟨kvs, m13, m13'⟩, m14⟩ := S
  obtain ⟨⟨nr, r1⟩, r2, r3, r4⟩ := R
  obtain ⟨q1, q2⟩ := r2 e (List.mem_of_getElem? hi)
  have hx : (I.map fun x => Value.ref x.a)[((i : Int)).toNat]? = some (.ref e.a) := by simp [hi]
  have hil : i < I.length := (List.getElem?_eq_some_iff.mp hi).1
  cases hp : x.pass <;> cases hm : mkG e.glyph <;> (
    have hcl := m14 e.glyph
    simp only [hm, if_true, if_false, Bool.false_eq_true] at hcl
    have hr : (Spec.lookup (.int e.glyph) x.D3).getD (.int 0) = .int (if mkG e.glyph then 3 else 0) := by simp [hcl, hm]
    simp only [hm, if_true, if_false, Bool.false_eq_true] at hr
    simp only [luEs, hp, if_true, if_false, Bool.false_eq_true] at m10
    simp only [hp, hm, Bool.and_true, Bool.and_false, Bool.false_and, Bool.true_and] at h)
  all_goals (k_steps; (try exact h _ _ (by assumption) (News.subl (by assumption) (by k_sub))))
end
section
example : True := by w_top off; trivial
local macro_rules | `(tactic| walk_at "subscriptTail") => `(tactic| (k_here; (with_reducible show wpAny _ _ (subscriptTail _ _ (Value.ref _) (Value.int _ _)) _ _ _); k_dflt (refine' item_TI ?N ?mm ?ii ?a ?b ?d ?_; (case N => k_asm); (case mm => k_mem); (case ii => assumption); (case a | b | d => omega); k_whole; intro _)))
theorem index_spec {w : World} {A₀ A : Around} {E : Value → Shared → Prop} {s : Shared} {base h₀ : Heap} {outer : List Env} {env : Env} {L : Addr} {m mg mb : Str → Option Value} {mean : ExcName → Option Value} {loose : List Str} {news : List (Addr × Obj)} {Q : Value → Shared → Prop}
  {cv : Addr} {gs : List Int} {g : Int} {tg : Tok} (C : Cx w A₀ A base h₀ outer env L mg mb mean loose 4) (F : Fr h₀ L s.heap m) (N : News h₀ L s.heap news) (V : CovIn w cv gs news)
  (h : ∀ r t h' tk, (0 ≤ r ↔ g ∈ gs) → Fr h₀ L h' m → News h₀ L h' news → Q (.int r t) { s with heap := h', toks := tk }) :
  wpAny (model pw w) A (call (.ref 598) [.ref cv, .int g tg]) Q E s := by
  obtain ⟨B, X, T, hA, hf, hke, hh, hdep, hun⟩ := C
  obtain ⟨⟨dcv, tp, kk, n, vs, m1, m2, m3, hi⟩, S, hlen⟩ := V
  have hvl : vs.length = gs.length := hi.length
  walk_at "STEPS"
  rename Fr _ _ _ _ => kF'
  rename News _ _ _ _ => kN'
  refine whileX (mmOf kF' fun rest (c : Int × Tok × Int × Tok × Option Value) y => if y = Str.ofString "high" then some (.int c.2.2.1 c.2.2.2.1) else if y = Str.ofString "low" then some (.int c.1 c.2.1) else if y = Str.ofString "middle" then c.2.2.2.2 else rest y)
    (fun _ => news) (fun c => IxP gs g c.1 c.2.2.1) (fun c => (c.2.2.1 - c.1).toNat) (0, _, (vs.length : Int), _, none) kF' kN' (by walk_at "MM") (fun _ hp => hp) (by rw [hvl]; exact IxP.start gs g) ?_
  rintro ⟨lo, tl, hi', th, u⟩ hp' tk' P' F' N'
  dsimp only [mmOf] at F' P' ⊢
  clear kF' kN'
  have b0 := P'.h0
  have b1 := P'.h1
  have b2 := P'.h2
  try k_fold
  walk_at "STEPS"
  · have b3 := mid_bounds b0 ‹lo < hi'›
    refine' wEnd ((lo + hi').fdiv 2 + 1, _, hi', th, _) (by assumption) (by assumption) ?hm (fun _ hp => hp) (P'.up S ‹_› ‹_›) ?mu
    (case hm => walk_at "MM")
    (case mu => dsimp only; omega)
  · have b3 := mid_bounds b0 ‹lo < hi'›
    refine' wEnd (lo, tl, (lo + hi').fdiv 2, _, _) (by assumption) (by assumption) ?hm (fun _ hp => hp) (P'.down S ‹_› ‹_›) ?mu
    (case hm => walk_at "MM")
    (case mu => dsimp only; omega)
  · exact h _ _ _ _ ⟨fun _ => P'.hit ‹_› (by omega) ‹_›, fun _ => b0⟩ (by assumption) (by assumption)
  · exact h _ _ _ _ ⟨fun e => absurd e (by decide), fun e => absurd e (P'.miss S ‹_› (fun z => absurd z.2 ‹_›))⟩ (by assumption) (by assumption)
  · exact h _ _ _ _ ⟨fun e => absurd e (by decide), fun e => absurd e (P'.miss S ‹_› (fun z => absurd z.1 (by omega)))⟩ (by assumption) (by assumption)
end
section
example : True := by w_top off; trivial
local macro_rules | `(tactic| walk_at "NONE") => `(tactic| skip)
local macro_rules | `(tactic| walk_at "call ref") => `(tactic| (k_here; (with_reducible show wpAny _ _ (call (Value.ref 598) _) _ _ _); k_dflt (refine' index_spec ?C ?F ?N ?V ?_; (case F | N => k_asm); (case C => walk_at "CX"); (case V => walk_at "DATA"); intro r' t' h' tk' hr' F' N'; (try k_sweep))))
theorem has_spec {w : World} {A₀ A : Around} {E : Value → Shared → Prop} {s : Shared} {base h₀ : Heap} {outer : List Env} {env : Env} {L : Addr} {m mg mb : Str → Option Value} {mean : ExcName → Option Value} {loose : List Str} {news : List (Addr × Obj)} {Q : Value → Shared → Prop}
  {cv : Addr} {gs : List Int} {g : Int} {tg : Tok} (C : Cx w A₀ A base h₀ outer env L mg mb mean loose 6) (F : Fr h₀ L s.heap m) (N : News h₀ L s.heap news) (V : CovIn w cv gs news)
  (h : ∀ h' tk, Fr h₀ L h' m → News h₀ L h' news → Q (.bool (decide (g ∈ gs))) { s with heap := h', toks := tk }) :
  wpAny (model pw w) A (call (.ref 605) [.ref cv, .int g tg]) Q E s := by
  obtain ⟨B, X, T, hA, hf, hke, hh, hdep, hun⟩ := C
  have V' := V
  obtain ⟨⟨dcv, tp, kk, n, vs, m1, m2, m3, hi⟩, S, hlen⟩ := V'
  walk_at "STEPS"
  rw [decide_eq_decide.mpr (by assumption)]
  exact h _ _ (by assumption) (by assumption)
end
section
example : True := by w_top off; trivial
local macro_rules | `(tactic| walk_at "call ref") => `(tactic| (k_here; (with_reducible show wpAny _ _ (call (Value.ref 605) _) _ _ _); k_dflt (refine' has_spec ?C ?F ?N ?V ?_; (case F | N => k_asm); (case C => walk_at "CX"); (case V => walk_at "DATA"); intro h' tk' F' N'; (try k_sweep))))
theorem fits_spec {w : World} {A₀ A : Around} {E : Value → Shared → Prop} {s : Shared} {base h₀ : Heap} {outer : List Env} {env : Env} {L : Addr} {m mg mb : Str → Option Value} {mean : ExcName → Option Value} {loose : List Str} {news : List (Addr × Obj)} {Q : Value → Shared → Prop}
  {cv tt : Addr} {n : Nat} {k1 : Tok} {gs : List Int} {g : Int} {tg : Tok} (C : Cx w A₀ A base h₀ outer env L mg mb mean loose 8) (F : Fr h₀ L s.heap m) (N : News h₀ L s.heap news) (V : CovIn w cv gs news) (ht : (tt, tupOf [Value.str (Str.ofString "cover") k1, Value.ref cv].toArray n) ∈ news)
  (h : ∀ h' tk, Fr h₀ L h' m → News h₀ L h' news → Q (.bool (decide (g ∈ gs))) { s with heap := h', toks := tk }) :
  wpAny (model pw w) A (call (.ref 257) [.ref tt, .int g tg]) Q E s := by
  obtain ⟨B, X, T, hA, hf, hke, hh, hdep, hun⟩ := C
  have V' := V
  obtain ⟨⟨dcv, tp, kk, n, vs, m1, m2, m3, hi⟩, S, hlen⟩ := V'
  walk_at "STEPS"
  exact h _ _ (by assumption) (by assumption)
local macro_rules | `(tactic| walk_at "call ref") => `(tactic| (k_here; (with_reducible show wpAny _ _ (call (Value.ref 97) _) _ _ _); k_dflt (refine' passes_spec ?C ?F ?N ?S ?R ?i ?_; (case F | N => k_asm); (case C => walk_at "CX"); (case S | R => walk_at "DATA"); (case i => assumption); intro h' tk' F' N'; (try k_sweep))))
theorem takes_spec {w : World} {A₀ A : Around} {E : Value → Shared → Prop} {s : Shared} {base h₀ : Heap} {outer : List Env} {env : Env} {L : Addr} {m mg mb : Str → Option Value} {mean : ExcName → Option Value} {loose : List Str} {news : List (Addr × Obj)} {Q : Value → Shared → Prop}
  {x : ScD} {I : List InfoD} {i : Nat} {e : InfoD} {ti : Tok} (C : Cx w A₀ A base h₀ outer env L mg mb mean loose 8) (F : Fr h₀ L s.heap m) (N : News h₀ L s.heap news) (S : ScIn w x news) (R : RowIn w x.rw I news) (hi : I[i]? = some e)
  (h : ∀ h' tk, Fr h₀ L h' m → News h₀ L h' news → Q (.bool (decide (Builtin.bitAnd e.mask x.mask ≠ 0) && !(x.pass && mkG e.glyph))) { s with heap := h', toks := tk }) :
  wpAny (model pw w) A (call (.ref 104) [.ref x.sc, .int (i : Int) ti]) Q E s := by
  obtain ⟨B, X, T, hA, hf, hke, hh, hdep, hun⟩ := C
  have S' := S
  have R' := R
  obtain ⟨m1, m2, m3, m4, m5, m6, m7, m8, m9, m10, m11, m12, ⟨kvs, m13, m13'⟩, m14⟩ := S'
  obtain ⟨⟨nr, r1⟩, r2, r3, r4⟩ := R'
  obtain ⟨q1, q2⟩ := r2 e (List.mem_of_getElem? hi)
  have hx : (I.map fun x => Value.ref x.a)[((i : Int)).toNat]? = some (.ref e.a) := by simp [hi]
  have hil : i < I.length := (List.getElem?_eq_some_iff.mp hi).1
  walk_at "STEPS"
  · have e1 : (!(x.pass && mkG e.glyph)) = (decide (Builtin.bitAnd e.mask x.mask ≠ 0) && !(x.pass && mkG e.glyph)) := by simp [show Builtin.bitAnd e.mask x.mask ≠ 0 by assumption]
    rw [e1]
    exact h _ _ (by assumption) (by assumption)
  · have e1 : (Builtin.bitAnd e.mask x.mask != 0) = (decide (Builtin.bitAnd e.mask x.mask ≠ 0) && !(x.pass && mkG e.glyph)) := by simp [show Builtin.bitAnd e.mask x.mask = 0 by assumption]
    rw [e1]
    exact h _ _ (by assumption) (by assumption)
end
section
example : True := by w_top off; trivial
theorem notin_kinds {prog : Program} {w : World} {A : Around} {E : Value → Shared → Prop} {s : Shared} {h₀ : Heap} {L : Addr} {m : Str → Option Value} {K : Frag} {t : Addr} {dd : Option Addr} {sl : Array (Option Value)} {n : Nat} {a b c : Str} {ta tb tc u : Tok} {x : Str} {Q : Value → Shared → Prop}
  (F : Fr h₀ L s.heap m) (X : K.In h₀) (hl : K.lookup t = some ⟨.type "tuple", dd, .seq [Value.str a ta, Value.str b tb, Value.str c tc].toArray n, sl⟩) (hx : ([a, b, c].any (· == x)) = false)
  (h : Q (.bool true) s) : wpAny (model prog w) A (compareOp .NotIn (.str x u) (.ref t)) Q E s :=
  notin_tuple_strs (ys := [a, b, c]) (tupK (X.keeps F.keep) hl) (.cons a ta (.cons b tb (.cons c tc .nil))) (by rw [hx]; exact h)
local macro_rules | `(tactic| walk_at "compareOp NotIn str ref") => `(tactic| (k_here; k_dflt (refine' notin_kinds ?F ?X ?l ?x ?_; (case F | X => k_asm); (case l => k_is); (case x => decide))))
theorem borne_spec {w : World} {A₀ A : Around} {E : Value → Shared → Prop} {s : Shared} {base h₀ : Heap} {outer : List Env} {env : Env} {L : Addr} {m mg mb : Str → Option Value} {mean : ExcName → Option Value} {loose : List Str} {news : List (Addr × Obj)} {Q : Value → Shared → Prop}
  {x : ScD} {e : InfoD} (C : Cx w A₀ A base h₀ outer env L mg mb mean loose 4) (F : Fr h₀ L s.heap m) (N : News h₀ L s.heap news) (S : ScIn w x news) (q1 : (e.a, instObj 142 e.d) ∈ news) (q2 : (e.d, dictOf (infoEs w.params e) 16) ∈ news)
  (h : ∀ b h' tk, Fr h₀ L h' m → News h₀ L h' news → Q (.bool b) { s with heap := h', toks := tk }) :
  wpAny (model pw w) A (call (.ref 264) [.ref x.sc, .ref e.a]) Q E s := by
  obtain ⟨B, X, T, hA, hf, hke, hh, hdep, hun⟩ := C
  obtain ⟨m1, m2, m3, m4, m5, m6, m7, m8, m9, m10, m11, m12, ⟨kvs, m13, m13'⟩, m14⟩ := S
  walk_at "STEPS"
  exact h _ _ _ (by assumption) (by assumption)
local macro_rules | `(tactic| walk_at "call ref") => `(tactic| (k_here; (with_reducible show wpAny _ _ (call (Value.ref 264) _) _ _ _); k_dflt (refine' borne_spec ?C ?F ?N ?S ?q1 ?q2 ?_; (case F | N => k_asm); (case C => walk_at "CX"); (case S => walk_at "DATA"); (case q1 | q2 => k_mem); intro b' h' tk' F' N'; (try k_sweep))))
local macro_rules | `(tactic| walk_at "call ref") => `(tactic| (k_here; (with_reducible show wpAny _ _ (call (Value.ref 97) _) _ _ _); k_dflt (refine' passes_spec ?C ?F ?N ?S ?R ?i ?_; (case F | N => k_asm); (case C => walk_at "CX"); (case S | R => walk_at "DATA"); (case i => assumption); intro h' tk' F' N'; (try k_sweep))))
local macro_rules | `(tactic| walk_at "call ref") => `(tactic| (k_here; (with_reducible show wpAny _ _ (call (Value.ref 257) _) _ _ _); k_dflt (refine' fits_spec ?C ?F ?N ?V ?t ?_; (case F | N => k_asm); (case C => walk_at "CX"); (case V => walk_at "DATA"); (case t => k_mem); intro h' tk' F' N'; (try k_sweep))))
theorem found_spec {w : World} {A₀ A : Around} {E : Value → Shared → Prop} {s : Shared} {base h₀ : Heap} {outer : List Env} {env : Env} {L : Addr} {m mg mb : Str → Option Value} {mean : ExcName → Option Value} {loose : List Str} {news : List (Addr × Obj)} {Q : Value → Shared → Prop}
  {x : ScD} {I : List InfoD} {i : Nat} {step : Int} {ti ts : Tok} {cv tt : Addr} {n : Nat} {k1 : Tok} {gs : List Int} (C : Cx w A₀ A base h₀ outer env L mg mb mean loose 10) (F : Fr h₀ L s.heap m) (N : News h₀ L s.heap news) (S : ScIn w x news) (R : RowIn w x.rw I news)
  (V : CovIn w cv gs news) (ht : (tt, tupOf [Value.str (Str.ofString "cover") k1, Value.ref cv].toArray n) ∈ news) (hi : i < I.length) (hs : step = 1 ∨ step = -1) (h0 : 0 ∉ gs)
  (h : ∀ r t h' tk, (0 ≤ r ↔ nx x.pass (dl step (I.map (·.glyph)) ((i : Int) + step)) ∈ gs) → -1 ≤ r → r < (I.length : Int) → Fr h₀ L h' m → News h₀ L h' news → Q (.int r t) { s with heap := h', toks := tk }) :
  wpAny (model pw w) A (call (.ref 271) [.ref x.sc, .int (i : Int) ti, .int step ts, .ref tt, .ref 240, .bool false]) Q E s := by
  obtain ⟨B, X, T, hA, hf, hke, hh, hdep, hun⟩ := C
  have S' := S
  have R' := R
  obtain ⟨m1, m2, m3, m4, m5, m6, m7, m8, m9, m10, m11, m12, ⟨kvs, m13, m13'⟩, m14⟩ := S'
  obtain ⟨⟨nr, r1⟩, r2, r3, r4⟩ := R'
  have hln : (I.map fun x => Value.ref x.a).length = I.length := List.length_map _
  walk_at "STEPS"
  rename Fr _ _ _ _ => kF'
  rename News _ _ _ _ => kN'
  refine whileX (mmOf kF' fun rest (c : Int × Tok × Option Value) y => if y = Str.ofString "here" then some (.int c.1 c.2.1) else if y = Str.ofString "info" then c.2.2 else rest y)
    (fun _ => news) (fun c => FaP x.pass (I.map (·.glyph)) step c.1 (nx x.pass (dl step (I.map (·.glyph)) ((i : Int) + step)))) (fun c => if step = 1 then (I.length : Int).toNat - c.1.toNat else (c.1 + 1).toNat) ((i : Int) + step, _, none) kF' kN' (by walk_at "MM") (fun _ hp => hp) ⟨by omega, by simp only [List.length_map]; omega, ⟨fun e => by omega, fun e => by simp only [List.length_map]; omega⟩, rfl⟩ ?_
  rintro ⟨here, tl, u⟩ hp' tk' P' F' N'
  dsimp only [mmOf] at F' P' ⊢
  clear kF' kN'
  have b1 := P'.lo
  have b2 := P'.hi
  simp only [List.length_map] at b2
  by_cases hin : 0 ≤ here ∧ here < (I.length : Int)
  · obtain ⟨k, rfl⟩ : ∃ k : Nat, here = (k : Int) := ⟨here.toNat, by omega⟩
    have hk : k < I.length := by omega
    obtain ⟨e, he⟩ : ∃ e, I[k]? = some e := ⟨I[k], by simp [hk]⟩
    obtain ⟨q1, q2⟩ := r2 e (List.mem_of_getElem? he)
    have hx : (I.map fun x => Value.ref x.a)[((k : Int)).toNat]? = some (.ref e.a) := by simp [he]
    have hg : (I.map (·.glyph))[((k : Int)).toNat]? = some e.glyph := by simp [he]
    have hgl : ((k : Int)) < ((I.map (·.glyph)).length : Int) := by simp only [List.length_map]; omega
    have h0k : (0 : Int) ≤ (k : Int) := by omega
    cases hp : (x.pass && mkG e.glyph)
    · have hN := P'.hit hs h0k hgl hg hp
      try k_fold
      walk_at "STEPS"
      · exact h _ _ _ _ (by rw [hN]; exact ⟨fun _ => by assumption, fun _ => h0k⟩) (by omega) (by omega) (by assumption) (by assumption)
      · exact h _ _ _ _ (by rw [hN]; exact ⟨fun _ => by assumption, fun _ => h0k⟩) (by omega) (by omega) (by assumption) (by assumption)
      · exact h _ _ _ _ (by rw [hN]; exact ⟨fun e => absurd e (by decide), fun e => absurd e (by assumption)⟩) (by decide) (by omega) (by assumption) (by assumption)
    · have hN := P'.next hs h0k hgl hg hp
      try k_fold
      walk_at "STEPS"
      refine' wEnd ((k : Int) + step, _, _) (by assumption) (by assumption) ?hm (fun _ hp => hp) hN ?mu
      (case hm => walk_at "MM")
      (case mu => dsimp only; rcases hs with rfl | rfl <;> simp <;> omega)
  · have hN := P'.none hs (by simpa only [List.length_map] using hin)
    try k_fold
    walk_at "STEPS"
    · exact h _ _ _ _ (by rw [hN]; exact ⟨fun e => absurd e (by decide), fun e => absurd e h0⟩) (by decide) (by omega) (by assumption) (by assumption)
    · exact h _ _ _ _ (by rw [hN]; exact ⟨fun e => absurd e (by decide), fun e => absurd e h0⟩) (by decide) (by omega) (by assumption) (by assumption)
end
section
example : True := by w_top off; trivial
noncomputable def TestsIn (T : Addr) (vs : List Value) (nw : List (Addr × Obj)) : Prop := ∃ (n : Nat) (ts : List Value), (T, tupOf ts.toArray n) ∈ nw ∧ ts.length = vs.length ∧ ∀ (i : Nat) (v u : Value), vs[i]? = some v → ts[i]? = some u → ∃ tt n' k1, u = .ref tt ∧ (tt, tupOf [Value.str (Str.ofString "cover") k1, v].toArray n') ∈ nw
theorem cover_spec {w : World} {A₀ A : Around} {E : Value → Shared → Prop} {s : Shared} {base h₀ : Heap} {outer : List Env} {env : Env} {L : Addr} {m mg mb : Str → Option Value} {mean : ExcName → Option Value} {loose : List Str} {news : List (Addr × Obj)} {Q : Value → Shared → Prop}
  {tb : Addr} {nb : Nat} {vs : List Value} (C : Cx w A₀ A base h₀ outer env L mg mb mean loose 4) (F : Fr h₀ L s.heap m) (N : News h₀ L s.heap news) (ht : (tb, tupOf vs.toArray nb) ∈ news) (hl : vs.length ≤ 8)
  (h : ∀ T nw h' tk, Fr h₀ L h' m → News h₀ L h' nw → (∀ p ∈ news, p ∈ nw) → TestsIn T vs nw → Q (.ref T) { s with heap := h', toks := tk }) :
  wpAny (model pw w) A (call (.ref 250) [.ref tb]) Q E s := by
  obtain ⟨B, X, T, hA, hf, hke, hh, hdep, hun⟩ := C
  walk_at "STEPS"
  k_dflt (refine ListComp_TT (F₀ := by k_asm) (by rfl) (by decide) (by rfl) (by decide) (by rfl) ?_)
  walk_at "STEPS"
  refine ⟨tb, vs, nb, news, rfl, hh, by assumption, by assumption, ht, by rw [sizeLine_eq]; omega, ?_⟩
  rintro s₂ ⟨hp, rfl⟩
  refine compInd (fun i ys nw => (∀ p ∈ news, p ∈ nw) ∧ ∀ (j : Nat) (v u : Value), vs[j]? = some v → ys[j]? = some u → ∃ tt n' k1, u = .ref tt ∧ (tt, tupOf [Value.str (Str.ofString "cover") k1, v].toArray n') ∈ nw) ⟨fun _ hp => hp, fun j v u _ e => by simp at e⟩ ?_ ?_
  · rintro i ys nw v I oI C oC D m₂ h1 tk1 E' hi hyl hJ0 hv hC hx F1 N1 off ne
    refine hideG ?_
    intro G9 kG9
    obtain ⟨hsub, hJ⟩ := hJ0
    refine kG9 ?_
    clear kG9
    try k_fold
    walk_at "STEPS"
    rename_i Dn hn Fn N2 ln
    refine cEnd ((Dn, tupOf [Value.str (Str.ofString "cover") tk1, v].toArray 0) :: nw) (by assumption) N2 ?_ ?_ ?_ ?_
    · intro p hp
      simp only [List.mem_cons] at hp ⊢
      rcases hp with rfl | rfl | rfl | rfl | hp
      · exact .inr (.inl rfl)
      · exact .inr (.inr (.inl rfl))
      · exact .inr (.inr (.inr (.inl rfl)))
      · exact .inl rfl
      · exact .inr (.inr (.inr (.inr hp)))
    · intro p hp
      rcases List.mem_cons.mp hp with rfl | hp
      · refine ⟨?_, ?_, ?_⟩ <;> (refine neN ?_; dsimp only; omega)
      · exact off p hp
    · exact List.mem_cons_of_mem _ (hsub _ ht)
    · refine ⟨fun p hp => List.mem_cons_of_mem _ (hsub p hp), fun j v' u e1 e2 => ?_⟩
      by_cases hj : j < ys.length
      · rw [List.getElem?_append_left hj] at e2
        obtain ⟨tt, n', k1, e3, e4⟩ := hJ j v' u e1 e2
        exact ⟨tt, n', k1, e3, List.mem_cons_of_mem _ e4⟩
      · rw [List.getElem?_append_right (by omega)] at e2
        have hj0 : j - ys.length = 0 := by
          cases h9 : j - ys.length with
          | zero => rfl
          | succ k => rw [h9] at e2; simp at e2
        have hji : j = i := by omega
        rw [hj0] at e2
        subst hji
        have ev : v = v' := Option.some.inj (hv.symm.trans e1)
        subst ev
        exact ⟨_, _, _, (Option.some.inj e2).symm, List.mem_cons_self⟩
  · rintro ys nw hyl ⟨hsub, hJ⟩
    unfold LCg.FinE
    intro D h1 tk1 F1 N1 o1
    walk_at "STEPS"
    refine h _ _ _ _ (by assumption) (by assumption) (fun p hp => List.mem_cons_of_mem _ (List.mem_cons_of_mem _ (hsub p hp))) ⟨_, ys, List.mem_cons_self, hyl, fun j v u e1 e2 => ?_⟩
    obtain ⟨tt, n', k1, e3, e4⟩ := hJ j v u e1 e2
    exact ⟨tt, n', k1, e3, List.mem_cons_of_mem _ (List.mem_cons_of_mem _ e4)⟩

theorem side_spec {w : World} {A₀ A : Around} {E : Value → Shared → Prop} {s : Shared} {base h₀ : Heap} {outer : List Env} {env : Env} {L : Addr} {m mg mb : Str → Option Value} {mean : ExcName → Option Value} {loose : List Str} {news : List (Addr × Obj)} {Q : Value → Shared → Prop}
  {tb : Addr} {nb : Nat} {vs : List Value} {sd : Option (List Int)} (C : Cx w A₀ A base h₀ outer env L mg mb mean loose 4) (F : Fr h₀ L s.heap m) (N : News h₀ L s.heap news) (ht : (tb, tupOf vs.toArray nb) ∈ news) (V : SideIn w vs news sd)
  (h : ∀ T n ts ex h' tk, Fr h₀ L h' m → News h₀ L h' (ex ++ news) → (T, tupOf ts.toArray n) ∈ ex ++ news → TestSd w ts (ex ++ news) sd → Q (.ref T) { s with heap := h', toks := tk }) :
  wpAny (model pw w) A (call (.ref 250) [.ref tb]) Q E s := by
  refine cover_spec C F N ht V.len fun T nw h' tk F' N' hsub hT => ?_
  obtain ⟨n, ts, h1, h2, h3⟩ := hT
  have hN : News h₀ L h' (nw ++ news) := fun p hp => (List.mem_append.mp hp).elim (N' p) fun hp => N' p (hsub p hp)
  refine h T n ts nw h' tk F' hN (List.mem_append_left _ h1) ?_
  cases sd with
  | none =>
    have e : vs = [] := V
    subst e
    exact List.eq_nil_of_length_eq_zero h2
  | some gs =>
    obtain ⟨cv, rfl, b, c⟩ := V
    obtain ⟨u, rfl⟩ := len1 h2
    · obtain ⟨tt, n', k1, rfl, e⟩ := h3 0 (.ref cv) u rfl rfl
      exact ⟨tt, n', k1, cv, rfl, List.mem_append_left _ e, b.mono fun _ hp => List.mem_append_right _ hp, c⟩
end
section
example : True := by w_top off; trivial
local macro_rules | `(tactic| walk_at "call ref") => `(tactic| (k_here; (with_reducible show wpAny _ _ (call (Value.ref 271) _) _ _ _); k_dflt (refine' found_spec ?C ?F ?N ?S ?R ?V ?t ?i ?s ?z ?_; (case F | N => k_asm); (case C => walk_at "CX"); (case S | R => walk_at "DATA"); (case t => k_mem); (case V => walk_at "DATA"); (case i | s | z => assumption); intro r' t' h' tk' hr1' hr2' hr3' F' N'; (try k_sweep))))
theorem last_spec {w : World} {A₀ A : Around} {E : Value → Shared → Prop} {s : Shared} {base h₀ : Heap} {outer : List Env} {env : Env} {L : Addr} {m mg mb : Str → Option Value} {mean : ExcName → Option Value} {loose : List Str} {news : List (Addr × Obj)} {Q : Value → Shared → Prop}
  {x : ScD} {I : List InfoD} {i : Nat} {step : Int} {ti tst : Tok} {T : Addr} {ts : List Value} {n : Nat} {sd : Option (List Int)} (C : Cx w A₀ A base h₀ outer env L mg mb mean loose 12) (F : Fr h₀ L s.heap m) (N : News h₀ L s.heap news) (S : ScIn w x news) (R : RowIn w x.rw I news)
  (hT : (T, tupOf ts.toArray n) ∈ news) (D : TestSd w ts news sd) (hi : i < I.length) (hs : step = 1 ∨ step = -1)
  (h : ∀ r t h' tk, (0 ≤ r ↔ SideOk x.pass (I.map (·.glyph)) i step sd) → -1 ≤ r → r < (I.length : Int) → Fr h₀ L h' m → News h₀ L h' news → Q (.int r t) { s with heap := h', toks := tk }) :
  wpAny (model pw w) A (call (.ref 285) [.ref x.sc, .int (i : Int) ti, .int step tst, .ref T]) Q E s := by
  obtain ⟨B, X, TT, hA, hf, hke, hh, hdep, hun⟩ := C
  walk_at "STEPS"
  walk_at "FOR"
  walk_at "STEPS"
  rename Fr _ _ _ _ => kF'
  rename News _ _ _ _ => kN'
  refine forTupX (mmOf kF' fun rest (c : Int × Tok) y => if y = Str.ofString "here" then some (.int c.1 c.2) else rest y) (fun _ => news) (fun j c => (j = 0 ∧ c.1 = (i : Int)) ∨ (0 < j ∧ 0 ≤ c.1 ∧ c.1 < (I.length : Int) ∧ SideOk x.pass (I.map (·.glyph)) i step sd)) ((i : Int), _) hh hT kF' kN' (by walk_at "MM") (fun _ hp => hp) (.inl ⟨rfl, rfl⟩) ?_ ?_
  · rintro j v ⟨here, th⟩ hp tkp Ia oI hne hcI hv hP off F1 N1
    dsimp only [mmOf] at F1 hP ⊢
    clear kF' kN'
    cases sd with
    | none => rw [show ts = [] from D] at hv; simp at hv
    | some gs =>
      obtain ⟨tt, n', k1, cv, rfl, d1, d2, d3⟩ := D
      have hj : j = 0 := by
        cases j with
        | zero => rfl
        | succ k => simp at hv
      subst hj
      have hv' : v = .ref tt := (Option.some.inj hv).symm
      subst hv'
      have hhere : here = (i : Int) := by rcases hP with h1 | h1 <;> omega
      subst hhere
      try k_fold
      walk_at "STEPS"
      · have hr := ‹(0 : Int) ≤ _ ↔ nx _ _ ∈ _›
        exact h _ _ _ _ ⟨fun e => absurd e (by decide), fun e => absurd (hr.mpr e) (by omega)⟩ (by decide) (by omega) (by assumption) (News.subl (by assumption) (by k_sub))
      · have hr := ‹(0 : Int) ≤ _ ↔ nx _ _ ∈ _›
        refine' fEnd (_, _) (by assumption) (by assumption) ?hm ?ho ?hn ?hw ?hp
        (case hm => walk_at "MM")
        (case ho => intro p hp; simp only [List.mem_cons, List.not_mem_nil, or_false] at hp ⊢; rcases hp with rfl | rfl <;> simp)
        (case hn => k_sub)
        (case hw => intro p hp; simpa using off p hp)
        (case hp => exact .inr ⟨by omega, by dsimp only; omega, by assumption, hr.mp (by omega)⟩)
  · rintro ⟨here, th⟩ hp tkp u hP F1 N1
    dsimp only [mmOf] at F1 hP ⊢
    clear kF' kN'
    walk_at "STEPS"
    cases sd with
    | none =>
      have h0 : ts = [] := D
      subst h0
      have hh0 : here = (i : Int) := by rcases hP with h1 | h1 <;> simp at h1; exact h1
      exact h _ _ _ _ ⟨fun _ => trivial, fun _ => by omega⟩ (by omega) (by omega) (by assumption) (by assumption)
    | some gs =>
      obtain ⟨tt, n', k1, cv, rfl, d1, d2, d3⟩ := D
      rcases hP with h1 | h1
      · simp at h1
      · exact h _ _ _ _ ⟨fun _ => h1.2.2.2, fun _ => h1.2.1⟩ (by omega) (by omega) (by assumption) (by assumption)
end
section
example : True := by w_top off; trivial
theorem hang_spec {w : World} {A₀ A : Around} {E : Value → Shared → Prop} {s : Shared} {base h₀ : Heap} {outer : List Env} {env : Env} {L : Addr} {m mg mb : Str → Option Value} {mean : ExcName → Option Value} {loose : List Str} {news : List (Addr × Obj)} {Q : Value → Shared → Prop}
  {x : ScD} {I : List InfoD} {b e : Int} {tb te : Tok} (C : Cx w A₀ A base h₀ outer env L mg mb mean loose 12) (F : Fr h₀ L s.heap m) (N : News h₀ L s.heap news) (S : ScIn w x news) (R : RowIn w x.rw I news)
  (h : ∀ I' nw h' tk, Fr h₀ L h' m → News h₀ L h' nw → RowIn w x.rw I' nw → SameI I I' → (∀ p ∈ news, (∀ y ∈ I, p.1 ≠ y.d) → p ∈ nw) → Q .none { s with heap := h', toks := tk }) :
  wpAny (model pw w) A (call (.ref 221) [.ref x.bf, .int b tb, .int e te]) Q E s := by
  obtain ⟨B, X, T, hA, hf, hke, hh, hdep, hun⟩ := C
  have S' := S
  have R' := R
  obtain ⟨m1, m2, m3, m4, m5, m6, m7, m8, m9, m10, m11, m12, ⟨kvs, m13, m13'⟩, m14⟩ := S'
  obtain ⟨⟨nr, r1⟩, r2, r3, r4⟩ := R'
  have hln : (I.map fun x => Value.ref x.a).length = I.length := List.length_map _
  obtain ⟨zs, a9, b9, hpick, hz⟩ : ∃ (zs : List Value) (a9 b9 : Nat), (slicePick (I.map fun x => Value.ref x.a).toArray (some b) (some e) none).toList = zs ∧ zs = ((I.drop a9).take (b9 - a9)).map fun x => Value.ref x.a := by
    refine ⟨_, clipAt I.length b, clipAt I.length e, rfl, ?_⟩
    rw [slicePick_plain]
    simp only [List.map_take, List.map_drop, List.size_toArray, List.length_map, Option.elim]
  have hzl : zs.length ≤ 8 := by rw [hz]; simp only [List.length_map, List.length_take, List.length_drop]; exact Nat.le_trans (Nat.min_le_right _ _) (Nat.le_trans (Nat.sub_le _ _) r3)
  walk_at "STEPS"
  · exact h I news _ _ (by assumption) (News.subl (by assumption) (by k_sub)) R (SameI.refl I) (fun _ hp _ => hp)
  · have hzm : ∀ (i : Nat) (v : Value), zs[i]? = some v → ∃ (k : Nat) (y : InfoD), I[k]? = some y ∧ v = .ref y.a := by
      intro i v hv
      have hv2 := List.mem_of_getElem? hv
      rw [hz] at hv2
      obtain ⟨y, hy, rfl⟩ := List.mem_map.mp hv2
      obtain ⟨k, hk⟩ := List.mem_iff_getElem?.mp (List.mem_of_mem_drop (List.mem_of_mem_take hy))
      exact ⟨k, y, hk, rfl⟩
    rename News _ _ _ _ => Nz
    k_dflt (refine LCg.ListComp_U (F₀ := by k_asm) (by rfl) (by decide) (by rfl) (by decide) (by rfl) ?_)
    walk_at "STEPS"
    refine LCg.CompSrc.ledger hh (by assumption) (by assumption) (List.mem_cons_self (a := (_, listOf zs.toArray 0))) (Nat.le_trans (by simp only [List.size_toArray]; exact hzl) (by decide : 8 ≤ sizeLine)) ?_
    intro g9
    simp only [List.size_toArray, List.getElem?_toArray]
    refine compInd (fun i ys nw => nw = ledOf Nz ∧ ∃ cs : List Int, IntsAre ys cs) ⟨rfl, [], .nil⟩ ?_ ?_
    · rintro i ys nw v Ia oI Ca oC Da m₂ h1 tk1 E' hi hyl hJ0 hv hC hx F1 N1 off ne
      refine hideG ?_
      intro G9 kG9
      obtain ⟨rfl, cs, hcs⟩ := hJ0
      refine kG9 ?_
      clear kG9
      obtain ⟨k, y, hk, rfl⟩ := hzm i v hv
      obtain ⟨q1, q2⟩ := r2 y (List.mem_of_getElem? hk)
      try k_fold
      walk_at "STEPS"
      exact cEnd _ F1 N1 (fun _ hp => hp) off (.inr ⟨_, List.mem_cons_self, rfl, _, rfl⟩) ⟨rfl, _, hcs.append (.cons y.cluster (y.k 4) .nil)⟩
    · rintro ys nw hyl ⟨rfl, cs, hcs⟩
      unfold LCg.FinE
      intro D1 h1 tk1 F1 N1 o1
      have hcl := hcs.length
      have hcl2 : 0 < cs.length := by omega
      walk_at "STEPS"
      walk_at "FOR"
      walk_at "STEPS"
      rename Fr _ _ _ _ => kF'
      rename News _ _ _ _ => kN'
      refine forListX (mmOf kF' fun rest (c : List InfoD × List (Addr × Obj)) y => rest y) (fun c => c.2) (fun _ c => RowIn w x.rw c.1 c.2 ∧ SameI I c.1 ∧ ∀ p ∈ news, (∀ y ∈ I, p.1 ≠ y.d) → p ∈ c.2) (I, news) hh (by k_mem) kF' kN' (by walk_at "MM") (by k_sub) ⟨R, SameI.refl I, fun _ hp _ => hp⟩ ?_ ?_
      · rintro i v ⟨I1, nw1⟩ h2 tk2 Ia oI hne hcI hv hJ0 off F1 N1
        refine hideG ?_
        intro G9 kG9
        obtain ⟨R1, H1, K1⟩ := hJ0
        refine kG9 ?_
        clear kG9
        dsimp only [mmOf] at F1 R1 H1 K1 ⊢
        obtain ⟨k, y, hk, rfl⟩ := hzm i v hv
        obtain ⟨u, hu⟩ := H1.at_ k y hk
        obtain ⟨q1, q2⟩ := R1.r2 _ (List.mem_of_getElem? hu)
        dsimp only at q1 q2 off N1
        have Nsub := News.subl (l' := nw1) N1 (fun p hp => List.mem_cons_of_mem _ (List.mem_cons_of_mem _ hp))
        have RS := R1.set Nsub hu (e' := { y with marked := true }) rfl rfl
        have hI1 : Ia ≠ y.d := fun q => off _ q2 q.symm
        have hD1 := newsNe N1 (List.mem_cons_of_mem _ List.mem_cons_self) (List.mem_cons_of_mem _ (List.mem_cons_of_mem _ q2)) (objNe (by rfl) (by rfl))
        dsimp only at RS hD1
        clear Nsub
        try k_fold
        walk_at "STEPS"
        · refine' fEnd (I1.set k { y with marked := true }, setL nw1 y.d (dictOf (infoEs w.params { y with marked := true }) 16)) (by assumption) (by assumption) ?hm ?ho ?hn ?hw ?hp
          (case hm => walk_at "MM")
          (case ho =>
            intro p hp
            rcases List.mem_cons.mp hp with rfl | hp
            · exact setL_keep List.mem_cons_self hI1
            · rw [List.mem_singleton.mp hp]; exact setL_keep (List.mem_cons_of_mem _ List.mem_cons_self) hD1)
          (case hn =>
            intro p hp
            rcases List.mem_cons.mp hp with rfl | hp
            · exact setL_head
            · exact setL_keep (List.mem_cons_of_mem _ (List.mem_cons_of_mem _ (List.mem_filter.mp hp).1)) (filt_ne _ hp))
          (case hw =>
            intro p hp
            rcases List.mem_cons.mp hp with rfl | hp
            · simpa using Ne.symm hI1
            · simpa using off p (List.mem_filter.mp hp).1)
          (case hp => exact ⟨RS, H1.set hk true, fun p hp hd => setL_keep (K1 p hp hd) (hd y (List.mem_of_getElem? hk))⟩)
        · refine' fEnd (I1, nw1) (by assumption) (by assumption) ?hm ?ho ?hn ?hw ?hp
          (case hm => walk_at "MM")
          (case ho => intro p hp; simp only [List.mem_cons, List.not_mem_nil, or_false] at hp ⊢; rcases hp with rfl | rfl <;> simp)
          (case hn => k_sub)
          (case hw => intro p hp; simpa using off p hp)
          (case hp => exact ⟨R1, H1, K1⟩)
      · rintro ⟨I1, nw1⟩ h2 tk2 u hJ0 F1 N1
        refine hideG ?_
        intro G9 kG9
        obtain ⟨R1, H1, K1⟩ := hJ0
        refine kG9 ?_
        clear kG9
        dsimp only [mmOf] at F1 R1 H1 K1 ⊢
        walk_at "STEPS"
        exact h I1 nw1 _ _ (by assumption) (by assumption) R1 H1 K1
end
section
example : True := by w_top off; trivial
theorem notinV {prog : Program} {w : World} {A : Around} {E : Value → Shared → Prop} {s : Shared} {d : Addr} {D : List (PyData × PyData)} {i : Int} {tk : Tok} {o : Option Int} {Q : Value → Shared → Prop} (T : IntTab prog w s.heap d D) (hl : Spec.lookup (.int i) D = o.map PyData.int)
  (h : Q (.bool (!o.isSome)) { s with toks := s.toks + 1 }) : wpAny (model prog w) A (compareOp .NotIn (.int i tk) (.ref d)) Q E s := notin_intTab T (by rw [hl]; cases o <;> exact h)
theorem itemV {prog : Program} {w : World} {A : Around} {E : Value → Shared → Prop} {s : Shared} {d : Addr} {D : List (PyData × PyData)} {value slice : PySem.Expr} {i v : Int} {tk : Tok} {Q : Value → Shared → Prop} (T : IntTab prog w s.heap d D) (hl : Spec.lookup (.int i) D = (some v).map PyData.int)
  (h : ∀ t, Q (.int v t) { s with toks := s.toks + 1 }) (hs : subscripted slice false (.ref d) (.int i tk) = operate [.ref d, .int i tk] (getItem (.ref d) (.int i tk)) := by with_unfolding_all rfl) (hg : ∀ r, letTemporaryGo value (.ref d) r = pure () := by intro _; with_unfolding_all rfl) :
  wpAny (model prog w) A (subscriptTail value slice (.ref d) (.int i tk)) Q E s := item_intTab T hl (fun u hu => by obtain ⟨t', rfl⟩ := PyProof.V.Flat.int_inv hu; exact h t') hs hg
local macro_rules | `(tactic| walk_at "compareOp NotIn int ref") => `(tactic| (k_here; k_dflt (refine' notinV ?T ?l ?_; (case T => k_tabat); (case l => assumption); k_whole); (try dsimp only [Option.isSome, Bool.not_true, Bool.not_false])))
local macro_rules | `(tactic| walk_at "subscriptTail") => `(tactic| (k_here; (with_reducible show wpAny _ _ (subscriptTail _ _ (Value.ref _) (Value.int _ _)) _ _ _); k_dflt (refine' itemV ?T ?l ?_; (case T => k_tabat); (case l => assumption); k_whole; intro _)))

local macro_rules | `(tactic| walk_at "call ref") => `(tactic| (k_here; (with_reducible show wpAny _ _ (call (Value.ref 285) _) _ _ _); k_dflt (refine' last_spec ?C ?F ?N ?S ?R ?t ?D ?i ?s ?_; (case F | N => k_asm); (case C => walk_at "CX"); (case S | R => walk_at "DATA"); (case t => k_mem); (case D | i => assumption); (case s => first | exact Or.inl rfl | exact Or.inr rfl); intro r' t' h' tk' hr1' hr2' hr3' F' N'; (try k_sweep))))
local macro_rules | `(tactic| walk_at "call ref") => `(tactic| (k_here; (with_reducible show wpAny _ _ (call (Value.ref 250) _) _ _ _); k_dflt (refine' side_spec ?C ?F ?N ?t ?V ?_; (case F | N => k_asm); (case C => walk_at "CX"); (case t => k_mem); (case V => first | assumption | exact SideIn.mono (by assumption) (by walk_at "SUB")); intro T' n' ts' ex' h' tk' F' N' hT1' hT2'; (try k_sweep))))
local macro_rules | `(tactic| walk_at "call ref") => `(tactic| (k_here; (with_reducible show wpAny _ _ (call (Value.ref 221) _) _ _ _); k_dflt (refine' hang_spec ?C ?F ?N ?S ?R ?_; (case F | N => k_asm); (case C => walk_at "CX"); (case S | R => walk_at "DATA"); intro I' nw' h' tk' F' N' R' H' K'; (try k_sweep))))
theorem apply_spec {w : World} {A₀ A : Around} {E : Value → Shared → Prop} {s : Shared} {base h₀ : Heap} {outer : List Env} {env : Env} {L : Addr} {m mg mb : Str → Option Value} {mean : ExcName → Option Value} {loose : List Str} {news fx : List (Addr × Obj)} {Q : Value → Shared → Prop}
  {x : ScD} {t : TabD} {I : List InfoD} {i : Nat} {e : InfoD} {ti : Tok} (C : Cx w A₀ A base h₀ outer env L mg mb mean loose 16) (F : Fr h₀ L s.heap m) (N : News h₀ L s.heap news) (S : ScIn w x fx) (TI : TabIn w t fx) (R : RowIn w x.rw I news)
  (hfx : ∀ p ∈ fx, p ∈ news) (hsep : ∀ p ∈ fx, ∀ y ∈ I, p.1 ≠ y.d) (hi : I[i]? = some e)
  (hno : (∀ v, ¬ Fires x (I.map (·.glyph)) i t e.glyph v) → ∀ tk' h' tk, Fr h₀ L h' m → News h₀ L h' news → Q (.int (-1) tk') { s with heap := h', toks := tk })
  (hyes : ∀ v, Fires x (I.map (·.glyph)) i t e.glyph v → ∀ gt' I' nw tk' h' tk, Fr h₀ L h' m → News h₀ L h' nw → RowIn w x.rw I' nw → SameI (I.set i { e with glyph := v, gt := gt' }) I' → (∀ p ∈ news, (∀ y ∈ I, p.1 ≠ y.d) → p ∈ nw) → Q (.int (i : Int) tk') { s with heap := h', toks := tk }) :
  wpAny (model pw w) A (call (.ref 481) [.ref x.sc, .ref t.a, .int (i : Int) ti]) Q E s := by
  obtain ⟨B, X, T, hA, hf, hke, hh, hdep, hun⟩ := C
  have S' := S.mono hfx
  have TI' := TI.mono hfx
  have R' := R
  obtain ⟨m1, m2, m3, m4, m5, m6, m7, m8, m9, m10, m11, m12, ⟨kvs, m13, m13'⟩, m14⟩ := S.mono hfx
  obtain ⟨t1, t2, t3, t4, ⟨kvt, t5, t5'⟩, t6, ⟨nb, t7⟩, ⟨na, t8⟩, t9, t10⟩ := TI.mono hfx
  obtain ⟨⟨nr, r1⟩, r2, r3, r4⟩ := R'
  obtain ⟨q1, q2⟩ := r2 e (List.mem_of_getElem? hi)
  have hx : (I.map fun x => Value.ref x.a)[((i : Int)).toNat]? = some (.ref e.a) := by simp [hi]
  have hil : i < I.length := (List.getElem?_eq_some_iff.mp hi).1
  have hlk := t6 e.glyph
  cases hfg : t.f e.glyph with
  | none =>
    rw [hfg] at hlk
    have hnof : ∀ v, ¬ Fires x (I.map (·.glyph)) i t e.glyph v := fun v hv => by rw [hv.1] at hfg; cases hfg
    try k_fold
    walk_at "STEPS"
    all_goals exact hno hnof _ _ _ (by assumption) (by assumption)
  | some v =>
    rw [hfg] at hlk
    try k_fold
    walk_at "STEPS"
    · have hb := ‹(0 : Int) ≤ _ ↔ SideOk _ _ _ (-1) _›
      exact hno (fun v' hv => absurd (hb.mpr hv.2.1) (by omega)) _ _ _ (by assumption) (News.subl (by assumption) (by walk_at "SUB"))
    · have hb := ‹(0 : Int) ≤ _ ↔ SideOk _ _ _ 1 _›
      exact hno (fun v' hv => absurd (hb.mpr hv.2.2) (by omega)) _ _ _ (by assumption) (News.subl (by assumption) (by walk_at "SUB"))
    · have hb1 := ‹(0 : Int) ≤ _ ↔ SideOk _ _ _ (-1) _›
      have hb2 := ‹(0 : Int) ≤ _ ↔ SideOk _ _ _ 1 _›
      have hF : Fires x (I.map (·.glyph)) i t e.glyph v := ⟨hfg, hb1.mp (by omega), hb2.mp (by omega)⟩
      rename_i I1 nw1 _ _ F1 N1 R1 H1 K1
      have K2 : ∀ p ∈ news, (∀ y ∈ I, p.1 ≠ y.d) → p ∈ nw1 := fun p hp hd => K1 p (List.mem_append_right _ (List.mem_append_right _ hp)) hd
      have hfx1 : ∀ p ∈ fx, p ∈ nw1 := fun p hp => K2 p (hfx p hp) (hsep p hp)
      obtain ⟨u1, u2, u3, u4, ⟨kvu, u5, u5'⟩, u6, ⟨nu, u7⟩, ⟨nu', u8⟩, u9, u10⟩ := TI.mono hfx1
      obtain ⟨u, hu⟩ := H1.at_ i e hi
      obtain ⟨e1, he1⟩ : ∃ e1, e1 = ({ e with marked := u } : InfoD) := ⟨_, rfl⟩
      rw [← he1] at hu
      have h1a : e1.a = e.a := by rw [he1]
      have h1d : e1.d = e.d := by rw [he1]
      have h1g : e1.glyph = e.glyph := by rw [he1]
      have hlk1 : Spec.lookup (.int e1.glyph) t.Dm = some (PyData.int v) := by rw [h1g]; exact hlk
      obtain ⟨v1, v2⟩ := R1.r2 _ (List.mem_of_getElem? hu)
      have RS := fun g9 => R1.set N1 hu (e' := { e1 with glyph := v, gt := g9 }) rfl rfl
      rw [h1a, h1d] at v1
      rw [h1d] at v2
      rw [h1d] at RS
      clear K1
      try k_fold
      walk_at "STEPS"
      exact hyes v hF _ _ _ _ _ _ (by assumption) (by assumption) (RS _) (H1.setG (u := u) hi (by rw [he1])) (fun p hp hd => setL_keep (K2 p hp hd) (hd e (List.mem_of_getElem? hi)))
end
section
example : True := by w_top off; trivial
theorem findSome_at {α β : Type} {ts : List α} {j : Nat} {t : α} {f : α → Option β} {v : β} (hP : (ts.take j).findSome? f = none) (ht : ts[j]? = some t) (hf : f t = some v) : ts.findSome? f = some v := by
  have e : ts = ts.take j ++ t :: ts.drop (j + 1) := by
    have hlt := (List.getElem?_eq_some_iff.mp ht).1
    have he := (List.getElem?_eq_some_iff.mp ht).2
    rw [← he, List.getElem_cons_drop, List.take_append_drop]
  rw [e, List.findSome?_append, hP]
  simp [hf]
local macro_rules | `(tactic| walk_at "SUBFX") => `(tactic| first | assumption | (intro p9 h9; (repeat refine List.mem_cons_of_mem _ ?_); exact ((by assumption : ∀ p ∈ _, p ∈ _) p9 h9)))
local macro_rules | `(tactic| walk_at "APPLY") => `(tactic| (refine' apply_spec ?C ?F ?N ?S ?TI ?R ?fx ?sp ?i ?hno ?hyes; (case F | N => k_asm); (case C => walk_at "CX"); (case S | TI => assumption); (case R => walk_at "DATA"); (case fx => walk_at "SUBFX"); (case sp | i => assumption); (case' hno => intro hF' tk' h' tk' F' N'; (try k_sweep)); (case' hyes => intro v' hF' gt' I' nw' tk' h' tk' F' N' R' H' K'; (try k_sweep))))
local macro_rules | `(tactic| walk_at "call ref") => `(tactic| (k_here; (with_reducible show wpAny _ _ (call (Value.ref 481) _) _ _ _); k_dflt walk_at "APPLY"))
theorem subst_spec {w : World} {A₀ A : Around} {E : Value → Shared → Prop} {s : Shared} {base h₀ : Heap} {outer : List Env} {env : Env} {L : Addr} {m mg mb : Str → Option Value} {mean : ExcName → Option Value} {loose : List Str} {news fx : List (Addr × Obj)} {Q : Value → Shared → Prop}
  {x : ScD} {ts : List TabD} {I : List InfoD} {i : Nat} {e : InfoD} {ti : Tok} (C : Cx w A₀ A base h₀ outer env L mg mb mean loose 20) (F : Fr h₀ L s.heap m) (N : News h₀ L s.heap news) (S : ScIn w x fx) (TS : TabsIn w x.tl ts fx) (R : RowIn w x.rw I news)
  (hfx : ∀ p ∈ fx, p ∈ news) (hsep : ∀ p ∈ fx, ∀ y ∈ I, p.1 ≠ y.d) (hi : I[i]? = some e)
  (hno : ts.findSome? (fireL x.pass ((I.map (·.glyph)).take i).reverse ((I.map (·.glyph)).drop (i + 1)) e.glyph) = none → ∀ tk' h' tk, Fr h₀ L h' m → News h₀ L h' news → Q (.int (-1) tk') { s with heap := h', toks := tk })
  (hyes : ∀ v, ts.findSome? (fireL x.pass ((I.map (·.glyph)).take i).reverse ((I.map (·.glyph)).drop (i + 1)) e.glyph) = some v → ∀ gt' I' nw tk' h' tk, Fr h₀ L h' m → News h₀ L h' nw → RowIn w x.rw I' nw → SameI (I.set i { e with glyph := v, gt := gt' }) I' → (∀ p ∈ news, (∀ y ∈ I, p.1 ≠ y.d) → p ∈ nw) → Q (.int (i : Int) tk') { s with heap := h', toks := tk }) :
  wpAny (model pw w) A (call (.ref 523) [.ref x.sc, .int (i : Int) ti]) Q E s := by
  obtain ⟨B, X, T, hA, hf, hke, hh, hdep, hun⟩ := C
  obtain ⟨m1, m2, m3, m4, m5, m6, m7, m8, m9, m10, m11, m12, ⟨kvs, m13, m13'⟩, m14⟩ := S.mono hfx
  obtain ⟨⟨nt, l1⟩, l2, l3⟩ := TS
  have l1n := hfx _ l1
  walk_at "STEPS"
  walk_at "FOR"
  walk_at "STEPS"
  rename Fr _ _ _ _ => kF'
  rename News _ _ _ _ => kN'
  refine forListX (mmOf kF' fun rest (c : Option Value) y => if y = Str.ofString "found" then c else rest y) (fun _ => news) (fun j _ => (ts.take j).findSome? (fireL x.pass ((I.map (·.glyph)).take i).reverse ((I.map (·.glyph)).drop (i + 1)) e.glyph) = none) none hh l1n kF' kN' (by walk_at "MM") (fun _ hp => hp) rfl ?_ ?_
  · rintro j v c hp tkp Ia oI hne hcI hv hP off F1 N1
    dsimp only [mmOf] at F1 hP ⊢
    clear kF' kN'
    obtain ⟨t, ht, rfl⟩ : ∃ t, ts[j]? = some t ∧ v = .ref t.a := by
      rw [List.getElem?_map] at hv
      cases h9 : ts[j]? with
      | none => rw [h9] at hv; cases hv
      | some t => rw [h9] at hv; exact ⟨t, rfl, (Option.some.inj hv).symm⟩
    have TI := l2 t (List.mem_of_getElem? ht)
    have htake : ts.take (j + 1) = ts.take j ++ [t] := by rw [List.take_add_one, ht]; rfl
    have R' := R
    try k_fold
    walk_at "STEPS"
    · have hF := ‹Fires x _ i t _ _›
      exact hyes _ (findSome_at hP ht (fireL_iff.mp hF)) _ _ _ _ _ _ (by assumption) (by assumption) (by assumption) (by assumption) (fun p hp hd => (by assumption : ∀ p ∈ _, (∀ y ∈ I, p.1 ≠ y.d) → p ∈ _) p (List.mem_cons_of_mem _ (List.mem_cons_of_mem _ hp)) hd)
    · have hF := ‹∀ v, ¬ Fires x _ i t _ v›
      refine' fEnd _ (by assumption) (by assumption) ?hm ?ho ?hn ?hw ?hp
      (case hm => walk_at "MM")
      (case ho => intro p hp; simp only [List.mem_cons, List.not_mem_nil, or_false] at hp ⊢; rcases hp with rfl | rfl <;> simp)
      (case hn => k_sub)
      (case hw => intro p hp; simpa using off p hp)
      (case hp =>
        rw [htake, List.findSome?_append, hP]
        simp only [List.findSome?_cons, List.findSome?_nil, Option.none_or]
        cases h9 : fireL x.pass ((I.map (·.glyph)).take i).reverse ((I.map (·.glyph)).drop (i + 1)) e.glyph t with
        | none => rfl
        | some v => exact absurd (fireL_iff.mpr h9) (hF v))
  · rintro c hp tkp u hP F1 N1
    dsimp only [mmOf] at F1 hP ⊢
    clear kF' kN'
    rw [List.length_map, List.take_length] at hP
    walk_at "STEPS"
    exact hno hP _ _ _ (by assumption) (by assumption)
end
section
example : True := by w_top off; trivial
local macro_rules | `(tactic| walk_at "call ref") => `(tactic| (k_here; (with_reducible show wpAny _ _ (call (Value.ref 104) _) _ _ _); k_dflt (refine' takes_spec ?C ?F ?N ?S ?R ?i ?_; (case F | N => k_asm); (case C => walk_at "CX"); (case S | R => walk_at "DATA"); (case i => assumption); intro h' tk' F' N'; (try k_sweep))))
local macro_rules | `(tactic| walk_at "call ref") => `(tactic| (k_here; (with_reducible show wpAny _ _ (call (Value.ref 523) _) _ _ _); k_dflt (refine' subst_spec ?C ?F ?N ?S ?TI ?R ?fx ?sp ?i ?hno ?hyes; (case F | N => k_asm); (case C => walk_at "CX"); (case TI | S => assumption); (case R => walk_at "DATA"); (case fx | sp | i => assumption); (case' hno => intro hF' tk' h' tk' F' N'; (try k_sweep)); (case' hyes => intro v' hF' gt' I' nw' tk' h' tk' F' N' R' H' K'; (try k_sweep)))))
theorem run_spec {w : World} {A₀ A : Around} {E : Value → Shared → Prop} {s : Shared} {base h₀ : Heap} {outer : List Env} {env : Env} {L : Addr} {m mg mb : Str → Option Value} {mean : ExcName → Option Value} {loose : List Str} {news fx : List (Addr × Obj)} {Q : Value → Shared → Prop}
  {x : ScD} {ts : List TabD} {I : List InfoD} {rows : List (Int × Int)} (C : Cx w A₀ A base h₀ outer env L mg mb mean loose 24) (F : Fr h₀ L s.heap m) (N : News h₀ L s.heap news) (S : ScIn w x fx) (TS : TabsIn w x.tl ts fx) (R : RowIn w x.rw I news)
  (hfx : ∀ p ∈ fx, p ∈ news) (hsep : ∀ p ∈ fx, ∀ y ∈ I, p.1 ≠ y.d) (hg : I.map (·.glyph) = rows.map (·.1)) (hm : I.map (·.mask) = rows.map (·.2))
  (h : ∀ I' nw tk' h' tk, Fr h₀ L h' m → News h₀ L h' nw → RunP w x ts rows I news rows.length I' nw (proc x.pass ts x.mask rows rows.length).2 → Q (.int (proc x.pass ts x.mask rows rows.length).2 tk') { s with heap := h', toks := tk }) :
  wpAny (model pw w) A (call (.ref 530) [.ref x.sc]) Q E s := by
  obtain ⟨B, X, T, hA, hf, hke, hh, hdep, hun⟩ := C
  obtain ⟨m1, m2, m3, m4, m5, m6, m7, m8, m9, m10, m11, m12, ⟨kvs, m13, m13'⟩, m14⟩ := S.mono hfx
  have R0 := R
  obtain ⟨⟨nr, r1⟩, r2, r3, r4⟩ := R0
  have hln : (I.map fun x => Value.ref x.a).length = I.length := List.length_map _
  have hlr : I.length = rows.length := by have := congrArg List.length hg; simpa using this
  walk_at "STEPS"
  walk_at "FOR"
  walk_at "STEPS"
  rename Fr _ _ _ _ => kF'
  rename News _ _ _ _ => kN'
  refine forRangeX (n := I.length) (mmOf kF' fun rest (c : Int × Tok × List InfoD × List (Addr × Obj)) y => if y = Str.ofString "count" then some (.int c.1 c.2.1) else rest y) (fun c => c.2.2.2) (fun i c => RunP w x ts rows I news i c.2.2.1 c.2.2.2 c.1) (0, _, I, news) hh (by assumption) (small_down (by omega) (by omega) (by omega) (by omega)) (by rw [rangeSize_downNat]; omega) kF' kN' (by walk_at "MM") (fun _ hp => hp) ⟨R, fun _ hp _ => hp, rfl, by rw [hg, Nat.sub_zero, List.take_of_length_le (by simp)]; simp [proc], rfl⟩ ?_ ?_
  · rintro i t' ⟨cnt, tc, I1, nw1⟩ hp tkp Ia pr qr hin hP off F1 N1
    dsimp only [mmOf] at F1 hP ⊢ off N1
    clear kF' kN'
    obtain ⟨k, hk⟩ : ∃ k, k + (i + 1) = rows.length := ⟨rows.length - (i + 1), by omega⟩
    have hkv : (((I.map fun x => Value.ref x.a).length : Int) - 1 + (i : Int) * -1) = (k : Int) := by rw [hln]; omega
    rw [hkv] at F1
    have hl1 : I1.length = I.length := keys_len hP.keys
    obtain ⟨e, he⟩ : ∃ e, I1[k]? = some e := ⟨I1[k]'(by omega), by simp⟩
    have hme : (rows.map (·.2))[k]? = some e.mask := by
      have e2 : I1.map (·.mask) = I.map (·.mask) := by
        have := congrArg (List.map fun q : Addr × Addr × Int × Int => q.2.2.2) hP.keys
        rw [List.map_map, List.map_map] at this
        exact this
      rw [← hm, ← e2, List.getElem?_map, he]; rfl
    have hkd := keys_d hP.keys
    have R1 := hP.row
    have hfx1 : ∀ p ∈ fx, p ∈ nw1 := fun p hp => hP.keep p (hfx p hp) (hsep p hp)
    have hfx2 : ∀ p ∈ fx, p ∈ (Ia, ritOf pr qr (-1)) :: nw1 := fun p hp => List.mem_cons_of_mem _ (hfx1 p hp)
    have hsep1 : ∀ p ∈ fx, ∀ y ∈ I1, p.1 ≠ y.d := fun p hp y hy => by obtain ⟨z, hz, ez⟩ := hkd y hy; rw [ez]; exact hsep p hp z hz
    have S1 := S.mono hfx1
    have hIa : ∀ y ∈ I1, Ia ≠ y.d := fun y hy q => off _ (R1.r2 y hy).2 q.symm
    clear S1
    have S1 : ScIn w x ((Ia, ritOf pr qr (-1)) :: nw1) := S.mono hfx2
    try k_fold
    walk_at "STEPS"
    · have hF := ‹List.findSome? _ ts = some _›
      have hc := ‹(decide (Builtin.bitAnd e.mask x.mask ≠ 0) && !(x.pass && mkG e.glyph)) = true›
      have R2 := ‹RowIn w x.rw _ _›
      have H2 := ‹SameI _ _›
      have K2 := ‹∀ p ∈ (Ia, ritOf pr qr (-1)) :: nw1, (∀ y ∈ I1, p.1 ≠ y.d) → p ∈ _›
      rename_i v2 hF' gt2 I2 nw2 tka ha tkb Fa Na R2' H2' K2' hc2 Fc N2
      have hIn := K2 _ List.mem_cons_self hIa
      refine' fEnd (cnt + 1, _, I2, List.filter (fun p => decide (p.1 ≠ Ia)) (ledOf N2)) (by assumption) N2 ?hm ?ho ?hn ?hw ?hp
      (case hp => exact hP.turn hk he hme (by rw [newG, if_pos hc]; exact hF) (R2.but N2 hIn rfl) H2 (fun p hp hd => List.mem_filter.mpr ⟨K2 p (List.mem_cons_of_mem _ hp) hd, decide_eq_true (off p hp)⟩))
      (case hm => walk_at "MM")
      (case ho => intro p hp; rw [List.mem_singleton.mp hp]; exact hIn)
      (case hn => exact fun p hp => (List.mem_filter.mp hp).1)
      (case hw => intro p hp; simpa using (List.mem_filter.mp hp).2)
    · have hF := ‹List.findSome? _ ts = none›
      have hc := ‹(decide (Builtin.bitAnd e.mask x.mask ≠ 0) && !(x.pass && mkG e.glyph)) = true›
      refine' fEnd (cnt, tc, I1, nw1) (by assumption) (by assumption) ?hm ?ho ?hn ?hw ?hp
      (case hp => exact hP.stay hk he hme (by rw [newG, if_pos hc]; exact hF))
      (case hm => walk_at "MM")
      (case ho => intro p hp; rw [List.mem_singleton.mp hp]; exact List.mem_cons_self)
      (case hn => exact fun p hp => List.mem_cons_of_mem _ hp)
      (case hw => intro p hp; simpa using off p hp)
    · have hc := ‹(decide (Builtin.bitAnd e.mask x.mask ≠ 0) && !(x.pass && mkG e.glyph)) = false›
      refine' fEnd (cnt, tc, I1, nw1) (by assumption) (by assumption) ?hm ?ho ?hn ?hw ?hp
      (case hp => exact hP.stay hk he hme (by rw [newG, if_neg (by rw [hc]; decide)]))
      (case hm => walk_at "MM")
      (case ho => intro p hp; rw [List.mem_singleton.mp hp]; exact List.mem_cons_self)
      (case hn => exact fun p hp => List.mem_cons_of_mem _ hp)
      (case hw => intro p hp; simpa using off p hp)
  · rintro ⟨cnt, tc, I1, nw1⟩ hp tkp u hP F1 N1
    dsimp only [mmOf] at F1 hP ⊢ N1
    clear kF' kN'
    rw [hlr] at hP
    walk_at "STEPS"
    have hc := hP.cnt
    subst hc
    exact h _ _ _ _ _ (by assumption) (by assumption) hP
end
section
example : True := by w_top off; trivial
/-! law: the end -/
local macro_rules | `(tactic| walk_at "call ref") => `(tactic| (k_here; (with_reducible show wpAny _ _ (call (Value.ref 530) _) _ _ _); k_dflt (refine' run_spec ?C ?F ?N ?S ?TS ?R ?fx ?sp ?g ?m ?_; (case F | N => k_asm); (case C => walk_at "CX"); (case S | TS => assumption); (case R => walk_at "DATA"); (case fx | sp | g | m => assumption)); intro I' nw' t' h' tk' F' N' P'; (try k_sweep)))
local macro_rules | `(tactic| walk_at "call ref") => `(tactic| (k_here; (with_reducible show wpAny _ _ (call (Value.ref 166) _) _ _ _); k_dflt (refine' glyphs_spec ?C ?F ?N ?S ?R ?_; (case F | N => k_asm); (case C => walk_at "CX"); (case S | R => walk_at "DATA")); intro D' ws' h' tk' F' N' i'; (try k_sweep)))
local macro_rules | `(tactic| walk_at "call ref") => `(tactic| (k_here; (with_reducible show wpAny _ _ (call (Value.ref 171) _) _ _ _); k_dflt (refine' clusters_spec ?C ?F ?N ?S ?R ?_; (case F | N => k_asm); (case C => walk_at "CX"); (case S | R => walk_at "DATA")); intro D' ws' h' tk' F' N' i'; (try k_sweep)))
section
variable {prog : Program} {w : World} {A : Around} {E : Value → Shared → Prop} {s : Shared} {h₀ : Heap} {L a b : Addr} {news : List (Addr × Obj)} {xs ys : List Value} {n1 n2 : Nat} {ns : List Int} {Q : Value → Shared → Prop}
theorem eqSame (N : News h₀ L s.heap news) (ha : (a, listOf xs.toArray n1) ∈ news) (hb : (b, listOf ys.toArray n2) ∈ news) (hi : IntsAre xs ns) (hj : IntsAre ys ns) (hu : A.units + 64 < cLine) (h : Q (.bool true) s) : wpAny (model prog w) A (compareOp .Eq (.ref a) (.ref b)) Q E s :=
  ke_eq_ints (News.isList N ha) (News.isList N hb) hi hj hu (by rw [decide_eq_true rfl]; exact h)
theorem neSame (N : News h₀ L s.heap news) (ha : (a, listOf xs.toArray n1) ∈ news) (hb : (b, listOf ys.toArray n2) ∈ news) (hi : IntsAre xs ns) (hj : IntsAre ys ns) (hu : A.units + 64 < cLine) (h : Q (.bool false) s) : wpAny (model prog w) A (compareOp .NotEq (.ref a) (.ref b)) Q E s :=
  ke_ne_ints (News.isList N ha) (News.isList N hb) hi hj hu (by rw [decide_eq_true rfl]; exact h)
end
local macro_rules | `(tactic| walk_at "compareOp NotEq ref ref") => `(tactic| (k_here; (with_reducible show wpAny _ _ (compareOp CmpOp.NotEq (Value.ref _) (Value.ref _)) _ _ _); k_dflt (refine' neSame ?N ?a ?b ?i ?j ?u ?_; (case N => k_asm); (case a | b => k_mem); (case i | j => assumption); (case u => exact units_of (by omega)); k_whole)))
local macro_rules | `(tactic| walk_at "compareOp Eq ref ref") => `(tactic| (k_here; (with_reducible show wpAny _ _ (compareOp CmpOp.Eq (Value.ref _) (Value.ref _)) _ _ _); k_dflt (refine' eqSame ?N ?a ?b ?i ?j ?u ?_; (case N => k_asm); (case a | b => k_mem); (case i | j => assumption); (case u => exact units_of (by omega)); k_whole)))
theorem RawRow.keep {R R' : List (Addr × Obj)} {rl : Addr} {rows : List (Int × Int)} (V : RawRow R rl rows) (hs : ∀ p ∈ R, isDictO p.2 = false → p ∈ R') : RawRow R' rl rows := by
  obtain ⟨⟨n, ps, a, b, c⟩, d, e⟩ := V
  exact ⟨⟨n, ps, hs _ a rfl, b, fun i v hv => by obtain ⟨tt, n', g, o, tg, to_, e1, e2, e3⟩ := c i v hv; exact ⟨tt, n', g, o, tg, to_, e1, hs _ e2 rfl, e3⟩⟩, d, e⟩
theorem lawF {w : World} {A₀ A : Around} {E : Value → Shared → Prop} {s : Shared} {base h₀ : Heap} {outer : List Env} {env : Env} {L : Addr} {mg mb : Str → Option Value} {mean : ExcName → Option Value} {loose : List Str} {R fx : List (Addr × Obj)} {Q : Flow → Shared → Prop}
  {fa : Addr} {cd : Value} {x : ScD} {la rl tbl : Addr} {zs : List Value} {n : Nat} {tm tc : Tok} {r : Str → Option Value} {oR : Obj} {rows : List (Int × Int)} {ts : List TabD} {I : List InfoD} (he : env = lawEnv L fa cd) (hE : PassesOwn (model pw w) A env E) (C : Cx w A₀ A base h₀ outer env L mg mb mean loose 60)
  (F : Fr h₀ L s.heap (mmL la (proc x.pass ts x.mask rows rows.length).2 tc (mmE x.sc x.bf tbl x.mask tm x.pass r))) (N : News h₀ L s.heap R) (hR : (L + 2, oR) ∈ R) (hR2 : oR.data = .cell (some (.ref rl))) (V : RawRow R rl rows)
  (hla : (la, listOf (List.toArray zs) n) ∈ R) (hzi : IntsAre zs (proc x.pass ts x.mask rows rows.length).1) (S : ScIn w x fx) (TS : TabsIn w x.tl ts fx) (hfx : ∀ p ∈ fx, p ∈ R) (hsep : ∀ p ∈ fx, ∀ y ∈ I, p.1 ≠ y.d)
  (RI : RowIn w x.rw I R) (hg : I.map (·.glyph) = rows.map (·.1)) (hm : I.map (·.mask) = rows.map (·.2)) (hc : I.map (·.cluster) = (List.range I.length).map clusterAt)
  (h : ∀ m' R' h' tk, Fr h₀ L h' m' → News h₀ L h' R' → (∀ p ∈ R, (∀ y ∈ I, p.1 ≠ y.d) → p ∈ R') → Q (.ret (.bool true)) { s with heap := h', toks := tk }) :
  wpAny (model pw w) A (execs (lawT 15) env) Q E s := by
  obtain ⟨B, X, T, hA, hf, hke, hh, hdep, hun⟩ := C
  rw [lawT_15]
  have he0 := he
  unfold lawEnv at he
  conv at he in lawScope => whnf
  dsimp (config := { zeta := true }) only at he
  conv in lawS 15 => whnf
  conv in lawS 16 => whnf
  subst he
  have hlr := V.b2
  have hne : ∀ p ∈ R, isDictO p.2 = false → ∀ y ∈ I, p.1 ≠ y.d := fun p hp hd y hy => newsNe N hp (RI.r2 y hy).2 (objNe hd rfl)
  have hLne : ∀ y ∈ I, L + 2 ≠ y.d := fun y hy => newsNe N hR (RI.r2 y hy).2 fun q => by
    have q : oR = _ := q
    rw [q] at hR2; cases hR2
  walk_at "STEPS"
  · exact absurd rfl ‹(proc x.pass ts x.mask rows rows.length).2 ≠ _›
  rename RunP _ _ _ _ _ _ _ _ _ _ => P
  rename_i I1 nw1 _ _ _ F1 N1 _
  have hfx1 : ∀ p ∈ fx, p ∈ nw1 := fun p hp => P.keep p (hfx p hp) (hsep p hp)
  have S1 := S.mono hfx1
  have S1' := S1
  obtain ⟨m1, m2, m3, m4, m5, m6, m7, m8, m9, m10, m11, m12, m13, m14⟩ := S1'
  have R1 := P.row
  obtain ⟨⟨nr, r1⟩, r2, r3, r4⟩ := P.row
  have hkeep : ∀ p ∈ R, isDictO p.2 = false → p ∈ nw1 := fun p hp hd => P.keep p hp (hne p hp hd)
  have hla1 := hkeep _ hla rfl
  have V1 := V.keep hkeep
  have hR1 : (L + 2, oR) ∈ nw1 := P.keep _ hR hLne
  have hg1 : I1.map (·.glyph) = (proc x.pass ts x.mask rows rows.length).1 := by rw [P.gl, Nat.sub_self]; rfl
  have hpl := proc_len (pass := x.pass) (ts := ts) (mask := x.mask) (rows := rows) rows.length (Nat.le_refl _)
  obtain ⟨nr9, ps, v1, v2, v3⟩ := V1.at_
  have hkeys := P.keys
  have hPk := P.keep
  clear P V
  generalize hpr : proc x.pass ts x.mask rows rows.length = pr at *
  obtain ⟨pl, pc⟩ := pr
  dsimp only at hg1 hpl F1 hzi
  rw [← hg1] at hzi
  have hki : I1.map keyI = I.map keyI := hkeys
  have hl1 : I1.length = rows.length := by rw [← hpl, ← hg1, List.length_map]
  have hc1 : I1.map (·.cluster) = (List.range rows.length).map clusterAt := by
    have := congrArg (List.map fun q : Addr × Addr × Int × Int => q.2.2.1) hki
    rw [List.map_map, List.map_map] at this
    have e2 : I.length = rows.length := by have := congrArg List.length hg; simpa using this
    rw [← e2, ← hc]; exact this
  have hm1 : I1.map (·.mask) = rows.map (·.2) := by
    have := congrArg (List.map fun q : Addr × Addr × Int × Int => q.2.2.2) hki
    rw [List.map_map, List.map_map] at this
    rw [← hm]; exact this
  walk_at "STEPS"
  k_dflt (refine LCg.ListComp_U (F₀ := by k_asm) (by rfl) (by decide) (by rfl) (by decide) (by rfl) ?_)
  walk_at "STEPS"
  rename IsRange _ _ _ _ _ _ _ _ => hrg
  rename Fr _ _ _ _ => kF
  rename News _ _ _ _ => kN
  refine LCg.CompSrc.range (n := ps.length) hh kF kN hrg (small_one (by omega) (by omega) (by omega) (by omega)) (by rw [rangeSize_nat, Int.sub_zero, Int.toNat_natCast]) (by rw [sizeLine_eq]; omega) ?_
  intro g9
  refine compInd (fun i ys nw => nw = ledOf kN ∧ IntsAre ys ((List.range i).map clusterAt)) ⟨rfl, .nil⟩ ?_ ?_
  · rintro i ys nw v Ib oIb Ca oC Da m₂ h3 tk3 E' hi hyl hJ0 hJ1 hC hx F3 N3 off3 ne
    refine hideG ?_
    intro G9 kG9
    obtain ⟨rfl, e1⟩ := hJ0
    obtain ⟨tv, rfl⟩ := hJ1
    refine kG9 ?_
    clear kG9
    try dsimp only [ledOf] at N3 off3
    rw [show (0 : Int) + (i : Int) = (i : Int) by omega] at hx
    try k_fold
    walk_at "STEPS"
    exact cEnd (ledOf kN) (by assumption) (by assumption) (fun p hp => hp) off3 trivial ⟨rfl, by rw [List.range_succ, List.map_append]; exact e1.append (.cons _ _ .nil)⟩
  · rintro ys nw hyl ⟨rfl, e1⟩
    unfold LCg.FinE
    intro D1 h3 tk3 F3 N3 off3
    try dsimp only [ledOf] at N3 off3
    rw [v2, ← hc1] at e1
    replace N3 : News h₀ L h3 ((D1, listOf ys.toArray ys.length) :: ledOf kN) := N3
    try dsimp only [ledOf] at N3
    walk_at "STEPS"
    k_dflt (refine LCg.ListComp_U (F₀ := by k_asm) (by rfl) (by decide) (by rfl) (by decide) (by rfl) ?_)
    walk_at "STEPS"
    rename Fr _ _ _ _ => kF2
    rename News _ _ _ _ => kN2
    have u3 : ∀ p ∈ nw1, p ∈ ledOf kN2 := fun p hp => List.mem_cons_of_mem _ (List.mem_cons_of_mem _ (List.mem_cons_of_mem _ hp))
    refine LCg.CompSrc.ledger hh kF2 kN2 (u3 _ r1) (by rw [sizeLine_eq, List.size_toArray, List.length_map]; omega) ?_
    intro g8
    have hsz2 : (I1.map fun x => Value.ref x.a).toArray.size = I1.length := by rw [List.size_toArray, List.length_map]
    rw [hsz2]
    simp only [List.getElem?_toArray]
    refine compInd (fun i ys nw => nw = ledOf kN2 ∧ IntsAre ys ((I1.map (·.mask)).take i)) ⟨rfl, .nil⟩ ?_ ?_
    · rintro i ys2 nw v Ib oIb Ca oC Da m₂ h4 tk4 E' hi hyl2 hJ0 hv hC hx F4 N4 off4 ne
      refine hideG ?_
      intro G9 kG9
      obtain ⟨rfl, e2⟩ := hJ0
      refine kG9 ?_
      clear kG9
      try dsimp only [ledOf] at N4 off4
      obtain ⟨e, hie⟩ : ∃ e, I1[i]? = some e := ⟨I1[i]'(by omega), by simp⟩
      obtain ⟨q1, q2⟩ := r2 e (List.mem_of_getElem? hie)
      rw [List.getElem?_map, hie] at hv
      cases Option.some.inj hv
      try k_fold
      walk_at "STEPS"
      exact cEnd (ledOf kN2) (by assumption) (by assumption) (fun p hp => hp) off4 (.inr ⟨_, u3 _ r1, rfl, _, rfl⟩) ⟨rfl, by rw [List.take_add_one, List.getElem?_map, hie]; exact e2.append (.cons _ _ .nil)⟩
    · rintro ys2 nw hyl2 ⟨rfl, e2⟩
      unfold LCg.FinE
      intro D2 h4 tk4 F4 N4 off4
      try dsimp only [ledOf] at N4 off4
      rw [List.take_of_length_le (by rw [List.length_map]; exact Nat.le_refl _), hm1] at e2
      replace N4 : News h₀ L h4 ((D2, listOf ys2.toArray ys2.length) :: ledOf kN2) := N4
      try dsimp only [ledOf] at N4
      walk_at "STEPS"
      k_dflt (refine LCg.ListComp_U (F₀ := by k_asm) (by rfl) (by decide) (by rfl) (by decide) (by rfl) ?_)
      walk_at "STEPS"
      rename Fr _ _ _ _ => kF3
      rename News _ _ _ _ => kN3
      have u4 : ∀ p ∈ nw1, p ∈ ledOf kN3 := fun p hp => List.mem_cons_of_mem _ (u3 p hp)
      refine LCg.CompSrc.ledger hh kF3 kN3 (u4 _ v1) (by rw [sizeLine_eq, List.size_toArray]; omega) ?_
      intro g7
      simp only [List.size_toArray, List.getElem?_toArray]
      refine compInd (fun i ys nw => nw = ledOf kN3 ∧ IntsAre ys ((rows.map (·.2)).take i)) ⟨rfl, .nil⟩ ?_ ?_
      · rintro i ys3 nw v Ib oIb Ca oC Da m₂ h5 tk5 E' hi hyl3 hJ0 hv hC hx F5 N5 off5 ne
        refine hideG ?_
        intro G9 kG9
        obtain ⟨rfl, e3⟩ := hJ0
        refine kG9 ?_
        clear kG9
        try dsimp only [ledOf] at N5 off5
        obtain ⟨⟨g', o'⟩, hro⟩ : ∃ p, rows[i]? = some p := ⟨rows[i]'(by omega), by simp⟩
        obtain ⟨tt2, n2, tg2, to2, d1, d2⟩ := v3 i g' o' hro
        rw [d1] at hv
        cases Option.some.inj hv
        try k_fold
        walk_at "STEPS"
        exact cEnd (ledOf kN3) (by assumption) (by assumption) (fun p hp => hp) off5 (.inr ⟨_, u4 _ v1, rfl, _, rfl⟩) ⟨rfl, by rw [List.take_add_one, List.getElem?_map, hro]; exact e3.append (.cons _ _ .nil)⟩
      · rintro ys3 nw hyl3 ⟨rfl, e3⟩
        unfold LCg.FinE
        intro D3 h5 tk5 F5 N5 off5
        try dsimp only [ledOf] at N5 off5
        rw [v2, List.take_of_length_le (by rw [List.length_map]; exact Nat.le_refl _)] at e3
        replace N5 : News h₀ L h5 ((D3, listOf ys3.toArray ys3.length) :: ledOf kN3) := N5
        try dsimp only [ledOf] at N5
        walk_at "STEPS"
        exact h _ _ _ _ F5 N5 (fun p hp hd => List.mem_cons_of_mem _ (u4 _ (hPk p hp hd)))
end
section
example : True := by w_top off; trivial
/-! law, whole but for its first statement -/
theorem lawAll {w : World} {A₀ A : Around} {E : Value → Shared → Prop} {s : Shared} {base h₀ : Heap} {outer : List Env} {env : Env} {L : Addr} {m mg mb : Str → Option Value} {mean : ExcName → Option Value} {loose : List Str} {rest : List (Addr × Obj)} {Q : Flow → Shared → Prop}
  {f pl fa : Addr} {cd : Value} {oT oR : Obj} {tj : Tok} {np : Nat} (he : env = lawEnv L fa cd) (hE : PassesOwn (model pw w) A env E) (C : Cx w A₀ A base h₀ outer env L mg mb mean loose 60) (F : Fr h₀ L s.heap m) (N : News h₀ L s.heap ((L + 2, oR) :: (pl, plc 0 tj np) :: rest)) (hr : ∀ p ∈ rest, p.1 ≠ pl) (hr2 : ∀ p ∈ rest, p.1 ≠ L + 2) (hpl : @Ne Nat pl (L + 2)) (V : TakerIn f pl rest)
  (hT : (L + 1, oT) ∈ rest) (hT2 : oT.data = .cell (some (.ref f))) (hR2 : oR.data = .cell none)
  (h : ∀ m' R' h' tk, Fr h₀ L h' m' → News h₀ L h' R' → (∀ p ∈ rest, p ∈ R') → Q (.ret (.bool true)) { s with heap := h', toks := tk }) :
  wpAny (model pw w) A (execs (lawT 1) env) Q E s := by
  refine lawA he C F N hr hr2 hpl V hT hT2 hR2 ?_
  intro rl tbl oR2 pass mask tm nb rows tabs r R h1 tk1 F1 N1 s1 hR hRd VR m1 m2 htb ht2 hTt
  refine lawB he hE C F1 N1 htb hTt ht2 ?_
  intro tl ts R2 r2 h2 tk2 F2 N2 s2 TS hfire
  refine lawC he hE C F2 N2 (s2 _ hR) hRd (VR.mono s2) ?_
  intro il I R3 r3 h3 tk3 F3 N3 s3 RI sep hg hm hc
  refine lawD he hE C F3 N3 TS s3 sep (fun x hx => ⟨_, (RI.r2 x hx).2⟩) ?_
  intro x fx R4 r4 h4 tk4 F4 N4 s4 sfx sep4 S TS4 e1 e2 e3
  subst e1
  subst e2
  subst e3
  have u4 : ∀ p ∈ R, p ∈ R4 := fun p hp => s4 p (s3 p (s2 p hp))
  refine lawE he hE C F4 N4 (u4 _ hR) hRd (VR.mono u4) (u4 _ htb) (fun x hx => (hTt x hx).mono u4) ht2 hfire m1 m2 ?_
  intro la zs n tc R5 r5 h5 tk5 F5 N5 s5 hla hzi
  refine lawF he hE C F5 N5 (s5 _ (u4 _ hR)) hRd (VR.mono fun p hp => s5 p (u4 p hp)) hla hzi S TS4 (fun p hp => s5 p (sfx p hp)) sep4 (RI.mono fun p hp => s5 p (s4 p hp)) hg hm hc ?_
  intro m6 R6 h6 tk6 F6 N6 s6
  exact h m6 R6 h6 tk6 F6 N6 (fun p hp => s6 p (s5 _ (u4 _ (s1 p hp))) (sep p (s2 _ (s1 p hp))))
theorem goA {h₀ h : Heap} {L : Addr} {a1 a2 a3 a4 a5 a6 a7 a8 a9 p q : Addr × Obj} (N : News h₀ L h [a1, a2, p, a3, a4, a5, a6, a7, q, a8, a9]) : News h₀ L h (q :: p :: [a1, a2, a3, a4, a5, a6, a7, a8, a9]) :=
  News.subl N fun x hx => by
    simp only [List.mem_cons, List.not_mem_nil, or_false] at hx ⊢
    rcases hx with h | h | h | h | h | h | h | h | h | h | h <;> simp [h]
theorem goB {h₀ h : Heap} {L : Addr} {a1 a2 a4 a5 a6 a7 a8 a9 p q : Addr × Obj} (N : News h₀ L h [a1, a2, p, a4, a5, a6, a7, q, a8, a9]) : News h₀ L h (q :: p :: [a1, a2, a4, a5, a6, a7, a8, a9]) :=
  News.subl N fun x hx => by
    simp only [List.mem_cons, List.not_mem_nil, or_false] at hx ⊢
    rcases hx with h | h | h | h | h | h | h | h | h | h <;> simp [h]
end
section
example : True := by w_top off; trivial
/-! law's entry -/
theorem entryA {w : World} {A : Around} {E : Value → Shared → Prop} {s : Shared} {base h₀ : Heap} {outer : List Env} {env : Env} {m mg mb : Str → Option Value} {mean : ExcName → Option Value} {loose : List Str} {Q : Flow → Shared → Prop}
  {L f c' pl l1 l2 D L' : Nat} {oc o1 o2 w1 o3 tab : Obj} {qual : Str} {doc pm ctv : Value} {t0 t1 tq : Tok} {ws : List Value} {vs : Array Value} {fa : Addr} {cd : Value}
  (he : env = lawEnv L fa cd) (hE : PassesOwn (model pw w) (A.deeper env) env E) (B : Below A base outer h₀) (X : (hd.heap_39 w.params).In h₀) (T : Top topProg loose mean mg mb h₀) (hh : (A.deeper env).handled = none) (hdep : (A.deeper env).depth + 60 ≤ 500) (hun : (A.deeper env).units + 20 * 60 ≤ 4000) (F : Fr h₀ L s.heap m)
  (N : News h₀ L s.heap [(f, fnMade (Str.ofString "take") qual takeArgs takeBody takeScope [(Str.ofString "place", L' + 1 + 1), (Str.ofString "cells", L' + 1)] doc pm c' ctv), (c', oc), (pl, listOf #[Value.int 0 t0] 0), (l1, listOf #[Value.int 1 t1] 0), (l2, listOf #[] 0), (D, listOf (List.toArray ws) 0), (L' + 1 + 1, o1), (L' + 1, o2), (L + 1 + 1, w1), (L + 1, o3), (676, tab)])
  (d1 : oc.data = .fields vs) (d2 : vs[1]? = some (.str qual tq)) (dp : o1.data = .cell (some (.ref pl))) (dc : o2.data = .cell (some (.ref l1))) (dT : o3.data = .cell (some (.ref f))) (dR : w1.data = .cell none) 
  (g1 : L + 1 + 1 < L' ∧ L + 1 < L' ∧ 676 < L') (g2 : L' + 1 + 1 < D ∧ L' + 1 < D ∧ L + 1 + 1 < D ∧ L + 1 < D ∧ 676 < D) (g3 : D < l2 ∧ L' + 1 + 1 < l2 ∧ L' + 1 < l2 ∧ L + 1 + 1 < l2 ∧ L + 1 < l2 ∧ 676 < l2) (g4 : l2 < l1 ∧ D < l1 ∧ L' + 1 + 1 < l1 ∧ L' + 1 < l1 ∧ L + 1 + 1 < l1 ∧ L + 1 < l1 ∧ 676 < l1) (g5 : l1 < pl ∧ l2 < pl ∧ D < pl ∧ L' + 1 + 1 < pl ∧ L' + 1 < pl ∧ L + 1 + 1 < pl ∧ L + 1 < pl ∧ 676 < pl) (g6 : pl < c' ∧ l1 < c' ∧ l2 < c' ∧ D < c' ∧ L' + 1 + 1 < c' ∧ L' + 1 < c' ∧ L + 1 + 1 < c' ∧ L + 1 < c' ∧ 676 < c') (g7 : c' < f) (g8 : 676 < L)
  (h : ∀ m' R' h' tk, Fr h₀ L h' m' → News h₀ L h' R' → (676, tab) ∈ R' → Q (.ret (.bool true)) { s with heap := h', toks := tk }) :
  wpAny (model pw w) (A.deeper env) (execs (lawT 1) env) Q E s := by
  refine lawAll he hE ⟨B, X, T, Around.frames_deeper (Below.stack B), by rw [he]; rfl, by rw [he]; rfl, hh, hdep, hun⟩ F (goA N) ?hr ?hr2 (by omega) ⟨_, _, _, _, _, _, _, _, _, _, _, _, _, _, _, _, List.mem_cons_self, List.mem_cons_of_mem _ (List.mem_cons_self), d1, d2, List.mem_cons_of_mem _ (List.mem_cons_of_mem _ (List.mem_cons_of_mem _ (List.mem_cons_of_mem _ (List.mem_cons_of_mem _ (List.mem_cons_of_mem _ (List.mem_cons_self)))))), dc, List.mem_cons_of_mem _ (List.mem_cons_of_mem _ (List.mem_cons_of_mem _ (List.mem_cons_of_mem _ (List.mem_cons_of_mem _ (List.mem_cons_self))))), dp, List.mem_cons_of_mem _ (List.mem_cons_of_mem _ (List.mem_cons_self)), .cons _ t1 .nil, by decide, by decide⟩ (List.mem_cons_of_mem _ (List.mem_cons_of_mem _ (List.mem_cons_of_mem _ (List.mem_cons_of_mem _ (List.mem_cons_of_mem _ (List.mem_cons_of_mem _ (List.mem_cons_of_mem _ (List.mem_cons_self)))))))) dT dR fun m' R' h' tk F' N' s' => h m' R' h' tk F' N' (s' _ (List.mem_cons_of_mem _ (List.mem_cons_of_mem _ (List.mem_cons_of_mem _ (List.mem_cons_of_mem _ (List.mem_cons_of_mem _ (List.mem_cons_of_mem _ (List.mem_cons_of_mem _ (List.mem_cons_of_mem _ (List.mem_cons_self))))))))))
  case hr =>
    intro p hp
    rcases List.mem_cons.mp hp with rfl | hp; exact (by omega : @Ne Nat f pl)
    rcases List.mem_cons.mp hp with rfl | hp; exact (by omega : @Ne Nat c' pl)
    rcases List.mem_cons.mp hp with rfl | hp; exact (by omega : @Ne Nat l1 pl)
    rcases List.mem_cons.mp hp with rfl | hp; exact (by omega : @Ne Nat l2 pl)
    rcases List.mem_cons.mp hp with rfl | hp; exact (by omega : @Ne Nat D pl)
    rcases List.mem_cons.mp hp with rfl | hp; exact (by omega : @Ne Nat (L' + 1 + 1) pl)
    rcases List.mem_cons.mp hp with rfl | hp; exact (by omega : @Ne Nat (L' + 1) pl)
    rcases List.mem_cons.mp hp with rfl | hp; exact (by omega : @Ne Nat (L + 1) pl)
    rcases List.mem_cons.mp hp with rfl | hp; exact (by omega : @Ne Nat 676 pl)
    exact absurd hp List.not_mem_nil
  case hr2 =>
    intro p hp
    rcases List.mem_cons.mp hp with rfl | hp; exact (by omega : @Ne Nat f (L + 2))
    rcases List.mem_cons.mp hp with rfl | hp; exact (by omega : @Ne Nat c' (L + 2))
    rcases List.mem_cons.mp hp with rfl | hp; exact (by omega : @Ne Nat l1 (L + 2))
    rcases List.mem_cons.mp hp with rfl | hp; exact (by omega : @Ne Nat l2 (L + 2))
    rcases List.mem_cons.mp hp with rfl | hp; exact (by omega : @Ne Nat D (L + 2))
    rcases List.mem_cons.mp hp with rfl | hp; exact (by omega : @Ne Nat (L' + 1 + 1) (L + 2))
    rcases List.mem_cons.mp hp with rfl | hp; exact (by omega : @Ne Nat (L' + 1) (L + 2))
    rcases List.mem_cons.mp hp with rfl | hp; exact (by omega : @Ne Nat (L + 1) (L + 2))
    rcases List.mem_cons.mp hp with rfl | hp; exact (by omega : @Ne Nat 676 (L + 2))
    exact absurd hp List.not_mem_nil
theorem entryB {w : World} {A : Around} {E : Value → Shared → Prop} {s : Shared} {base h₀ : Heap} {outer : List Env} {env : Env} {m mg mb : Str → Option Value} {mean : ExcName → Option Value} {loose : List Str} {Q : Flow → Shared → Prop}
  {L f c' pl l2 D L' : Nat} {oc o1 o2 w1 o3 tab : Obj} {qual : Str} {doc pm ctv : Value} {t0 tq : Tok} {ws : List Value} {ns : List Int} {vs : Array Value} {fa : Addr} {cd : Value}
  (he : env = lawEnv L fa cd) (hE : PassesOwn (model pw w) (A.deeper env) env E) (B : Below A base outer h₀) (X : (hd.heap_39 w.params).In h₀) (T : Top topProg loose mean mg mb h₀) (hh : (A.deeper env).handled = none) (hdep : (A.deeper env).depth + 60 ≤ 500) (hun : (A.deeper env).units + 20 * 60 ≤ 4000) (F : Fr h₀ L s.heap m)
  (N : News h₀ L s.heap [(f, fnMade (Str.ofString "take") qual takeArgs takeBody takeScope [(Str.ofString "place", L' + 1 + 1), (Str.ofString "cells", L' + 1)] doc pm c' ctv), (c', oc), (pl, listOf #[Value.int 0 t0] 0), (l2, listOf #[] 0), (D, listOf (List.toArray ws) 0), (L' + 1 + 1, o1), (L' + 1, o2), (L + 1 + 1, w1), (L + 1, o3), (676, tab)])
  (d1 : oc.data = .fields vs) (d2 : vs[1]? = some (.str qual tq)) (dp : o1.data = .cell (some (.ref pl))) (dc : o2.data = .cell (some (.ref D))) (dT : o3.data = .cell (some (.ref f))) (dR : w1.data = .cell none) (hi : IntsAre ws ns) (hn : decide (ns = []) = false) (hn2 : ns.length ≤ 63) 
  (g1 : L + 1 + 1 < L' ∧ L + 1 < L' ∧ 676 < L') (g2 : L' + 1 + 1 < D ∧ L' + 1 < D ∧ L + 1 + 1 < D ∧ L + 1 < D ∧ 676 < D) (g3 : D < l2 ∧ L' + 1 + 1 < l2 ∧ L' + 1 < l2 ∧ L + 1 + 1 < l2 ∧ L + 1 < l2 ∧ 676 < l2) (g5 : l2 < pl ∧ D < pl ∧ L' + 1 + 1 < pl ∧ L' + 1 < pl ∧ L + 1 + 1 < pl ∧ L + 1 < pl ∧ 676 < pl) (g6 : pl < c' ∧ l2 < c' ∧ D < c' ∧ L' + 1 + 1 < c' ∧ L' + 1 < c' ∧ L + 1 + 1 < c' ∧ L + 1 < c' ∧ 676 < c') (g7 : c' < f) (g8 : 676 < L)
  (h : ∀ m' R' h' tk, Fr h₀ L h' m' → News h₀ L h' R' → (676, tab) ∈ R' → Q (.ret (.bool true)) { s with heap := h', toks := tk }) :
  wpAny (model pw w) (A.deeper env) (execs (lawT 1) env) Q E s := by
  refine lawAll he hE ⟨B, X, T, Around.frames_deeper (Below.stack B), by rw [he]; rfl, by rw [he]; rfl, hh, hdep, hun⟩ F (goB N) ?hr ?hr2 (by omega) ⟨_, _, _, _, _, _, _, _, _, _, _, _, _, _, _, _, List.mem_cons_self, List.mem_cons_of_mem _ (List.mem_cons_self), d1, d2, List.mem_cons_of_mem _ (List.mem_cons_of_mem _ (List.mem_cons_of_mem _ (List.mem_cons_of_mem _ (List.mem_cons_of_mem _ (List.mem_cons_self))))), dc, List.mem_cons_of_mem _ (List.mem_cons_of_mem _ (List.mem_cons_of_mem _ (List.mem_cons_of_mem _ (List.mem_cons_self)))), dp, List.mem_cons_of_mem _ (List.mem_cons_of_mem _ (List.mem_cons_of_mem _ (List.mem_cons_self))), hi, by rcases ns with _ | ⟨a, b⟩; exact absurd hn (by decide); simp, hn2⟩ (List.mem_cons_of_mem _ (List.mem_cons_of_mem _ (List.mem_cons_of_mem _ (List.mem_cons_of_mem _ (List.mem_cons_of_mem _ (List.mem_cons_of_mem _ (List.mem_cons_self))))))) dT dR fun m' R' h' tk F' N' s' => h m' R' h' tk F' N' (s' _ (List.mem_cons_of_mem _ (List.mem_cons_of_mem _ (List.mem_cons_of_mem _ (List.mem_cons_of_mem _ (List.mem_cons_of_mem _ (List.mem_cons_of_mem _ (List.mem_cons_of_mem _ (List.mem_cons_self)))))))))
  case hr =>
    intro p hp
    rcases List.mem_cons.mp hp with rfl | hp; exact (by omega : @Ne Nat f pl)
    rcases List.mem_cons.mp hp with rfl | hp; exact (by omega : @Ne Nat c' pl)
    rcases List.mem_cons.mp hp with rfl | hp; exact (by omega : @Ne Nat l2 pl)
    rcases List.mem_cons.mp hp with rfl | hp; exact (by omega : @Ne Nat D pl)
    rcases List.mem_cons.mp hp with rfl | hp; exact (by omega : @Ne Nat (L' + 1 + 1) pl)
    rcases List.mem_cons.mp hp with rfl | hp; exact (by omega : @Ne Nat (L' + 1) pl)
    rcases List.mem_cons.mp hp with rfl | hp; exact (by omega : @Ne Nat (L + 1) pl)
    rcases List.mem_cons.mp hp with rfl | hp; exact (by omega : @Ne Nat 676 pl)
    exact absurd hp List.not_mem_nil
  case hr2 =>
    intro p hp
    rcases List.mem_cons.mp hp with rfl | hp; exact (by omega : @Ne Nat f (L + 2))
    rcases List.mem_cons.mp hp with rfl | hp; exact (by omega : @Ne Nat c' (L + 2))
    rcases List.mem_cons.mp hp with rfl | hp; exact (by omega : @Ne Nat l2 (L + 2))
    rcases List.mem_cons.mp hp with rfl | hp; exact (by omega : @Ne Nat D (L + 2))
    rcases List.mem_cons.mp hp with rfl | hp; exact (by omega : @Ne Nat (L' + 1 + 1) (L + 2))
    rcases List.mem_cons.mp hp with rfl | hp; exact (by omega : @Ne Nat (L' + 1) (L + 2))
    rcases List.mem_cons.mp hp with rfl | hp; exact (by omega : @Ne Nat (L + 1) (L + 2))
    rcases List.mem_cons.mp hp with rfl | hp; exact (by omega : @Ne Nat 676 (L + 2))
    exact absurd hp List.not_mem_nil
end
section
example : True := by w_top off; trivial
theorem lawBody_0 : lawBody = lawS 0 :: lawT 1 := rfl
theorem law_try : PySem.Challenge.rw_pb0207_01.Holds := hd (by
  k_go0
  (all_goals try k_fold)
  obtain ⟨q1, hq⟩ : ∃ q, q = lawT 1 := ⟨_, rfl⟩
  (show wpAny _ _ (execs (lawS 0 :: lawT 1) _) _ _ _)
  rw [← hq]
  conv in lawS 0 => whnf
  walk_at "STEPS"
  · rename News _ _ _ _ => Nz
    rename Fr _ _ _ _ => Fz
    subst hq
    rename Below callerA _ _ _ => KB
    rename (Obj.data _ = Data.cell _) => dT
    refine' entryA rfl ?hE KB ?X ?T rfl ?hdep ?hun Fz Nz ?d1 ?d2 ?dp ?dc dT ?dR ?g1 ?g2 ?g3 ?g4 ?g5 ?g6 ?g7 ?g8 ?h
    case hE => passes_own
    case X => with_reducible assumption
    case T => with_reducible assumption
    case hdep => (simp only [depth_deeper, depth_caller]; omega)
    case hun => (simp only [units_deeper, units_caller]; omega)
    case d1 => with_reducible assumption
    case d2 => with_reducible assumption
    case dp => with_reducible assumption
    case dc => with_reducible assumption
    case dR => assumption
    case g1 => with_reducible assumption
    case g2 => with_reducible assumption
    case g3 => with_reducible assumption
    case g4 => with_reducible assumption
    case g5 => with_reducible assumption
    case g6 => with_reducible assumption
    case g7 => with_reducible assumption
    case g8 => with_reducible assumption
    case h => 
      intro m' R' h' tk F' N' hmem
      refine ⟨?_, GrownAt.of N' hmem, trivial⟩
      k_end
      wrow_close
  · rename News _ _ _ _ => Nz
    rename Fr _ _ _ _ => Fz
    subst hq
    rename Below callerA _ _ _ => KB
    rename (Obj.data _ = Data.cell _) => dT
    refine' entryB rfl ?hE KB ?X ?T rfl ?hdep ?hun Fz Nz ?d1 ?d2 ?dp ?dc dT ?dR ?hi ?hn ?hn2 ?g1 ?g2 ?g3 ?g5 ?g6 ?g7 ?g8 ?h
    case hE => passes_own
    case X => with_reducible assumption
    case T => with_reducible assumption
    case hdep => (simp only [depth_deeper, depth_caller]; omega)
    case hun => (simp only [units_deeper, units_caller]; omega)
    case d1 => with_reducible assumption
    case d2 => with_reducible assumption
    case dp => with_reducible assumption
    case dc => with_reducible assumption
    case dR => assumption
    case hi => with_reducible assumption
    case hn => with_reducible assumption
    case hn2 => (rw [List.length_take]; omega)
    case g1 => with_reducible assumption
    case g2 => with_reducible assumption
    case g3 => with_reducible assumption
    case g5 => with_reducible assumption
    case g6 => with_reducible assumption
    case g7 => with_reducible assumption
    case g8 => with_reducible assumption
    case h => 
      intro m' R' h' tk F' N' hmem
      refine ⟨?_, GrownAt.of N' hmem, trivial⟩
      k_end
      wrow_close)
end
end Mine
theorem PySem.Challenge.cw_pb0207_01_holds : PySem.Challenge.rw_pb0207_01.Holds := by
  exact Mine.law_try
