import PyProof.Rows.All
import Wide.All
import OpenK.AllK
import Wide.FinOn
import Lean
import PySem.Challenge.RW_nz0313_01
open PySem PySem.W PySem.Spec PySem.Calls PyProof.Rows
set_option Elab.async false
set_option maxRecDepth 100000
set_option maxHeartbeats 4000000
namespace Nz
theorem same_names : PySem.W.namesOk = PySem.W.namesOk := rfl
name_quick tw2819432545549748658 for PySem.W.namesOk by Nz.same_names
name_quick tw7699655799604999920 for PySem.W.namesOk by Nz.same_names
name_quick tw18196499531573358007 for PySem.W.namesOk by Nz.same_names
name_quick tw8282073961967752520 for PySem.W.namesOk by Nz.same_names
name_quick tw6531835878490125060 for PySem.W.namesOk by Nz.same_names
name_quick tw3274716256144219796 for PySem.W.namesOk by Nz.same_names
name_quick tw9623186674031116520 for PySem.W.namesOk by Nz.same_names
name_quick tw6474002174575081873 for PySem.W.namesOk by Nz.same_names
name_quick tw4938849382990063325 for PySem.W.namesOk by Nz.same_names
name_quick tw17439230889096866096 for PySem.W.namesOk by Nz.same_names
name_quick tw6155857187873421361 for PySem.W.namesOk by Nz.same_names
name_quick tw16024071998012980747 for PySem.W.namesOk by Nz.same_names
name_quick tw7115238942515636395 for PySem.W.namesOk by Nz.same_names
name_quick tw16949351786038464402 for PySem.W.namesOk by Nz.same_names
name_quick tw13615375772246267500 for PySem.W.namesOk by Nz.same_names
name_quick tw4024449640853804638 for PySem.W.namesOk by Nz.same_names
name_quick tw17900173929718771077 for PySem.W.namesOk by Nz.same_names
name_quick tw1672469069773056789 for PySem.W.namesOk by Nz.same_names
name_quick tw677978537376295106 for PySem.W.namesOk by Nz.same_names
name_quick tw11916454040272143744 for PySem.W.namesOk by Nz.same_names
name_quick tw14620802808712860413 for PySem.W.namesOk by Nz.same_names
name_quick tw6877249995594944353 for PySem.W.namesOk by Nz.same_names
name_quick tw4563212606613628606 for PySem.W.namesOk by Nz.same_names
name_quick tw14195670158886678494 for PySem.W.namesOk by Nz.same_names
name_quick tw2243018953206625828 for PySem.W.namesOk by Nz.same_names
name_quick tw2267386611515970074 for PySem.W.namesOk by Nz.same_names
name_quick tw8778222145019059789 for PySem.W.namesOk by Nz.same_names
name_quick tw12230521112637773217 for PySem.W.namesOk by Nz.same_names
name_quick tw18378842793862333944 for PySem.W.namesOk by Nz.same_names
name_quick tw10017239433855489030 for PySem.W.namesOk by Nz.same_names
name_quick tw7658226340879141270 for PySem.W.namesOk by Nz.same_names
name_quick tw9476067599253817038 for PySem.W.namesOk by Nz.same_names
name_quick tw18053625397933518481 for PySem.W.namesOk by Nz.same_names
name_quick tw5473902460895701035 for PySem.W.namesOk by Nz.same_names
name_quick tw4682896323835931375 for PySem.W.namesOk by Nz.same_names
name_quick tw8902863023580736366 for PySem.W.namesOk by Nz.same_names
name_quick tw6670436603057483370 for PySem.W.namesOk by Nz.same_names
name_quick tw4182836146612894567 for PySem.W.namesOk by Nz.same_names
name_quick tw17852030542882173102 for PySem.W.namesOk by Nz.same_names
name_quick tw14036649017471093867 for PySem.W.namesOk by Nz.same_names
name_quick tw17307275315392505149 for PySem.W.namesOk by Nz.same_names
name_quick tw12150963419586420065 for PySem.W.namesOk by Nz.same_names
name_quick tw2168683795533384733 for PySem.W.namesOk by Nz.same_names
name_quick tw17312832269742289132 for PySem.W.namesOk by Nz.same_names
name_quick tw18286308677599540334 for PySem.W.namesOk by Nz.same_names
name_quick tw12759683153624059884 for PySem.W.namesOk by Nz.same_names
name_quick tw8780292490157639287 for PySem.W.namesOk by Nz.same_names
name_quick tw14028002000252489982 for PySem.W.namesOk by Nz.same_names
name_quick tw6535739609309494879 for PySem.W.namesOk by Nz.same_names
name_quick tw9321738776760545701 for PySem.W.namesOk by Nz.same_names
name_quick tw10874179914885215873 for PySem.W.namesOk by Nz.same_names
name_quick tw6535290131246169617 for PySem.W.namesOk by Nz.same_names
name_quick tw11989240089751815601 for PySem.W.namesOk by Nz.same_names
name_quick tw1809800308267992707 for PySem.W.namesOk by Nz.same_names
name_quick tw4212310459613875963 for PySem.W.namesOk by Nz.same_names
name_quick tw15781157524803978912 for PySem.W.namesOk by Nz.same_names
name_quick tw1411722695622285334 for PySem.W.namesOk by Nz.same_names
name_quick tw14221576670988801294 for PySem.W.namesOk by Nz.same_names
name_quick tw10150362324143471908 for PySem.W.namesOk by Nz.same_names
name_quick tw2841558312329267270 for PySem.W.namesOk by Nz.same_names
name_quick tw16846301111168155921 for PySem.W.namesOk by Nz.same_names
name_quick tw14654524883321421963 for PySem.W.namesOk by Nz.same_names
name_quick tw7140646170949734812 for PySem.W.namesOk by Nz.same_names
name_quick tw8484879232684494926 for PySem.W.namesOk by Nz.same_names
name_quick tw6900940995195089590 for PySem.W.namesOk by Nz.same_names
name_quick tw4507003985148737602 for PySem.W.namesOk by Nz.same_names
name_quick tw15253251490301054870 for PySem.W.namesOk by Nz.same_names
name_quick tw14051567174024900471 for PySem.W.namesOk by Nz.same_names
name_quick tw8193692664412036938 for PySem.W.namesOk by Nz.same_names
name_quick tw5045801034794511972 for PySem.W.namesOk by Nz.same_names
name_quick tw4026968692082574444 for PySem.W.namesOk by Nz.same_names
name_quick tw9714630088745755366 for PySem.W.namesOk by Nz.same_names
name_quick tw4037862683547297953 for PySem.W.namesOk by Nz.same_names
name_quick tw1549327448038485782 for PySem.W.namesOk by Nz.same_names
name_quick tw14053271814618955616 for PySem.W.namesOk by Nz.same_names
name_quick tw8589748722994254316 for PySem.W.namesOk by Nz.same_names
name_quick tw2837808562635233126 for PySem.W.namesOk by Nz.same_names
name_quick tw14415010283539893736 for PySem.W.namesOk by Nz.same_names
name_quick tw13437661603265539894 for PySem.W.namesOk by Nz.same_names
name_quick tw4699970221729425778 for PySem.W.namesOk by Nz.same_names
name_quick tw13750756009843436303 for PySem.W.namesOk by Nz.same_names
name_quick tw1592638751161588101 for PySem.W.namesOk by Nz.same_names
name_quick tw72515208957480471 for PySem.W.namesOk by Nz.same_names
name_quick tw5970855872123419897 for PySem.W.namesOk by Nz.same_names
name_quick tw1330542082945191017 for PySem.W.namesOk by Nz.same_names
name_quick tw1050738743235639557 for PySem.W.namesOk by Nz.same_names
name_quick tw8731958688668973481 for PySem.W.namesOk by Nz.same_names
name_quick tw14503548646764204342 for PySem.W.namesOk by Nz.same_names
name_quick tw1065992480926930893 for PySem.W.namesOk by Nz.same_names
name_quick tw3188227349433455897 for PySem.W.namesOk by Nz.same_names
name_quick tw3683522752702536119 for PySem.W.namesOk by Nz.same_names
name_quick tw12306254124069613674 for PySem.W.namesOk by Nz.same_names
name_quick tw8288378106274043851 for PySem.W.namesOk by Nz.same_names
name_quick tw8817384874854809242 for PySem.W.namesOk by Nz.same_names
name_quick tw17601426322176934652 for PySem.W.namesOk by Nz.same_names
name_quick tw2422690262227666370 for PySem.W.namesOk by Nz.same_names
name_quick tw1354261549530561801 for PySem.W.namesOk by Nz.same_names
name_quick tw2199087197499955930 for PySem.W.namesOk by Nz.same_names
name_quick tw7100749531633380928 for PySem.W.namesOk by Nz.same_names
name_quick tw16350530860909819380 for PySem.W.namesOk by Nz.same_names
name_quick tw15525945652543579156 for PySem.W.namesOk by Nz.same_names
name_quick tw6990365663762105584 for PySem.W.namesOk by Nz.same_names
name_quick tw16096807593898652767 for PySem.W.namesOk by Nz.same_names
name_quick tw4183344770996745727 for PySem.W.namesOk by Nz.same_names
name_quick tw5176734964955515898 for PySem.W.namesOk by Nz.same_names
name_quick tw9050599377097819212 for PySem.W.namesOk by Nz.same_names
name_quick tw11102719516471798198 for PySem.W.namesOk by Nz.same_names
name_quick tw5030012125028710096 for PySem.W.namesOk by Nz.same_names
name_quick tw2745436268824060441 for PySem.W.namesOk by Nz.same_names
name_quick tw2819288219636081988 for PySem.W.namesOk by Nz.same_names
name_quick tw16934680458549387424 for PySem.W.namesOk by Nz.same_names
name_quick tw9153777838957339939 for PySem.W.namesOk by Nz.same_names
name_quick tw15789215951243280312 for PySem.W.namesOk by Nz.same_names
name_quick tw5121913217364263304 for PySem.W.namesOk by Nz.same_names
name_quick tw13493862062111737553 for PySem.W.namesOk by Nz.same_names
name_quick tw1370861037754060546 for PySem.W.namesOk by Nz.same_names
name_quick tw996527281023155754 for PySem.W.namesOk by Nz.same_names
name_quick tw12501082965029487246 for PySem.W.namesOk by Nz.same_names
name_quick tw17714016475841967903 for PySem.W.namesOk by Nz.same_names
name_quick tw2167480836188927080 for PySem.W.namesOk by Nz.same_names
name_quick tw727897425623634903 for PySem.W.namesOk by Nz.same_names
name_quick tw11894549063444003916 for PySem.W.namesOk by Nz.same_names
name_quick tw16337722129403444381 for PySem.W.namesOk by Nz.same_names
name_quick tw16753111814099855954 for PySem.W.namesOk by Nz.same_names
name_quick tw8983441293918113392 for PySem.W.namesOk by Nz.same_names
name_quick tw12165220025626887669 for PySem.W.namesOk by Nz.same_names
name_quick tw13012661077542059991 for PySem.W.namesOk by Nz.same_names
name_quick tw3868726086082625324 for PySem.W.namesOk by Nz.same_names
name_quick tw17025053831325459835 for PySem.W.namesOk by Nz.same_names
name_quick tw17247830332780497863 for PySem.W.namesOk by Nz.same_names
name_quick tw7288688486628348995 for PySem.W.namesOk by Nz.same_names
name_quick tw12913170603703355572 for PySem.W.namesOk by Nz.same_names
name_quick tw17446444021104190048 for PySem.W.namesOk by Nz.same_names
name_quick tw12781646611355254911 for PySem.W.namesOk by Nz.same_names
name_quick tw6318313933234372996 for PySem.W.namesOk by Nz.same_names
name_quick tw9318472652788818790 for PySem.W.namesOk by Nz.same_names
name_quick tw14763570391333437605 for PySem.W.namesOk by Nz.same_names
name_quick tw17522170907290319512 for PySem.W.namesOk by Nz.same_names
name_quick tw17345812451129335760 for PySem.W.namesOk by Nz.same_names
name_quick tw6061736843211370888 for PySem.W.namesOk by Nz.same_names
name_quick tw6679698190088648675 for PySem.W.namesOk by Nz.same_names
name_quick tw89867111129334512 for PySem.W.namesOk by Nz.same_names
name_quick tw148495851249542235 for PySem.W.namesOk by Nz.same_names
name_quick tw15262978812731573281 for PySem.W.namesOk by Nz.same_names
name_quick tw2722783669650332926 for PySem.W.namesOk by Nz.same_names
name_quick tw2999700997364315236 for PySem.W.namesOk by Nz.same_names
name_quick tw16231922801105201815 for PySem.W.namesOk by Nz.same_names
name_quick tw9404675352427163441 for PySem.W.namesOk by Nz.same_names
name_quick tw2121032059533797899 for PySem.W.namesOk by Nz.same_names
name_quick tw14621780359736600060 for PySem.W.namesOk by Nz.same_names
name_quick tw6775129877215471815 for PySem.W.namesOk by Nz.same_names
name_quick tw11210101916306713988 for PySem.W.namesOk by Nz.same_names
name_quick tw1747800970104242038 for PySem.W.namesOk by Nz.same_names
name_quick tw14852847423818869567 for PySem.W.namesOk by Nz.same_names
name_quick tw2998412457827784183 for PySem.W.namesOk by Nz.same_names
name_quick tw11731470829874678995 for PySem.W.namesOk by Nz.same_names
name_quick tw12123242500115931100 for PySem.W.namesOk by Nz.same_names
name_quick tw14547145107731957375 for PySem.W.namesOk by Nz.same_names
name_quick tw200913891366858295 for PySem.W.namesOk by Nz.same_names
name_quick tw2774383680102255860 for PySem.W.namesOk by Nz.same_names
name_quick tw7387118864181487013 for PySem.W.namesOk by Nz.same_names
name_quick tw12858071123928493986 for PySem.W.namesOk by Nz.same_names
name_quick tw13044723055914408884 for PySem.W.namesOk by Nz.same_names
name_quick tw9264082525149472082 for PySem.W.namesOk by Nz.same_names
name_quick tw13003269725190299307 for PySem.W.namesOk by Nz.same_names
name_quick tw5698937920377630499 for PySem.W.namesOk by Nz.same_names
name_quick tw6080631119104174942 for PySem.W.namesOk by Nz.same_names
name_quick tw7297796227290139977 for PySem.W.namesOk by Nz.same_names
name_quick tw11935493176806705030 for PySem.W.namesOk by Nz.same_names
name_quick tw6968794188390906078 for PySem.W.namesOk by Nz.same_names
name_quick tw8455626879245290257 for PySem.W.namesOk by Nz.same_names
name_quick tw16632734044767369835 for PySem.W.namesOk by Nz.same_names
name_quick tw15249852932867998670 for PySem.W.namesOk by Nz.same_names
name_quick tw5545699605441467430 for PySem.W.namesOk by Nz.same_names
name_quick tw7581139689156888136 for PySem.W.namesOk by Nz.same_names
name_quick tw463693254107421106 for PySem.W.namesOk by Nz.same_names
name_quick tw18237399260972351071 for PySem.W.namesOk by Nz.same_names
name_quick tw15021162665589256332 for PySem.W.namesOk by Nz.same_names
name_quick tw10900099635494664575 for PySem.W.namesOk by Nz.same_names
name_quick tw12388830108261420471 for PySem.W.namesOk by Nz.same_names
name_quick tw134916096438300559 for PySem.W.namesOk by Nz.same_names
name_quick tw12516056100342392268 for PySem.W.namesOk by Nz.same_names
name_quick tw12536818398022701486 for PySem.W.namesOk by Nz.same_names
name_quick tw8729652351667539751 for PySem.W.namesOk by Nz.same_names
name_quick tw7452020756181318599 for PySem.W.namesOk by Nz.same_names
name_quick tw1796089015043606445 for PySem.W.namesOk by Nz.same_names
name_quick tw41529405773150639 for PySem.W.namesOk by Nz.same_names
name_quick tw2155245870114635896 for PySem.W.namesOk by Nz.same_names
name_quick tw16022952693254113577 for PySem.W.namesOk by Nz.same_names
name_quick tw16639287043273439447 for PySem.W.namesOk by Nz.same_names
name_quick tw17602501373684949271 for PySem.W.namesOk by Nz.same_names
name_quick tw15034507872099116377 for PySem.W.namesOk by Nz.same_names
name_quick tw8473782745731740870 for PySem.W.namesOk by Nz.same_names
name_quick tw12121240563555995872 for PySem.W.namesOk by Nz.same_names
name_quick tw4551023127717996111 for PySem.W.namesOk by Nz.same_names
name_quick tw15594872081485228725 for PySem.W.namesOk by Nz.same_names
name_quick tw15949696573143841709 for PySem.W.namesOk by Nz.same_names
name_quick tw14115852465978065372 for PySem.W.namesOk by Nz.same_names
name_quick tw3353068261071573823 for PySem.W.namesOk by Nz.same_names
name_quick tw17502802370029812300 for PySem.W.namesOk by Nz.same_names
name_quick tw2897184793033618774 for PySem.W.namesOk by Nz.same_names
name_quick tw10611043248499954855 for PySem.W.namesOk by Nz.same_names
name_quick tw6569071649645960843 for PySem.W.namesOk by Nz.same_names
name_quick tw7971268970819308130 for PySem.W.namesOk by Nz.same_names
name_quick tw512752547145188497 for PySem.W.namesOk by Nz.same_names
name_quick tw2002597169675574411 for PySem.W.namesOk by Nz.same_names
name_quick tw17648097854300138574 for PySem.W.namesOk by Nz.same_names
name_quick tw2932035587918987130 for PySem.W.namesOk by Nz.same_names
name_quick tw14578894648601978785 for PySem.W.namesOk by Nz.same_names
name_quick tw8571713178531229803 for PySem.W.namesOk by Nz.same_names
name_quick tw16129610211900674958 for PySem.W.namesOk by Nz.same_names
name_quick tw8786965131209628208 for PySem.W.namesOk by Nz.same_names
name_quick tw10902307878141030959 for PySem.W.namesOk by Nz.same_names
name_quick tw13526296126103755463 for PySem.W.namesOk by Nz.same_names
name_quick tw13103894362343692282 for PySem.W.namesOk by Nz.same_names
name_quick tw5978028428756925184 for PySem.W.namesOk by Nz.same_names
name_quick tw1724659831009684265 for PySem.W.namesOk by Nz.same_names
name_quick tw12290759071489978173 for PySem.W.namesOk by Nz.same_names
name_quick tw10683861272502439948 for PySem.W.namesOk by Nz.same_names
name_quick tw8594843020879179478 for PySem.W.namesOk by Nz.same_names
name_quick tw4900801924355033942 for PySem.W.namesOk by Nz.same_names
name_quick tw4719786954923413825 for PySem.W.namesOk by Nz.same_names
name_quick tw14869864321353379554 for PySem.W.namesOk by Nz.same_names
name_quick tw662437963481351785 for PySem.W.namesOk by Nz.same_names
name_quick tw10646487177000848565 for PySem.W.namesOk by Nz.same_names
name_quick tw6440166736933868410 for PySem.W.namesOk by Nz.same_names
name_quick tw3438323362793471251 for PySem.W.namesOk by Nz.same_names
name_quick tw10133470994206778060 for PySem.W.namesOk by Nz.same_names
name_quick tw10487953409620949712 for PySem.W.namesOk by Nz.same_names
name_quick tw9245494492341763422 for PySem.W.namesOk by Nz.same_names
name_quick tw11008416057164814295 for PySem.W.namesOk by Nz.same_names
name_quick tw13677890906899956654 for PySem.W.namesOk by Nz.same_names
name_quick tw12640715652322644430 for PySem.W.namesOk by Nz.same_names
name_quick tw6703681286921638457 for PySem.W.namesOk by Nz.same_names
name_quick tw5869685688573353781 for PySem.W.namesOk by Nz.same_names
name_quick tw8290695843029269247 for PySem.W.namesOk by Nz.same_names
name_quick tw17972117707780841361 for PySem.W.namesOk by Nz.same_names
name_quick tw8760182814642375671 for PySem.W.namesOk by Nz.same_names
name_quick tw12767695087498247970 for PySem.W.namesOk by Nz.same_names
name_quick tw17071042893299818248 for PySem.W.namesOk by Nz.same_names
name_quick tw711209510984055573 for PySem.W.namesOk by Nz.same_names
name_quick tw10607138215350790266 for PySem.W.namesOk by Nz.same_names
name_quick tw13803750336263601327 for PySem.W.namesOk by Nz.same_names
name_quick tw14273792615477706096 for PySem.W.namesOk by Nz.same_names
name_quick tw1146807218583026342 for PySem.W.namesOk by Nz.same_names
name_quick tw14305066840007935410 for PySem.W.namesOk by Nz.same_names
name_quick tw16010272857796584017 for PySem.W.namesOk by Nz.same_names
name_quick tw3603553550881733628 for PySem.W.namesOk by Nz.same_names
name_quick tw16062700673102278864 for PySem.W.namesOk by Nz.same_names
name_quick tw17284475573404023972 for PySem.W.namesOk by Nz.same_names
name_quick tw677986872600956066 for PySem.W.namesOk by Nz.same_names
name_quick tw16233359424754766419 for PySem.W.namesOk by Nz.same_names
name_quick tw6902135185411263349 for PySem.W.namesOk by Nz.same_names
name_quick tw3487282651179828177 for PySem.W.namesOk by Nz.same_names
name_quick tw13960634739046117844 for PySem.W.namesOk by Nz.same_names
name_quick tw4370223818934811951 for PySem.W.namesOk by Nz.same_names
name_quick tw3932510151713303675 for PySem.W.namesOk by Nz.same_names
name_quick tw2269429491613501377 for PySem.W.namesOk by Nz.same_names
name_quick tw5784607333230492100 for PySem.W.namesOk by Nz.same_names
name_quick tw1602783361509495323 for PySem.W.namesOk by Nz.same_names
name_quick tw1392409962303366433 for PySem.W.namesOk by Nz.same_names
name_quick tw12558577491625750570 for PySem.W.namesOk by Nz.same_names
name_quick tw7105950992365940952 for PySem.W.namesOk by Nz.same_names
name_quick tw15800117001813441962 for PySem.W.namesOk by Nz.same_names
name_quick tw10514454837209579387 for PySem.W.namesOk by Nz.same_names
name_quick tw10624547849583962348 for PySem.W.namesOk by Nz.same_names
name_quick tw686148884207947413 for PySem.W.namesOk by Nz.same_names
name_quick tw14202124326384909777 for PySem.W.namesOk by Nz.same_names
name_quick tw6144627579077300864 for PySem.W.namesOk by Nz.same_names
name_quick tw10535493603314789223 for PySem.W.namesOk by Nz.same_names
name_quick tw4858245698256066152 for PySem.W.namesOk by Nz.same_names
name_quick tw18073762720288448081 for PySem.W.namesOk by Nz.same_names
name_quick tw11814833979115219647 for PySem.W.namesOk by Nz.same_names
name_quick tw7224119358715724390 for PySem.W.namesOk by Nz.same_names
name_quick tw17329058636147526970 for PySem.W.namesOk by Nz.same_names
name_quick tw1389240233073531833 for PySem.W.namesOk by Nz.same_names
name_quick tw18283900410637495314 for PySem.W.namesOk by Nz.same_names
name_quick tw16890191802527311134 for PySem.W.namesOk by Nz.same_names
name_quick tw16133828318135505046 for PySem.W.namesOk by Nz.same_names
name_quick tw421785300912646209 for PySem.W.namesOk by Nz.same_names
name_quick tw2542646419373583282 for PySem.W.namesOk by Nz.same_names
name_quick tw11863552483866365249 for PySem.W.namesOk by Nz.same_names
name_quick tw5803120750897505632 for PySem.W.namesOk by Nz.same_names
name_quick tw14472301945862138082 for PySem.W.namesOk by Nz.same_names
name_quick tw15846451910373888204 for PySem.W.namesOk by Nz.same_names
name_quick tw15928742405511973554 for PySem.W.namesOk by Nz.same_names
name_quick tw4479125220833472498 for PySem.W.namesOk by Nz.same_names
name_quick tw6067616558802700074 for PySem.W.namesOk by Nz.same_names
name_quick tw1720222883529499966 for PySem.W.namesOk by Nz.same_names
name_quick tw14600970973934019752 for PySem.W.namesOk by Nz.same_names
name_quick tw5128877215904172766 for PySem.W.namesOk by Nz.same_names
name_quick tw3729195164827827089 for PySem.W.namesOk by Nz.same_names
name_quick tw9564410102966604664 for PySem.W.namesOk by Nz.same_names
name_quick tw11659222342175296711 for PySem.W.namesOk by Nz.same_names
name_quick tw13941783145844703653 for PySem.W.namesOk by Nz.same_names
name_quick tw248307724299343634 for PySem.W.namesOk by Nz.same_names
name_quick tw3058872486612638481 for PySem.W.namesOk by Nz.same_names
name_quick tw4666414885733308283 for PySem.W.namesOk by Nz.same_names
name_quick tw14623565508521073651 for PySem.W.namesOk by Nz.same_names
name_quick tw12956369113375681884 for PySem.W.namesOk by Nz.same_names
name_quick tw13712195611057781863 for PySem.W.namesOk by Nz.same_names
name_quick tw6113413542169928485 for PySem.W.namesOk by Nz.same_names
name_quick tw8057339650660601772 for PySem.W.namesOk by Nz.same_names
name_quick tw12966405967583246339 for PySem.W.namesOk by Nz.same_names
name_quick tw3857256355278986527 for PySem.W.namesOk by Nz.same_names
name_quick tw8871714970329199683 for PySem.W.namesOk by Nz.same_names
name_quick tw3847785478122162945 for PySem.W.namesOk by Nz.same_names
name_quick tw6647847996147584689 for PySem.W.namesOk by Nz.same_names
name_quick tw3285888866692511895 for PySem.W.namesOk by Nz.same_names
name_quick tw16955897140678699144 for PySem.W.namesOk by Nz.same_names
name_quick tw14752825274980298056 for PySem.W.namesOk by Nz.same_names
name_quick tw10081442030002612805 for PySem.W.namesOk by Nz.same_names
name_quick tw11566066041618948043 for PySem.W.namesOk by Nz.same_names
name_quick tw10874578568114694100 for PySem.W.namesOk by Nz.same_names
name_quick tw11302855944557785106 for PySem.W.namesOk by Nz.same_names
name_quick tw9254443621893756258 for PySem.W.namesOk by Nz.same_names
name_quick tw12028146767474526252 for PySem.W.namesOk by Nz.same_names
name_quick tw10193405777245135262 for PySem.W.namesOk by Nz.same_names
name_quick tw1363085697987115485 for PySem.W.namesOk by Nz.same_names
name_quick tw18240557714057134803 for PySem.W.namesOk by Nz.same_names
name_quick tw5178634921399107211 for PySem.W.namesOk by Nz.same_names
name_quick tw5456202930031806889 for PySem.W.namesOk by Nz.same_names
name_quick tw157989792687634287 for PySem.W.namesOk by Nz.same_names
name_quick tw9955597701517089114 for PySem.W.namesOk by Nz.same_names
name_quick tw4129097718776444682 for PySem.W.namesOk by Nz.same_names
name_quick tw1157171720158120522 for PySem.W.namesOk by Nz.same_names
name_quick tw14097570193537272314 for PySem.W.namesOk by Nz.same_names
name_quick tw14117400494593349766 for PySem.W.namesOk by Nz.same_names
name_quick tw4936725977221092886 for PySem.W.namesOk by Nz.same_names
name_quick tw15846410512980040295 for PySem.W.namesOk by Nz.same_names
name_quick tw12451525149879142958 for PySem.W.namesOk by Nz.same_names
name_quick tw15234041677756371567 for PySem.W.namesOk by Nz.same_names
name_quick tw15546948842248528699 for PySem.W.namesOk by Nz.same_names
name_quick tw7201577616583357790 for PySem.W.namesOk by Nz.same_names
name_quick tw11224812580968360515 for PySem.W.namesOk by Nz.same_names
name_quick tw10657929698998235251 for PySem.W.namesOk by Nz.same_names
name_quick tw8198776032431907488 for PySem.W.namesOk by Nz.same_names
name_quick tw14636571068965931527 for PySem.W.namesOk by Nz.same_names
name_quick tw1840997697232781802 for PySem.W.namesOk by Nz.same_names
name_quick tw220062871060077062 for PySem.W.namesOk by Nz.same_names
name_quick tw75161887302146423 for PySem.W.namesOk by Nz.same_names
name_quick tw9142647894517899278 for PySem.W.namesOk by Nz.same_names
name_quick tw9986886632834001035 for PySem.W.namesOk by Nz.same_names
name_quick tw999554456455915268 for PySem.W.namesOk by Nz.same_names
name_quick tw4177684123298742775 for PySem.W.namesOk by Nz.same_names
name_quick tw8986687507181655543 for PySem.W.namesOk by Nz.same_names
name_quick tw14853038543279191765 for PySem.W.namesOk by Nz.same_names
name_quick tw15571737870248857569 for PySem.W.namesOk by Nz.same_names
name_quick tw10902804258503994646 for PySem.W.namesOk by Nz.same_names
name_quick tw2017223658509179548 for PySem.W.namesOk by Nz.same_names
name_quick tw6205625941393778633 for PySem.W.namesOk by Nz.same_names
name_quick tw3014059156317381838 for PySem.W.namesOk by Nz.same_names
name_quick tw12793395800633756978 for PySem.W.namesOk by Nz.same_names
name_quick tw15270301779290564207 for PySem.W.namesOk by Nz.same_names
name_quick tw15392801492293311600 for PySem.W.namesOk by Nz.same_names
name_quick tw13995908448733588373 for PySem.W.namesOk by Nz.same_names
name_quick tw802836694971418940 for PySem.W.namesOk by Nz.same_names
name_quick tw1538692798949202551 for PySem.W.namesOk by Nz.same_names
name_quick tw510284972539062758 for PySem.W.namesOk by Nz.same_names
name_quick tw9689259313088189939 for PySem.W.namesOk by Nz.same_names
name_quick tw11635323072157276617 for PySem.W.namesOk by Nz.same_names
name_quick tw8142089952914615494 for PySem.W.namesOk by Nz.same_names
name_quick tw2730004836748407167 for PySem.W.namesOk by Nz.same_names
name_quick tw11097867959561650007 for PySem.W.namesOk by Nz.same_names
name_quick tw13718855212370705507 for PySem.W.namesOk by Nz.same_names
name_quick tw4716980479295176202 for PySem.W.namesOk by Nz.same_names
name_quick tw1835016363878270250 for PySem.W.namesOk by Nz.same_names
name_quick tw8518912495374931084 for PySem.W.namesOk by Nz.same_names
name_quick tw8668394593595650635 for PySem.W.namesOk by Nz.same_names
name_quick tw4018637462854328677 for PySem.W.namesOk by Nz.same_names
name_quick tw15021993374154906191 for PySem.W.namesOk by Nz.same_names
name_quick tw8587367998562081214 for PySem.W.namesOk by Nz.same_names
name_quick tw6573457669513510696 for PySem.W.namesOk by Nz.same_names
name_quick tw9681342517226604789 for PySem.W.namesOk by Nz.same_names
name_quick tw8486029159192562911 for PySem.W.namesOk by Nz.same_names
name_quick tw16384539410087158128 for PySem.W.namesOk by Nz.same_names
name_quick tw18158419949166365913 for PySem.W.namesOk by Nz.same_names
name_quick tw11862492900574913666 for PySem.W.namesOk by Nz.same_names
name_quick tw18301791812616959639 for PySem.W.namesOk by Nz.same_names
name_quick tw15339748624452355708 for PySem.W.namesOk by Nz.same_names
name_quick tw1791788700154246059 for PySem.W.namesOk by Nz.same_names
name_quick tw16417417606290635147 for PySem.W.namesOk by Nz.same_names
name_quick tw14924119694764992039 for PySem.W.namesOk by Nz.same_names
name_quick tw4914323002186166384 for PySem.W.namesOk by Nz.same_names
name_quick tw16656059825198868124 for PySem.W.namesOk by Nz.same_names
name_quick tw2201715055903984887 for PySem.W.namesOk by Nz.same_names
name_quick tw6634460238947862813 for PySem.W.namesOk by Nz.same_names
name_quick tw8284315901204493614 for PySem.W.namesOk by Nz.same_names
name_quick tw16692983603954490646 for PySem.W.namesOk by Nz.same_names
name_quick tw2789965100968944437 for PySem.W.namesOk by Nz.same_names
name_quick tw5864058762722985405 for PySem.W.namesOk by Nz.same_names
name_quick tw6588574213518135927 for PySem.W.namesOk by Nz.same_names
name_quick tw13612651268790728211 for PySem.W.namesOk by Nz.same_names
name_quick tw16326067180485700945 for PySem.W.namesOk by Nz.same_names
set_option maxHeartbeats 8000000 in
open_top hd for PySem.Challenge.rw_nz0313_01
local macro_rules | `(tactic| walk_at $s:str) => `(tactic| k_extra $s)
noncomputable abbrev lo : List Str := looseW hd.view_39 [Str.ofString "PostError", Str.ofString "MOST_ZONE", Str.ofString "moment_of"]

/-- A call from a def's frame: it leaves the ledger as it was, but for `tl`, which it made; what comes back and what was made is told by `Out`. -/
def Spc (w : World) (dep : Nat) (f : Value) (vs : List Value) (In : List (Addr × Obj) → Prop) (Out : List (Addr × Obj) → Value → List (Addr × Obj) → Prop) : Prop :=
  ∀ (mean : ExcName → Option Value) (mg mb : Str → Option Value) (dp un : Nat) (gd : Option (List Code)) (cn : Str) (cs : Scope) (a : Addr) (ccd : Value) (cl : List (Str × Addr)) (outer : List Env) (A₀ : Around) (base h₀ : Heap) (L : Addr) (m : Str → Option Value) (news : List (Addr × Obj)) (s : Shared) (Q E : Value → Shared → Prop),
    Below A₀ base outer h₀ → Fr h₀ L s.heap m → (hd.heap_39 w.params).In h₀ → News h₀ L s.heap news → Top hd.view_39 lo mean mg mb h₀ → cs.kind = .function →
    dp + dep < recursionLimit → un + 8 * dep < cLine → In news →
    (∀ v news' h' tk', Fr h₀ L h' m → News h₀ L h' news' → Out news v news' → Q v { s with heap := h', toks := tk' }) →
    wpAny (model PySem.Challenge.rw_nz0313_01.row.prog w) (ktrTop dp un gd cn cs L a ccd cl outer) (call f vs) Q E s

abbrev Pur (w : World) (dep : Nat) (f : Value) (vs : List Value) (R : Value → Prop) : Prop := Spc w dep f vs (fun _ => True) (fun news v news' => news' = news ∧ R v)

theorem spc_use {w : World} {dep : Nat} {f : Value} {vs : List Value} {In : List (Addr × Obj) → Prop} {Out : List (Addr × Obj) → Value → List (Addr × Obj) → Prop}
    (C : Spc w dep f vs In Out)
    {mean : ExcName → Option Value} {mg mb : Str → Option Value} {dp un : Nat} {gd : Option (List Code)} {cn : Str} {cs : Scope} {a : Addr} {ccd : Value} {cl : List (Str × Addr)} {outer : List Env} {A₀ : Around} {base h₀ : Heap} {L : Addr} {m : Str → Option Value} {news : List (Addr × Obj)} {s : Shared} {Q E : Value → Shared → Prop}
    (B : Below A₀ base outer h₀) (F : Fr h₀ L s.heap m) (X : (hd.heap_39 w.params).In h₀) (N : News h₀ L s.heap news) (T : Top hd.view_39 lo mean mg mb h₀) (hk : cs.kind = .function)
    (hd' : dp + dep < recursionLimit) (hu : un + 8 * dep < cLine) (hi : In news)
    (ret : ∀ v news' h' tk', Fr h₀ L h' m → News h₀ L h' news' → Out news v news' → Q v { s with heap := h', toks := tk' }) :
    wpAny (model PySem.Challenge.rw_nz0313_01.row.prog w) (ktrTop dp un gd cn cs L a ccd cl outer) (call f vs) Q E s :=
  C mean mg mb dp un gd cn cs a ccd cl outer A₀ base h₀ L m news s Q E B F X N T hk hd' hu hi ret

theorem pur_use {w : World} {dep : Nat} {f : Value} {vs : List Value} {R : Value → Prop}
    (C : Pur w dep f vs R)
    {mean : ExcName → Option Value} {mg mb : Str → Option Value} {dp un : Nat} {gd : Option (List Code)} {cn : Str} {cs : Scope} {a : Addr} {ccd : Value} {cl : List (Str × Addr)} {outer : List Env} {A₀ : Around} {base h₀ : Heap} {L : Addr} {m : Str → Option Value} {news : List (Addr × Obj)} {s : Shared} {Q E : Value → Shared → Prop}
    (B : Below A₀ base outer h₀) (F : Fr h₀ L s.heap m) (X : (hd.heap_39 w.params).In h₀) (N : News h₀ L s.heap news) (T : Top hd.view_39 lo mean mg mb h₀) (hk : cs.kind = .function)
    (hd' : dp + dep < recursionLimit) (hu : un + 8 * dep < cLine)
    (ret : ∀ v h' tk', Fr h₀ L h' m → News h₀ L h' news → R v → Q v { s with heap := h', toks := tk' }) :
    wpAny (model PySem.Challenge.rw_nz0313_01.row.prog w) (ktrTop dp un gd cn cs L a ccd cl outer) (call f vs) Q E s :=
  C mean mg mb dp un gd cn cs a ccd cl outer A₀ base h₀ L m news s Q E B F X N T hk hd' hu trivial (by
    intro v n' h' tk' F' N' ⟨e, r⟩
    subst e
    exact ret v h' tk' F' N' r)

theorem spcp_use {w : World} {dep : Nat} {f : Value} {vs : List Value} {In : List (Addr × Obj) → Prop} {R : Value → Prop}
    (C : Spc w dep f vs In (fun news v news' => news' = news ∧ R v))
    {mean : ExcName → Option Value} {mg mb : Str → Option Value} {dp un : Nat} {gd : Option (List Code)} {cn : Str} {cs : Scope} {a : Addr} {ccd : Value} {cl : List (Str × Addr)} {outer : List Env} {A₀ : Around} {base h₀ : Heap} {L : Addr} {m : Str → Option Value} {news : List (Addr × Obj)} {s : Shared} {Q E : Value → Shared → Prop}
    (B : Below A₀ base outer h₀) (F : Fr h₀ L s.heap m) (X : (hd.heap_39 w.params).In h₀) (N : News h₀ L s.heap news) (T : Top hd.view_39 lo mean mg mb h₀) (hk : cs.kind = .function)
    (hd' : dp + dep < recursionLimit) (hu : un + 8 * dep < cLine) (hi : In news)
    (ret : ∀ v h' tk', Fr h₀ L h' m → News h₀ L h' news → R v → Q v { s with heap := h', toks := tk' }) :
    wpAny (model PySem.Challenge.rw_nz0313_01.row.prog w) (ktrTop dp un gd cn cs L a ccd cl outer) (call f vs) Q E s :=
  C mean mg mb dp un gd cn cs a ccd cl outer A₀ base h₀ L m news s Q E B F X N T hk hd' hu hi (by
    intro v n' h' tk' F' N' ⟨e, r⟩
    subst e
    exact ret v h' tk' F' N' r)

theorem news_drop {h₀ h : Heap} {L : Addr} {news news' : List (Addr × Obj)} (N : News h₀ L h news') (hs : ∀ p ∈ news, p ∈ news') : News h₀ L h news := fun p hp => N p (hs p hp)
theorem nz_str {x y : Str} {t : Tok} (h : x = y) : ∃ t', Value.str x t = Value.str y t' := ⟨t, h ▸ rfl⟩
theorem nz_bytes {x y : Array UInt8} {t : Tok} (h : x = y) : ∃ t', Value.bytes x t = Value.bytes y t' := ⟨t, h ▸ rfl⟩
local macro_rules | `(tactic| k_mem) => `(tactic| (show (_ : Addr × Obj) ∈ (_ : List (Addr × Obj)); ktr_member))
local macro_rules | `(tactic| k_room) => `(tactic| ktr_room)
local macro_rules | `(tactic| k_units) => `(tactic| first | exact Nat.le_of_ble_eq_true rfl | ktr_units)
local macro_rules | `(tactic| units_room) => `(tactic| ktr_units)
theorem Spc.mono {w : World} {dep : Nat} {f : Value} {vs : List Value} {In : List (Addr × Obj) → Prop} {Out Out2 : List (Addr × Obj) → Value → List (Addr × Obj) → Prop} (C : Spc w dep f vs In Out)
    (h : ∀ news v news', Out news v news' → Out2 news v news') : Spc w dep f vs In Out2 := by
  unfold Spc at *
  intro mean mg mb dp un gd cn cs a ccd cl outer A₀ base h₀ L m news s Q E B F X N T hk hd hu hi ret
  exact C mean mg mb dp un gd cn cs a ccd cl outer A₀ base h₀ L m news s Q E B F X N T hk hd hu hi fun v news' h' tk' F' N' o => ret v news' h' tk' F' N' (h _ _ _ o)
theorem ku_a {un a c k b : Nat} (h : un + a < c) (hb : Nat.ble (k + b) a = true) : un + k + b < c := by have := Nat.le_of_ble_eq_true hb; omega
theorem ku_b {un a c b : Nat} (h : un + a < c) (hb : Nat.ble b a = true) : un + b < c := by have := Nat.le_of_ble_eq_true hb; omega
theorem ku_c {un a c : Nat} (h : un + a < c) : un < c := by omega
/-- The walk stops here. -/
def Hold (p : Prop) : Prop := p
theorem hold {p : Prop} (h : Hold p) : p := h
theorem unhold {p : Prop} (h : p) : Hold p := h
theorem fr_eq {g h : Heap} {L : Addr} {m m' : Str → Option Value} (F : Fr g L h m) (e : m = m') : Fr g L h m' := e ▸ F
theorem lk_hit {x : Str} {v : Value} {l : List (Str × Value)} : List.lookup x ((x, v) :: l) = some v := by rw [List.lookup_cons, beq_self_eq_true]
theorem lk_miss {x k : Str} {v : Value} {l : List (Str × Value)} {o : Option Value} (hx : (x == k) = false) (h : List.lookup x l = o) : List.lookup x ((k, v) :: l) = o := by rw [List.lookup_cons, hx]; exact h
theorem if_hit {x : Str} {v : Value} {r : Option Value} : (if x = x then some v else r) = some v := if_pos rfl
theorem if_miss {x k : Str} {u r o : Option Value} (hx : (x == k) = false) (h : r = o) : (if x = k then u else r) = o := by
  rw [if_neg (fun e => by rw [e, beq_self_eq_true] at hx; cases hx)]; exact h
section
variable {prog : Program} {w : World} {A : Around} {E : Value → Shared → Prop} {s : Shared} {K : Frag} {h₀ : Heap} {L : Addr} {m : Str → Option Value} {f : Value} {first : List Value} {pos : Pos} {env : Env} {Q : Value → Shared → Prop} {e : Expr} {rest : List Expr}
theorem cw_none (X : K.In h₀) (F : Fr h₀ L s.heap m) (hk : keepIn K f = true) (h : wpAny (model prog w) A (call f (first ++ [])) Q E s) : wpAny (model prog w) A (callWith pos f first (backTo pos (starEach [] env)) []) Q E s :=
  callWith_K0 (Frag.In.keeps X (Fr.keep F)) hk h
theorem cw_some (X : K.In h₀) (hk : keepIn K f = true) (h : wpAny (model prog w) A (spliced (backTo pos (starEach (e :: rest) env))) (fun vs s₁ => K.In s₁.heap ∧ wpAny (model prog w) A (call f (first ++ vs)) Q E s₁) E s)
    (he : starEach (e :: rest) env = (false, eval e env) :: starEach rest env) (hp : (backTo pos (starEach rest env)).any (·.1) = false) : wpAny (model prog w) A (callWith pos f first (backTo pos (starEach (e :: rest) env)) []) Q E s :=
  callWith_K X hk h he hp
end
local macro_rules | `(tactic| ktr_room) => `(tactic| first | (k_dflt (refine ku_a (by assumption) ?_; exact rfl)) | (k_dflt (refine ku_b (by assumption) ?_; exact rfl)) | (k_dflt (refine ku_c (by assumption))))
local macro_rules | `(tactic| ktr_units) => `(tactic| first | (k_dflt (refine ku_a (by assumption) ?_; exact rfl)) | (k_dflt (refine ku_b (by assumption) ?_; exact rfl)) | (k_dflt (refine ku_c (by assumption))) | exact Nat.le_of_ble_eq_true (by kernel_rfl!) | ((have hcL9 := cLine_is); (simp only [units_under_make, units_in1, units_deeper, Around.mark_units, units_caller]); (try dsimp only [ktrTop]); omega))
theorem rows_10_1 : True := by
  k_with "NZ LOOK" => ((repeat (first | exact if_hit | refine if_miss (by kernel_rfl) ?_ | exact lk_hit | refine lk_miss (by kernel_rfl) ?_ | assumption)); done)
  k_with "ite" => (k_closed; first | (with_reducible refine ite_neg Bool.false_ne_true ?_) | (with_reducible refine ite_pos rfl ?_) | (with_reducible refine ite_neg (by decide +kernel) ?_) | (with_reducible refine ite_pos (by decide +kernel) ?_))
  k_with "subscriptTail" => ((with_reducible show wpAny _ _ (subscriptTail (Expr.Attribute _ _ _) _ _ _) _ _ _); walk_at "last subscriptTail")
  k_with "NZ SUB" => (intro p9 hp9; (repeat (first | exact hp9 | exact List.mem_append_left _ hp9 | (refine (‹∀ p : Addr × Obj, p ∈ _ → p ∈ _› p9 ?_); exact hp9) | refine List.Mem.tail _ ?_)))
  k_with "eval Name" => (k_here; (with_reducible rename Fr _ _ _ _ => kF); with_reducible (refine' nameX_K kF ?nzX ?nzT ?nze ?_ ?nzk ?nza ?nzb; (case nzX => assumption); (case nzT => k_asm); (case nze => k_is); (case nzk => first | exact rfl | assumption); (case nza => kernel_rfl); (case nzb => kernel_rfl); k_whole))
  k_with "eval Name" => (k_here; (with_reducible rename Fr _ _ _ _ => kF); with_reducible (refine' nameX_L kF ?nzv ?_ ?nzk ?nza ?nzb; (case nza => kernel_rfl!); (case nzv => walk_at "NZ LOOK"); (case nzk => first | exact rfl | assumption); (case nzb => kernel_rfl); k_whole))
  k_with "callWith ref" => (k_here; with_reducible (refine' cw_some ?nzx ?nzk ?_ ?nzhe ?nzhp; (case nzx => assumption); (case nzk => k_is); (case nzhe => kernel_rfl); (case nzhp => kernel_rfl); k_whole))
  k_with "callWith ref" => (k_here; with_reducible (refine' cw_none ?nzx ?nzF ?nzk ?_; (case nzx => assumption); (case nzF => assumption); (case nzk => k_is); k_whole))
  trivial

section
variable {prog : Program} {w : World} {A : Around} {E : Value → Shared → Prop} {s : Shared} {h₀ : Heap} {L : Addr} {m : Str → Option Value} {env : Env}
/-- What a comprehension draws from: the value, how many items, what the items are, and the turns that are left. -/
def GSrc (prog : Program) (w : World) (A : Around) (h₀ : Heap) (L : Addr) (m : Str → Option Value) (env : Env) (elt : Expr) (x : Str) (scope : Scope) (cl : List (Str × Addr)) (Fin : Shared → List Value → List (Addr × Obj) → Prop) (xv : Value) (s₁ : Shared) : Prop :=
  ∃ (n : Nat) (P : Nat → Value → Prop) (S : List (Addr × Obj) → Prop) (news : List (Addr × Obj)),
    Fr h₀ L s₁.heap m ∧ News h₀ L s₁.heap news ∧ n ≤ sizeLine ∧ S news ∧
    (∀ (Q : Value → Shared → Prop) (E : Value → Shared → Prop),
      (∀ (o : Obj) (fp : List Addr) (St : Nat → Heap → Prop), Walks prog w A s₁.heap.objs.size fp [s₁.heap.objs.size] n P St → (∀ i h, St i h → ∃ o, h.get? s₁.heap.objs.size = some o) →
        (∀ i h h' o nw, St i h → h.get? s₁.heap.objs.size = some o → h'.get? s₁.heap.objs.size = some o → (∀ b o, h₀.get? b = some o → h'.get? b = some o) → News h₀ L h' nw → S nw → St i h') →
        St 0 (s₁.heap.push o) → (∀ b ∈ fp, b < (s₁.heap.push o).objs.size) → Q (.ref s₁.heap.objs.size) { s₁ with heap := s₁.heap.push o }) →
      wpAny (model prog w) A (pyIter xv) Q E s₁) ∧
    ∀ s₂ : Shared, (∃ h, s₂ = { s₁ with heap := h }) → LCg.CompRest prog w A h₀ L m env elt x scope cl s₂ S P (Fin s₂) n 0 [] news

theorem GSrc.str {elt : Expr} {x : Str} {scope : Scope} {cl : List (Str × Addr)} {Fin : Shared → List Value → List (Addr × Obj) → Prop} {y : Str} {t : Tok} {news : List (Addr × Obj)} {s₁ : Shared}
    (hh : A.handled = none) (F : Fr h₀ L s₁.heap m) (N : News h₀ L s₁.heap news) (hsz : y.cps.size ≤ sizeLine)
    (h : ∀ g, LCg.CompRest prog w A h₀ L m env elt x scope cl { s₁ with heap := g } (fun _ => True) (SignAt y) (Fin { s₁ with heap := g }) y.cps.size 0 [] news) :
    GSrc prog w A h₀ L m env elt x scope cl Fin (.str y t) s₁ := by
  refine ⟨y.cps.size, SignAt y, fun _ => True, news, F, N, hsz, trivial, ?_, fun s₂ ⟨g, e⟩ => e ▸ h g⟩
  intro Q E hQ
  have st : ∀ (ty : String) i (h h' : Heap) (o : Obj), h.IsStrIter s₁.heap.objs.size ty y t i → h.get? s₁.heap.objs.size = some o → h'.get? s₁.heap.objs.size = some o → h'.IsStrIter s₁.heap.objs.size ty y t i := by
    rintro ty i h h' o ⟨o', q, r⟩ e e'
    rw [e] at q; cases q
    exact ⟨o, e', r⟩
  cases ha : y.cps.all (· < 128)
  · exact wpAny_pyIter_wide ha (hQ _ _ _ (Walks.strWide hh _ y t) (fun i h ⟨o, e, _⟩ => ⟨o, e⟩) (fun i h h' o nw a b c _ _ _ => st _ i h h' o a b c) ⟨_, Heap.get?_push_size _ rfl, rfl, rfl⟩ (fun b hb => by rw [List.mem_singleton.mp hb, Heap.size_push]; exact Nat.lt_succ_self _))
  · exact wpAny_pyIter_ascii ha (hQ _ _ _ (Walks.strAscii hh _ y t) (fun i h ⟨o, e, _⟩ => ⟨o, e⟩) (fun i h h' o nw a b c _ _ _ => st _ i h h' o a b c) ⟨_, Heap.get?_push_size _ rfl, rfl, rfl⟩ (fun b hb => by rw [List.mem_singleton.mp hb, Heap.size_push]; exact Nat.lt_succ_self _))

def SrcT (h₀ : Heap) (ax : Addr) (its : Array Value) (news : List (Addr × Obj)) : Prop := h₀.IsTuple ax its ∨ ∃ o, (ax, o) ∈ news ∧ o.cls = .type "tuple" ∧ ∃ n, o.data = .seq its n
theorem SrcT.tuple {h₀ h : Heap} {L ax : Addr} {its : Array Value} {news : List (Addr × Obj)} (x : SrcT h₀ ax its news) (k : ∀ b o, h₀.get? b = some o → h.get? b = some o) (N : News h₀ L h news) : h.IsTuple ax its := by
  rcases x with ⟨o, e, r⟩ | ⟨o, hm, r⟩
  · exact ⟨o, k _ _ e, r⟩
  · exact ⟨o, (N _ hm).1, r⟩
theorem GSrc.tup {elt : Expr} {x : Str} {scope : Scope} {cl : List (Str × Addr)} {Fin : Shared → List Value → List (Addr × Obj) → Prop} {ax : Addr} {its : Array Value} {news : List (Addr × Obj)} {s₁ : Shared}
    (hh : A.handled = none) (F : Fr h₀ L s₁.heap m) (N : News h₀ L s₁.heap news) (hs : SrcT h₀ ax its news) (hsz : its.size ≤ sizeLine)
    (h : ∀ g, LCg.CompRest prog w A h₀ L m env elt x scope cl { s₁ with heap := g } (SrcT h₀ ax its) (fun i v => its[i]? = some v) (Fin { s₁ with heap := g }) its.size 0 [] news) :
    GSrc prog w A h₀ L m env elt x scope cl Fin (.ref ax) s₁ := by
  refine ⟨its.size, fun i v => its[i]? = some v, SrcT h₀ ax its, news, F, N, hsz, hs, ?_, fun s₂ ⟨g, e⟩ => e ▸ h g⟩
  intro Q E hQ
  have ht := hs.tuple F.keep N
  have hlt : ax < s₁.heap.objs.size := by obtain ⟨_, e, _⟩ := ht; exact Heap.lt_size e
  have ht' : ∀ o : Obj, (s₁.heap.push o).IsTuple ax its := fun o => by obtain ⟨o', e, r⟩ := ht; exact ⟨o', Heap.get?_push_of_some _ e, r⟩
  refine wpAny_pyIter_tuple ht (hQ _ _ _ (Walks.tuple hh _ ax (Nat.ne_of_lt hlt) its) (fun i h st => by obtain ⟨o, e, _⟩ := st.1; exact ⟨o, e⟩) ?_ ⟨⟨_, Heap.get?_push_size _ rfl, rfl, rfl⟩, ht' _⟩ ?_)
  · intro i h h' o nw st e e' k N' S'
    exact ⟨by obtain ⟨o', q, r⟩ := st.1; rw [e] at q; cases q; exact ⟨o, e', r⟩, S'.tuple k N'⟩
  · intro b hb
    rw [Heap.size_push]
    rcases List.mem_cons.mp hb with rfl | hb
    · exact Nat.lt_succ_self _
    · rw [List.mem_singleton.mp hb]; exact Nat.lt_succ_of_lt hlt

theorem ListComp_G {elt iter : Expr} {x : Str} {px : Pos} {scope : Scope} {cl : List (Str × Addr)} {pos : Pos} {Q : Value → Shared → Prop} (_F₀ : Fr h₀ L s.heap m)
    (hclos : closureFor scope env = pure cl) (hcell : ∀ y ∈ scope.names, y.2 ≠ .cell) (hkind : scope.kind = .function)
    (hnames : ∀ y ∈ scope.names, y.2 = .local → scope.names.lookup y.1 = some .local) (hx : scope.names.lookup x = some .local)
    (h : wpAny (model prog w) A (eval iter env) (GSrc prog w A h₀ L m env elt x scope cl (fun s₂ => LCg.FinE h₀ L m s₂ Q)) E s)
    (hs : ∀ x, foldedSetIterable iter env x = pure x := by intro _; rfl) :
    wpAny (model prog w) A (eval (.ListComp elt [⟨.Name x px, iter, [], 0⟩] scope pos) env) Q E s := by
  rw [eval_ListComp]
  refine wpAny_comprehension_free (use := none) rfl hs hclos hkind hnames (wpAny_mono h (fun xv s₁ h₁ => ?_) fun _ _ e => e)
  obtain ⟨n, P, S, news, F, N, hsz, hS, hi, R⟩ := h₁
  refine hi _ _ fun o fp St W hIo hSt hst hfp => ?_
  have up : ∀ b o', s₁.heap.get? b = some o' → (s₁.heap.push o).get? b = some o' := fun b o' e => Heap.get?_push_of_some _ e
  refine LCg.block_U W hsz hIo hSt hcell hkind hx hst hfp (F.keeps up) (N.grown up) (Nat.ne_of_lt F.ns.lt) (next_is_new F) (fun p hp => Nat.ne_of_lt (Heap.lt_size (N p hp).1)) hS (R _ ⟨_, rfl⟩) ?_
  intro D C h tk m' ys news' F' N' o1 hn hC₀ hD₀ hCL hDL hCD offC fin
  refine ⟨m', hn, fun h'' hs'' => fin D h'' tk (F'.change hs'' hCL hC₀) (fun p hp => ?_) o1⟩
  refine ⟨hs''.extBut _ _ ?_ (N' p hp).1, (N' p hp).2⟩
  rcases List.mem_cons.mp hp with rfl | hp
  · exact Ne.symm hCD
  · exact offC p hp

theorem Assign_ListComp_G {elt iter : Expr} {x y : Str} {px py : Pos} {scope : Scope} {cl : List (Str × Addr)} {pos spos : Pos} {Q : Flow → Shared → Prop} (_F₀ : Fr h₀ L s.heap m) (hLe : env.locals = L)
    (hsw : swapsWith (.ListComp elt [⟨.Name x px, iter, [], 0⟩] scope pos) (some (.Name y py)) spos.line env = pure true)
    (hclos : closureFor scope env = pure cl) (hcell : ∀ z ∈ scope.names, z.2 ≠ .cell) (hkind : scope.kind = .function)
    (hnames : ∀ z ∈ scope.names, z.2 = .local → scope.names.lookup z.1 = some .local) (hx : scope.names.lookup x = some .local)
    (hy : env.kindOf y = some .local) (hp : (env.scope.kind == .class || (env.scope.kind == .module && env.locals != env.globals)) = false)
    (h : wpAny (model prog w) A (eval iter env) (GSrc prog w A h₀ L m env elt x scope cl (fun s₂ => LCg.FinA h₀ L m s₂ y Q)) E s)
    (hs : ∀ x, foldedSetIterable iter env x = pure x := by intro _; rfl) :
    wpAny (model prog w) A (exec (.Assign [.Name y py] (.ListComp elt [⟨.Name x px, iter, [], 0⟩] scope pos) spos) env) Q E s := by
  subst hLe
  rw [exec_Assign_Name_used _ _ _ _ hsw]
  refine wpAny_bind (wpAny_standAt (wpAny_bind ?_))
  show wpAny _ A (do let _ ← comprehension (.ListComp elt [⟨.Name x px, iter, [], 0⟩] scope pos) scope env _ (newList []) false (eval iter env) (some (assign (.Name y py) env))) _ _ s
  refine wpAny_bind (wpAny_mono (wpAny_comprehension_free (use := some (assign (.Name y py) env)) (Q := fun _ s' => Q .next s') rfl hs hclos hkind hnames
    (wpAny_mono h (fun xv s₁ h₁ => ?_) fun _ _ e => e)) (fun _ s' hq => wpAny_pure (wpAny_pure hq)) fun _ _ e => e)
  obtain ⟨n, P, S, news, F, N, hsz, hS, hi, R⟩ := h₁
  refine hi _ _ fun o fp St W hIo hSt hst hfp => ?_
  have up : ∀ b o', s₁.heap.get? b = some o' → (s₁.heap.push o).get? b = some o' := fun b o' e => Heap.get?_push_of_some _ e
  refine LCg.block_U W hsz hIo hSt hcell hkind hx hst hfp (F.keeps up) (N.grown up) (Nat.ne_of_lt F.ns.lt) (next_is_new F) (fun p hp => Nat.ne_of_lt (Heap.lt_size (N p hp).1)) hS (R _ ⟨_, rfl⟩) ?_
  intro D C h' tk m' ys news' F' N' o1 hn hC₀ hD₀ hCL hDL hCD offC fin
  show wpAny _ A (assign (.Name y py) env (.ref D)) _ _ _
  refine wpAny_assign_Name (wpAny_storeName_local hy F'.ns (fun h₂ hn₂ hs₂ => ?_) hp)
  have hL₀ : h₀.get? env.locals = none := Heap.get?_none_of_le F'.above
  have F₂ : Fr h₀ env.locals h₂ (fun z => if z = y then some (.ref D) else m z) := ⟨hn₂, fun b o e => hs₂.extBut b o (fun q => by rw [q, hL₀] at e; cases e) (F'.keep b o e), F'.above⟩
  refine ⟨m', hn.sameBut hs₂ hCL, fun h'' hs'' => fin D h'' _ (F₂.change hs'' hCL hC₀) (fun p hp => ?_) o1⟩
  have z : h₂.get? p.1 = some p.2 := hs₂.extBut _ _ (N' p hp).2.1 (N' p hp).1
  refine ⟨hs''.extBut _ _ ?_ z, (N' p hp).2⟩
  rcases List.mem_cons.mp hp with rfl | hp
  · exact Ne.symm hCD
  · exact offC p hp

/-- Item by item. -/
inductive Each {α : Type} (R : α → Value → Prop) : List α → List Value → Prop
  | nil : Each R [] []
  | cons {d v ds vs} : R d v → Each R ds vs → Each R (d :: ds) (v :: vs)
theorem Each.snoc {α : Type} {R : α → Value → Prop} {d : α} {v : Value} (h : R d v) : ∀ {ds : List α} {vs : List Value}, Each R ds vs → Each R (ds ++ [d]) (vs ++ [v])
  | _, _, .nil => .cons h .nil
  | _, _, .cons z r => .cons z (r.snoc h)
theorem Each.len {α : Type} {R : α → Value → Prop} : ∀ {ds : List α} {vs : List Value}, Each R ds vs → ds.length = vs.length
  | _, _, .nil => rfl
  | _, _, .cons _ r => by rw [List.length_cons, List.length_cons, r.len]
theorem Each.at {α : Type} {R : α → Value → Prop} : ∀ {ds : List α} {vs : List Value}, Each R ds vs → ∀ (i : Nat) (v : Value), vs[i]? = some v → ∃ d, ds[i]? = some d ∧ R d v
  | _, _, .nil, i, v, e => by simp at e
  | _, _, .cons (d := d) h r, 0, v, e => by
    simp only [List.getElem?_cons_zero, Option.some.injEq] at e
    exact ⟨d, rfl, e ▸ h⟩
  | _, _, .cons h r, i + 1, v, e => by
    simp only [List.getElem?_cons_succ] at e ⊢
    exact r.at i v e
/-- The turns over any source, each of which gives one value and leaves the ledger as it was. -/
theorem rest_gen {elt : Expr} {x : Str} {scope : Scope} {cl : List (Str × Addr)} {Fin : List Value → List (Addr × Obj) → Prop} {news : List (Addr × Obj)} {S : List (Addr × Obj) → Prop} {P : Nat → Value → Prop} {n : Nat} {α : Type} (ds : List α) (is R : α → Value → Prop)
    (hS : S news) (hn : ds.length = n) (hP : ∀ i v, P i v → ∃ d, ds[i]? = some d ∧ is d v)
    (turn : ∀ d v I oI C oC D m₂ ys h tk (E' : Value → Shared → Prop), d ∈ ds → is d v → LCg.NsObj oC m₂ → m₂ x = some v → Fr h₀ L h m → News h₀ L h ((I, oI) :: (C, oC) :: (D, LCg.lst ys) :: news) → LCg.Off3 I C D news → ((@Ne Nat I C) ∧ (@Ne Nat I D) ∧ (@Ne Nat C D)) →
      wpAny (model prog w) A (eval elt (compEnvC scope cl C env)) (fun r s₂ => ∃ h' tk', s₂ = { s with heap := h', toks := tk' } ∧ Fr h₀ L h' m ∧ News h₀ L h' ((I, oI) :: (C, oC) :: (D, LCg.lst ys) :: news) ∧ R d r) E' { s with heap := h, toks := tk })
    (fin : ∀ ys, Each R ds ys → Fin ys news) : LCg.CompRest prog w A h₀ L m env elt x scope cl s S P Fin n 0 [] news := by
  have key : ∀ (j i : Nat) (ys : List Value), i + j = n → Each R (ds.take i) ys → LCg.CompRest prog w A h₀ L m env elt x scope cl s S P Fin j i ys news := by
    intro j
    induction j with
    | zero =>
      intro i ys hi hy
      rw [List.take_of_length_le (by omega)] at hy
      exact LCg.CompRest.zero (fin ys hy)
    | succ j ih =>
      intro i ys hi hy
      refine LCg.CompRest.succ ?_
      intro v I oI C oC D m₂ h tk E' hv hC hx F N off ne
      obtain ⟨d, hd, hdv⟩ := hP i v hv
      refine wpAny_mono (turn d v I oI C oC D m₂ ys h tk E' (List.mem_of_getElem? hd) hdv hC hx F N off ne) (fun r s₂ hq => ?_) fun _ _ e => e
      obtain ⟨h', tk', rfl, F', N', hr⟩ := hq
      refine ⟨h', tk', news, rfl, F', N', off, hS, ?_⟩
      refine ih (i + 1) _ (by omega) ?_
      rw [List.take_add_one, hd]
      simpa using hy.snoc hr
  exact key n 0 [] (by omega) (by simpa using Each.nil)
theorem rest_items {elt : Expr} {x : Str} {scope : Scope} {cl : List (Str × Addr)} {Fin : List Value → List (Addr × Obj) → Prop} {news : List (Addr × Obj)} {S : List (Addr × Obj) → Prop} {vs : List Value} {α : Type} (ds : List α) (is R : α → Value → Prop)
    (hS : S news) (hE : Each is ds vs)
    (turn : ∀ d v I oI C oC D m₂ ys h tk (E' : Value → Shared → Prop), d ∈ ds → is d v → LCg.NsObj oC m₂ → m₂ x = some v → Fr h₀ L h m → News h₀ L h ((I, oI) :: (C, oC) :: (D, LCg.lst ys) :: news) → LCg.Off3 I C D news → ((@Ne Nat I C) ∧ (@Ne Nat I D) ∧ (@Ne Nat C D)) →
      wpAny (model prog w) A (eval elt (compEnvC scope cl C env)) (fun r s₂ => ∃ h' tk', s₂ = { s with heap := h', toks := tk' } ∧ Fr h₀ L h' m ∧ News h₀ L h' ((I, oI) :: (C, oC) :: (D, LCg.lst ys) :: news) ∧ R d r) E' { s with heap := h, toks := tk })
    (fin : ∀ ys, Each R ds ys → Fin ys news) : LCg.CompRest prog w A h₀ L m env elt x scope cl s S (fun i v => vs.toArray[i]? = some v) Fin vs.toArray.size 0 [] news :=
  rest_gen ds is R hS (by rw [List.size_toArray]; exact hE.len) (fun i v hv => hE.at i v (by simpa using hv)) turn fin
theorem end_same {I C D : Addr} {oI oC oD : Obj} {S : List (Addr × Obj) → Prop} {rest : Value → List (Addr × Obj) → Prop} {y : Value} {h' : Heap} {tk : Nat} {nw : List (Addr × Obj)}
    (F : Fr h₀ L h' m) (N : News h₀ L h' ((I, oI) :: (C, oC) :: (D, oD) :: nw)) (off : LCg.Off3 I C D nw) (hS : S nw) (r : rest y nw) :
    LCg.CompEnd h₀ L m s I oI C oC D oD S rest y { s with heap := h', toks := tk } := LCg.CompEnd.intro F N nw (fun _ hp => hp) off hS r
end
section
variable {prog : Program} {w : World} {A : Around} {E : Value → Shared → Prop} {s : Shared} {h₀ : Heap} {L : Addr} {m : Str → Option Value} {env : Env}
def SrcL (ax : Addr) (its : Array Value) (news : List (Addr × Obj)) : Prop := ∃ o, (ax, o) ∈ news ∧ o.cls = .type "list" ∧ ∃ n, o.data = .seq its n
theorem SrcL.list {h : Heap} {ax : Addr} {its : Array Value} {news : List (Addr × Obj)} (x : SrcL ax its news) (N : News h₀ L h news) : h.IsList ax its := by
  obtain ⟨o, hm, r⟩ := x
  exact ⟨o, (N _ hm).1, r⟩
theorem GSrc.lst {elt : Expr} {x : Str} {scope : Scope} {cl : List (Str × Addr)} {Fin : Shared → List Value → List (Addr × Obj) → Prop} {ax : Addr} {its : Array Value} {news : List (Addr × Obj)} {s₁ : Shared}
    (hh : A.handled = none) (F : Fr h₀ L s₁.heap m) (N : News h₀ L s₁.heap news) (hs : SrcL ax its news) (hsz : its.size ≤ sizeLine)
    (h : ∀ g, LCg.CompRest prog w A h₀ L m env elt x scope cl { s₁ with heap := g } (SrcL ax its) (fun i v => its[i]? = some v) (Fin { s₁ with heap := g }) its.size 0 [] news) :
    GSrc prog w A h₀ L m env elt x scope cl Fin (.ref ax) s₁ := by
  refine ⟨its.size, fun i v => its[i]? = some v, SrcL ax its, news, F, N, hsz, hs, ?_, fun s₂ ⟨g, e⟩ => e ▸ h g⟩
  intro Q E hQ
  have ht := hs.list N
  have hlt : ax < s₁.heap.objs.size := by obtain ⟨_, e, _⟩ := ht; exact Heap.lt_size e
  have ht' : ∀ o : Obj, (s₁.heap.push o).IsList ax its := fun o => by obtain ⟨o', e, r⟩ := ht; exact ⟨o', Heap.get?_push_of_some _ e, r⟩
  refine wpAny_pyIter_list ht (hQ _ _ _ (Walks.list hh _ ax (Nat.ne_of_lt hlt) its) (fun i h st => by obtain ⟨o, e, _⟩ := st.1; exact ⟨o, e⟩) ?_ ⟨⟨_, Heap.get?_push_size _ rfl, rfl, rfl⟩, ht' _⟩ ?_)
  · intro i h h' o nw st e e' k N' S'
    exact ⟨by obtain ⟨o', q, r⟩ := st.1; rw [e] at q; cases q; exact ⟨o, e', r⟩, S'.list N'⟩
  · intro b hb
    rw [Heap.size_push]
    rcases List.mem_cons.mp hb with rfl | hb
    · exact Nat.lt_succ_self _
    · rw [List.mem_singleton.mp hb]; exact Nat.lt_succ_of_lt hlt
end
theorem rows_11_2 : True := by
  k_with "CompEnd" => (k_dflt (refine' end_same ?a1 ?a2 ?a3 ?a4 ?_; (case a1 => k_asm); (case a2 => k_asm); (case a3 => assumption); (case a4 => lcg_src)))
  k_with "NZ TUP" => (k_dflt (refine' GSrc.tup ?a1 ?a2 ?a3 ?a4 ?a5 ?_; (case a1 => rfl); (case a2 => k_asm); (case a3 => k_asm); (case a4 => first | exact Or.inr ⟨_, by k_mem, rfl, _, rfl⟩ | exact Or.inl (by assumption)); (case a5 => first | exact Nat.le_of_ble_eq_true rfl | size_fits)); intro g')
  k_with "NZ TURN" => (refine ⟨_, _, rfl, by k_asm, by (first | k_asm | (refine' news_drop ?cbN ?cbS; (case cbN => assumption); (case cbS => kcj_all))), ?_⟩)
  k_with "NZ ACOMP" => (k_here; k_dflt (refine Assign_ListComp_G (by k_asm) (by rfl) (by with_unfolding_all rfl) (by rfl) (by decide) (by rfl) (by decide) (by rfl) (by rfl) (by rfl) ?_))
  k_with "NZ ECOMP" => (k_here; k_dflt (refine ListComp_G (by k_asm) (by rfl) (by decide) (by rfl) (by decide) (by rfl) ?_))
  trivial

namespace Cut
open PySem.StrLaws PySem.Builtin PySem.Builtin.Str
def cuts (c : Nat) : Nat → List Nat → List Nat
  | _, [] => []
  | i, a :: r => if a = c then i :: cuts c (i + 1) r else cuts c (i + 1) r
theorem cuts_app (c : Nat) : ∀ (A r : List Nat) (i : Nat), c ∉ A → cuts c i (A ++ r) = cuts c (i + A.length) r
  | [], r, i, _ => rfl
  | a :: A, r, i, h => by
    rw [List.mem_cons, not_or] at h
    show (if a = c then _ else cuts c (i + 1) (A ++ r)) = _
    rw [if_neg (fun e => h.1 e.symm), cuts_app c A r (i + 1) h.2, List.length_cons]
    congr 1
    omega
theorem cuts_none (c : Nat) (A : List Nat) (i : Nat) (h : c ∉ A) : cuts c i A = [] := by
  have := cuts_app c A [] i h
  rw [List.append_nil] at this
  rw [this]; rfl
theorem occ_run (x : Str) (c : Nat) (l : List Nat) (hx : x.cps.toList = l) : ∀ (k i : Nat) (acc : Array Nat) (free : Nat), i + k = l.length + 1 → free ≤ i → acc.size ≤ i →
    (forIn (List.range' i k) (acc, free) (occBody x ⟨#[c]⟩ l.length (l.length + 1))).run.fst.toList = acc.toList ++ cuts c i (l.drop i)
  | 0, i, acc, free, hk, _, _ => by
    rw [List.drop_eq_nil_of_le (by omega)]
    show acc.toList = acc.toList ++ []
    rw [List.append_nil]
  | k + 1, i, acc, free, hk, hf, ha => by
    rw [List.range'_succ, List.forIn_cons]
    unfold occBody
    by_cases hi : i < l.length
    · have hd : l.drop i = l[i] :: l.drop (i + 1) := List.drop_eq_getElem_cons hi
      have hs : subAt x ⟨#[c]⟩ i = decide (l[i] = c) := by
        rw [subAt_eq, hx, hd]
        show ((List.take 1 (l[i] :: l.drop (i + 1))) == [c]) = _
        rw [List.take_succ_cons, List.take_zero]
        by_cases e : l[i] = c
        · simp [e]
        · simp [e]
      rw [hs, hd]
      by_cases e : l[i] = c
      · rw [if_pos ⟨⟨⟨by show acc.size < _; omega, hf⟩, hi⟩, decide_eq_true e⟩]
        show (forIn (List.range' (i + 1) k) (acc.push i, i + 1) (occBody x ⟨#[c]⟩ l.length (l.length + 1))).run.fst.toList = _
        rw [occ_run x c l hx k (i + 1) _ _ (by omega) (Nat.le_refl _) (by rw [Array.size_push]; omega), Array.toList_push]
        show _ = acc.toList ++ (if l[i] = c then i :: cuts c (i + 1) (l.drop (i + 1)) else _)
        rw [if_pos e, List.append_assoc]
        rfl
      · rw [if_neg (fun h => e (of_decide_eq_true h.2))]
        show (forIn (List.range' (i + 1) k) (acc, free) (occBody x ⟨#[c]⟩ l.length (l.length + 1))).run.fst.toList = _
        rw [occ_run x c l hx k (i + 1) _ _ (by omega) (by omega) (by omega)]
        show _ = acc.toList ++ (if l[i] = c then _ else cuts c (i + 1) (l.drop (i + 1)))
        rw [if_neg e]
    · rw [if_neg (fun h => hi h.1.2)]
      show (forIn (List.range' (i + 1) k) (acc, free) (occBody x ⟨#[c]⟩ l.length (l.length + 1))).run.fst.toList = _
      rw [occ_run x c l hx k (i + 1) _ _ (by omega) (by omega) (by omega), List.drop_eq_nil_of_le (by omega), List.drop_eq_nil_of_le (by omega)]
      rfl
theorem occ_cuts (x : Str) (c : Nat) (l : List Nat) (hx : x.cps.toList = l) : occurrences x ⟨#[c]⟩ 0 x.length (x.length + 1) = cuts c 0 l := by
  have hl : x.length = l.length := by rw [Str.length, ← Array.length_toList, hx]
  rw [occ_eq, hl]
  have := occ_run x c l hx (l.length + 1) 0 #[] 0 (by omega) (Nat.le_refl _) (Nat.le_refl _)
  rw [Nat.sub_zero, this]
  simp
theorem kind_pos (x : Str) : 1 ≤ Builtin.Str.strKind x := by unfold Builtin.Str.strKind; split; decide; split <;> decide
theorem split3 {x : Str} {c : Nat} (A B C : List Nat) (hx : x.cps.toList = A ++ c :: (B ++ c :: C)) (hA : c ∉ A) (hB : c ∉ B) (hC : c ∉ C) (hc : c < 256) :
    Txt.split x ⟨#[c]⟩ = [⟨A.toArray⟩, ⟨B.toArray⟩, ⟨C.toArray⟩] := by
  have hl : x.length = A.length + 1 + B.length + 1 + C.length := by
    rw [Str.length, ← Array.length_toList, hx]
    simp only [List.length_append, List.length_cons]
    omega
  have hk : Builtin.Str.strKind (⟨#[c]⟩ : Str) = 1 := by
    unfold Builtin.Str.strKind
    rw [if_pos (by simp [hc])]
  have ho : occurrences x ⟨#[c]⟩ 0 x.length (x.length + 1) = [A.length, A.length + 1 + B.length] := by
    rw [occ_cuts x c _ hx, cuts_app c A _ 0 hA]
    show (if c = c then (0 + A.length) :: cuts c (0 + A.length + 1) (B ++ c :: C) else _) = _
    rw [if_pos rfl, cuts_app c B _ _ hB]
    show _ :: (if c = c then (0 + A.length + 1 + B.length) :: cuts c (0 + A.length + 1 + B.length + 1) C else _) = _
    rw [if_pos rfl, cuts_none c C _ hC]
    simp
  unfold Txt.split
  rw [ho, hk]
  rw [if_neg (by
    have := kind_pos x
    simp only [Bool.or_eq_true, decide_eq_true_eq, not_or]
    exact ⟨by show ¬ x.length < 1; omega, by omega⟩)]
  rw [if_neg (by simp), partsBetween_eq]
  show [strSub x 0 A.length, strSub x (A.length + 1) (A.length + 1 + B.length), strSub x (A.length + 1 + B.length + 1) x.length] = _
  have e1 : strSub x 0 A.length = ⟨A.toArray⟩ := Str.ext' (Array.toList_inj.mp (by rw [strSub_toList, hx]; simp))
  have e2 : strSub x (A.length + 1) (A.length + 1 + B.length) = ⟨B.toArray⟩ := Str.ext' (Array.toList_inj.mp (by
    rw [strSub_toList, hx, show A ++ c :: (B ++ c :: C) = (A ++ [c]) ++ (B ++ c :: C) by simp, List.drop_append_of_le_length (by simp), List.drop_eq_nil_of_le (by simp)]
    simp))
  have e3 : strSub x (A.length + 1 + B.length + 1) x.length = ⟨C.toArray⟩ := Str.ext' (Array.toList_inj.mp (by
    rw [strSub_toList, hx, show A ++ c :: (B ++ c :: C) = (A ++ c :: (B ++ [c])) ++ C by simp, List.drop_append_of_le_length (by simp; omega), List.drop_eq_nil_of_le (by simp; omega), hl]
    simp))
  rw [e1, e2, e3]
end Cut

namespace By
open Builtin PySem.W.KBy
set_option maxRecDepth 100000
theorem gives_in_int (b : Array UInt8) (t u : Tok) (i : Int) (h0 : 0 ≤ i) (h1 : i < 256) : Gives («bytes.__contains__» ⟨[.bytes b t, .int i u], []⟩) (.val (.bool (b.contains i.toNat.toUInt8))) := by
  refine .of_wp fun M A E s Q hq => ?_
  show wpAny M A (Bytes.containsIn "bytes.__contains__" (.bytes b t) (.int i u) >>= fun r => ret (.bool r)) _ E s
  unfold Bytes.containsIn
  refine wpAny_bind (wpAny_bind (wpAny_of_eq (a := Except.ok i) rfl ?_))
  refine wpAny_bind (wpAny_of_eq buffer_eq ?_)
  have hc : (decide (i < 0) || decide (i ≥ 256)) = false := by simp; omega
  show wpAny M A (if (decide (i < 0) || decide (i ≥ 256)) = true then _ else pure (b.contains i.toNat.toUInt8)) _ E s
  rw [if_neg (by rw [hc]; exact Bool.false_ne_true)]
  exact wpAny_pure (wpAny_pure ⟨_, rfl, hq⟩)
theorem noIndexB : typeLookup (.type "bytes") "__index__" = pure none := by rw [typeLookup_type, builtinLookup_eq_fast]; kernel_rfl
theorem typeName_bytes : typeName (.type "bytes") = pure "bytes" := by unfold typeName; rw [find?_eq_fast]; kernel_rfl
theorem name_bytes {M : Model} {A : Around} {E : Value → Shared → Prop} {s : Shared} {n : Nat} {b : Array UInt8} {t : Tok} {Q : String → Shared → Prop} (h : Q "bytes" s) : wpAny M A (typeNameOfCut n (.bytes b t)) Q E s := by
  unfold typeNameOfCut shownTypeOf
  refine wpAny_bind (wpAny_bind (wpAny_typeOf (typeIs_bytes s b t) ?_))
  simp only [show (Value.type "bytes" == Value.type "builtin_function_or_method") = false by decide, Bool.false_eq_true, if_false]
  refine wpAny_pure ?_
  rw [show typeNameCut n (.type "bytes") = typeName (.type "bytes") from rfl, typeName_bytes]; exact wpAny_pure h
theorem asIndex_bytes {M : Model} {A : Around} {E : Value → Shared → Prop} {s : Shared} {b : Array UInt8} {t : Tok} {Q : Int → Shared → Prop} (hh : A.handled = none)
    (h : ∀ h' tk e, Heap.NewExc s.heap h' e "TypeError" → E (.ref e) { s with heap := h', toks := tk }) : wpAny M A (asIndex (.bytes b t)) Q E s := by
  unfold asIndex
  refine wpAny_bind (wpAny_of_eq (a := none) rfl ?_)
  refine wpAny_bind (wpAny_callSpecial?_none (typeIs_bytes s b t) noIndexB ?_)
  refine wpAny_bind (name_bytes ?_)
  exact wpAny_raiseErrorMade plainExc_TypeError hh h (by decide +kernel)
theorem meets_in_bytes (b c : Array UInt8) (t u : Tok) : Meets («bytes.__contains__» ⟨[.bytes b t, .bytes c u], []⟩) (fun A R s => A.handled = none ∧ ∀ h' tk, (∀ a o, s.heap.get? a = some o → h'.get? a = some o) → R (.ok (.ret (.bool (Bytes.find? b c 0 b.size).isSome))) { s with heap := h', toks := tk }) := by
  refine .of_wp fun prog w A R s hS => ?_
  obtain ⟨hh, h⟩ := hS
  show wpAny _ _ (Bytes.containsIn "bytes.__contains__" (.bytes b t) (.bytes c u) >>= fun r => ret (.bool r)) _ _ s
  unfold Bytes.containsIn
  refine wpAny_bind (wpAny_bind (wpAny_attempt (asIndex_bytes hh ?_)))
  intro h' tk e he
  refine wpAny_bind (wpAny_of_eq buffer_eq ?_)
  refine wpAny_bind (wpAny_of_eq buffer_eq ?_)
  refine wpAny_bind (wpAny_rule (wpAny_pure ?_))
  exact wpAny_pure ⟨_, rfl, h h' tk he.keeps⟩
section
variable {prog : Program} {w : World} {A : Around} {E : Value → Shared → Prop} {s : Shared} {b c : Array UInt8} {t u : Tok} {i : Int} {Q : Value → Shared → Prop}
theorem int_in_bytes (h0 : 0 ≤ i) (h1 : i < 256) (h : Q (.bool (b.contains i.toNat.toUInt8)) s) : wpAny (model prog w) A (compareOp .In (.int i u) (.bytes b t)) Q E s :=
  in_gives (typeIs_bytes s b t) FB.slot_bytes_contains FB.entry_bytes_contains (FB.args_bytes_contains_2 _ _) (gives_in_int b t u i h0 h1) h
theorem bytes_in_bytes {h₀ : Heap} {L : Addr} {m : Str → Option Value} {news : List (Addr × Obj)} (hh : A.handled = none) (F : Fr h₀ L s.heap m) (N : News h₀ L s.heap news)
    (h : ∀ h' tk, Fr h₀ L h' m → News h₀ L h' news → Q (.bool (Bytes.find? b c 0 b.size).isSome) { s with heap := h', toks := tk }) : wpAny (model prog w) A (compareOp .In (.bytes c u) (.bytes b t)) Q E s := by
  show wpAny _ _ (do return .bool (← contains (.bytes b t) (.bytes c u))) Q E s
  refine wpAny_bind (wpAny_contains_slot (typeIs_bytes s b t) FB.slot_bytes_contains (call_meets FB.slot_bytes_contains (typeIs_bytes s b t) FB.entry_bytes_contains (FB.args_bytes_contains_2 _ _) (meets_in_bytes b c t u) ⟨hh, ?_⟩))
  intro h' tk k
  exact wpAny_truthy_bool (wpAny_pure (h h' tk (F.keeps k) (N.grown k)))
end
end By
theorem rows_13_3 : True := by
  k_with "compareOp In int" => (k_here; (with_reducible show wpAny _ _ (compareOp CmpOp.In (Value.int _ _) (Value.bytes _ _)) _ _ _); (refine By.int_in_bytes (by omega) (by omega) ?_))
  k_with "compareOp In bytes" => (k_here; (with_reducible show wpAny _ _ (compareOp CmpOp.In (Value.bytes _ _) (Value.bytes _ _)) _ _ _); k_dflt (refine' By.bytes_in_bytes ?k1 ?k2 ?k3 ?_; (case k1 => rfl); (case k2 => k_asm); (case k3 => k_asm)); intro h9 tk9 F9 N9; (try k_sweep))
  trivial

/-- As Spc, over a list of the heap that stood before. -/
def SpcL (w : World) (dep : Nat) (f : Value) (vs : List Value) (l : Addr) (its : Array Value) (In : List (Addr × Obj) → Prop) (Out : List (Addr × Obj) → Value → List (Addr × Obj) → Prop) : Prop :=
  ∀ (mean : ExcName → Option Value) (mg mb : Str → Option Value) (dp un : Nat) (gd : Option (List Code)) (cn : Str) (cs : Scope) (a : Addr) (ccd : Value) (cl : List (Str × Addr)) (outer : List Env) (A₀ : Around) (base h₀ : Heap) (L : Addr) (m : Str → Option Value) (news : List (Addr × Obj)) (s : Shared) (Q E : Value → Shared → Prop),
    Below A₀ base outer h₀ → Fr h₀ L s.heap m → (hd.heap_39 w.params).In h₀ → News h₀ L s.heap news → Top hd.view_39 lo mean mg mb h₀ → cs.kind = .function →
    dp + dep < recursionLimit → un + 8 * dep < cLine → In news → base.IsList l its →
    (∀ v news' h' tk', Fr h₀ L h' m → News h₀ L h' news' → Out news v news' → Q v { s with heap := h', toks := tk' }) →
    wpAny (model PySem.Challenge.rw_nz0313_01.row.prog w) (ktrTop dp un gd cn cs L a ccd cl outer) (call f vs) Q E s
theorem spcl_use {w : World} {dep : Nat} {f : Value} {vs : List Value} {l : Addr} {its : Array Value} {In : List (Addr × Obj) → Prop} {Out : List (Addr × Obj) → Value → List (Addr × Obj) → Prop}
    (C : SpcL w dep f vs l its In Out)
    {mean : ExcName → Option Value} {mg mb : Str → Option Value} {dp un : Nat} {gd : Option (List Code)} {cn : Str} {cs : Scope} {a : Addr} {ccd : Value} {cl : List (Str × Addr)} {outer : List Env} {A₀ : Around} {base h₀ : Heap} {L : Addr} {m : Str → Option Value} {news : List (Addr × Obj)} {s : Shared} {Q E : Value → Shared → Prop}
    (B : Below A₀ base outer h₀) (F : Fr h₀ L s.heap m) (X : (hd.heap_39 w.params).In h₀) (N : News h₀ L s.heap news) (T : Top hd.view_39 lo mean mg mb h₀) (hk : cs.kind = .function)
    (hd' : dp + dep < recursionLimit) (hu : un + 8 * dep < cLine) (hi : In news) (hL : base.IsList l its)
    (ret : ∀ v news' h' tk', Fr h₀ L h' m → News h₀ L h' news' → Out news v news' → Q v { s with heap := h', toks := tk' }) :
    wpAny (model PySem.Challenge.rw_nz0313_01.row.prog w) (ktrTop dp un gd cn cs L a ccd cl outer) (call f vs) Q E s :=
  C mean mg mb dp un gd cn cs a ccd cl outer A₀ base h₀ L m news s Q E B F X N T hk hd' hu hi hL ret
theorem each_ofInts : ∀ {vs : List Value} {ns : List Int}, IntsAre vs ns → Each (fun (n : Int) v => ∃ t, v = .int n t) ns vs
  | _, _, .nil => .nil
  | _, _, .cons _ t r => .cons ⟨t, rfl⟩ (each_ofInts r)
theorem ints_ofEach : ∀ {ds : List Int} {vs : List Value}, Each (fun (n : Int) v => ∃ t, v = .int n t) ds vs → IntsAre vs ds
  | _, _, .nil => .nil
  | _, _, .cons ⟨t, e⟩ r => by subst e; exact .cons _ t (ints_ofEach r)
theorem rows_70_4 : True := by
  k_with "exec Assign cons ListComp" => ((with_reducible show wpAny _ _ (exec (Stmt.Assign _ (Expr.ListComp (Expr.Call (Expr.Name "int" _) [Expr.Name "cell" _] _ _) _ _ _) _) _) _ _ _); walk_at "NZ ACOMP")
  trivial
theorem modP (x : Int) : 0 ≤ Int.fmod x (10 ^ 200) ∧ Int.fmod x (10 ^ 200) < 10 ^ 200 := by
  rw [Int.fmod_eq_emod_of_nonneg _ (by decide)]
  exact ⟨Int.emod_nonneg _ (by decide), Int.emod_lt_of_pos _ (by decide)⟩
theorem law_box_c (w : World) (l : Addr) (vs : List Value) (ns : List Int) (hI : IntsAre vs ns) (hlen : ns.length ≤ 63) : SpcL w 6 (.ref 407) [.ref l] l vs.toArray (fun _ => True)
    (fun news v news' => ∃ (p c : Addr) (ys : List Value) (ks : List Int) (cap cap2 : Nat) (g st : Int) (t1 t2 t3 : Tok), v = .ref p ∧ news' = (p, W.listOf #[.ref c, .int g t1, .int st t2, .int 0 t3] cap) :: (c, W.listOf ys.toArray cap2) :: news ∧
      IntsAre ys ks ∧ ks.length ≤ 40 ∧ 0 ≤ g ∧ g < 10 ^ 200 ∧ 0 ≤ st ∧ st < 2147483647 ∧ @LT.lt Nat _ c p ∧ AllLt p news ∧ LCg.Off1 c news) := by
  (try unfold Pur)
  unfold SpcL
  k_fill
  intro mean mg mb dp un gd cn cs aF ccd cl outer A₀ base h₀ LF mF news sF QF EF B F X N T hk hdp hun hin hL hret
  refine wpAny_call ?_
  k_dflt cell_enter
  (with_reducible rename Fr _ _ _ (fun nzy => List.lookup nzy _) => F0)
  replace F0 := fr_eq (m' := fun nzy => List.lookup nzy ([(Str.ofString "script", Value.ref l)] : List (Str × Value))) F0 (by kernel_rfl)
  k_with "InvEndN" => (k_dflt kst_close)
  k_with "pyIter ref" => k_state (fun pre st => 0 ≤ st ∧ st < 2147483647) "state"
  k_steps
  k_dflt (refine' GSrc.lst ?a1 ?a2 ?a3 ?a4 ?a5 ?_; (case a1 => rfl); (case a2 => k_asm); (case a3 => k_asm); (case a4 => exact ⟨_, by k_mem, rfl, _, rfl⟩); (case a5 => (have h8 := IntsAre.length (by assumption : IntsAre _ (List.take 40 ns)); rw [List.size_toArray, sizeLine_eq]; omega)))
  intro g'
  refine rest_items (List.take 40 ns) (fun (n : Int) v => ∃ t, v = .int n t) (fun (n : Int) v => ∃ t, v = .int n t) ⟨_, by k_mem, rfl, _, rfl⟩ (each_ofInts (by assumption)) ?_ ?_
  · intro d v I oI C oC D m₂ ys h tk E' hd hv hC hx F N off ne
    obtain ⟨t, rfl⟩ := hv
    k_fold
    k_steps
    all_goals first | k_asm | trace_state
  · intro ys hy
    have hS := ints_ofEach hy
    clear hy
    k_steps
    all_goals (
      refine' hret _ _ _ _ ?e2 ?e3 ⟨_, _, _, _, _, _, _, _, _, _, _, rfl, rfl, hS, ?e4, ?e5, ?e6, ?e7, ?e8, ?e9, ?e10, ?e11⟩
      case e2 => k_asm
      case e3 => refine' news_drop ?cbN ?cbS; (case cbN => assumption); (case cbS => exact List.forall_mem_cons.mpr ⟨by k_mem, List.forall_mem_cons.mpr ⟨by k_mem, fun p hp => by simp [hp]⟩⟩)
      case e4 => rw [List.length_take]; omega
      case e5 => first | exact (modP _).1 | decide
      case e6 => first | exact (modP _).2 | decide
      case e7 => first | assumption | trace_state
      case e8 => first | assumption | trace_state
      case e9 => exact (‹_ ∧ _ ∧ AllLt _ news›).1
      case e10 => exact (‹_ ∧ _ ∧ AllLt _ news›).2.2
      case e11 => exact (‹_ ∧ LCg.Off1 _ news›).2)
theorem rows_70_5 : True := by
  k_with_none
  k_with "NZ LOOK" => ((repeat (first | exact if_hit | refine if_miss (by kernel_rfl) ?_ | exact lk_hit | refine lk_miss (by kernel_rfl) ?_ | assumption)); done)
  k_with "ite" => (k_closed; first | (with_reducible refine ite_neg Bool.false_ne_true ?_) | (with_reducible refine ite_pos rfl ?_) | (with_reducible refine ite_neg (by decide +kernel) ?_) | (with_reducible refine ite_pos (by decide +kernel) ?_))
  k_with "subscriptTail" => ((with_reducible show wpAny _ _ (subscriptTail (Expr.Attribute _ _ _) _ _ _) _ _ _); walk_at "last subscriptTail")
  k_with "NZ SUB" => (intro p9 hp9; (repeat (first | exact hp9 | exact List.mem_append_left _ hp9 | (refine (‹∀ p : Addr × Obj, p ∈ _ → p ∈ _› p9 ?_); exact hp9) | refine List.Mem.tail _ ?_)))
  k_with "eval Name" => (k_here; (with_reducible rename Fr _ _ _ _ => kF); with_reducible (refine' nameX_K kF ?nzX ?nzT ?nze ?_ ?nzk ?nza ?nzb; (case nzX => assumption); (case nzT => k_asm); (case nze => k_is); (case nzk => first | exact rfl | assumption); (case nza => kernel_rfl); (case nzb => kernel_rfl); k_whole))
  k_with "eval Name" => (k_here; (with_reducible rename Fr _ _ _ _ => kF); with_reducible (refine' nameX_L kF ?nzv ?_ ?nzk ?nza ?nzb; (case nza => kernel_rfl!); (case nzv => walk_at "NZ LOOK"); (case nzk => first | exact rfl | assumption); (case nzb => kernel_rfl); k_whole))
  k_with "callWith ref" => (k_here; with_reducible (refine' cw_some ?nzx ?nzk ?_ ?nzhe ?nzhp; (case nzx => assumption); (case nzk => k_is); (case nzhe => kernel_rfl); (case nzhp => kernel_rfl); k_whole))
  k_with "callWith ref" => (k_here; with_reducible (refine' cw_none ?nzx ?nzF ?nzk ?_; (case nzx => assumption); (case nzF => assumption); (case nzk => k_is); k_whole))
  k_with "CompEnd" => (k_dflt (refine' end_same ?a1 ?a2 ?a3 ?a4 ?_; (case a1 => k_asm); (case a2 => k_asm); (case a3 => assumption); (case a4 => lcg_src)))
  k_with "NZ TUP" => (k_dflt (refine' GSrc.tup ?a1 ?a2 ?a3 ?a4 ?a5 ?_; (case a1 => rfl); (case a2 => k_asm); (case a3 => k_asm); (case a4 => first | exact Or.inr ⟨_, by k_mem, rfl, _, rfl⟩ | exact Or.inl (by assumption)); (case a5 => first | exact Nat.le_of_ble_eq_true rfl | size_fits)); intro g')
  k_with "NZ TURN" => (refine ⟨_, _, rfl, by k_asm, by (first | k_asm | (refine' news_drop ?cbN ?cbS; (case cbN => assumption); (case cbS => kcj_all))), ?_⟩)
  k_with "NZ ACOMP" => (k_here; k_dflt (refine Assign_ListComp_G (by k_asm) (by rfl) (by with_unfolding_all rfl) (by rfl) (by decide) (by rfl) (by decide) (by rfl) (by rfl) (by rfl) ?_))
  k_with "NZ ECOMP" => (k_here; k_dflt (refine ListComp_G (by k_asm) (by rfl) (by decide) (by rfl) (by decide) (by rfl) ?_))
  k_with "compareOp In int" => (k_here; (with_reducible show wpAny _ _ (compareOp CmpOp.In (Value.int _ _) (Value.bytes _ _)) _ _ _); (refine By.int_in_bytes (by omega) (by omega) ?_))
  k_with "compareOp In bytes" => (k_here; (with_reducible show wpAny _ _ (compareOp CmpOp.In (Value.bytes _ _) (Value.bytes _ _)) _ _ _); k_dflt (refine' By.bytes_in_bytes ?k1 ?k2 ?k3 ?_; (case k1 => rfl); (case k2 => k_asm); (case k3 => k_asm)); intro h9 tk9 F9 N9; (try k_sweep))
  k_with "exec Assign cons ListComp" => ((with_reducible show wpAny _ _ (exec (Stmt.Assign _ (Expr.ListComp (Expr.Call (Expr.Name "int" _) [Expr.Name "cell" _] _ _) _ _ _) _) _) _ _ _); walk_at "NZ ACOMP")
  trivial
theorem rows_70_6 : True := by
  k_with "call ref" => (k_here; (with_reducible show wpAny _ _ (call (Value.ref 407) _) _ _ _); k_dflt (refine' spcl_use (law_box_c _ _ _ _ ?h1 ?h2) ?k1 ?k2 ?k3 ?k4 ?k5 ?kK ?kd ?ku ?ki ?kL ?_; (case k1 => k_asm); (case k2 => k_asm); (case k3 => k_asm); (case k4 => k_asm); (case k5 => k_asm); (case kK => first | exact rfl | assumption); (case kd => ktr_room); (case ku => ktr_units); (case ki => exact trivial)); (case kL => with_reducible assumption); (case h1 => with_reducible assumption); (case h2 => omega); intro v9 n9 h9 tk9 F9 N9 R9; (try dsimp only at R9); (obtain ⟨p9, c9, ys9, ks9, cap9, cap29, g9, st9, t91, t92, t93, e9, en9, hy9, hk9, hg90, hg91, hs90, hs91, hcp9, hl9, ho9⟩ := R9); (subst e9; subst en9); (try simp only [AllLt, and_true] at hl9); (try simp only [LCg.Off1, and_true] at ho9); (try dsimp only); (try k_sweep); (try k_fold))
  trivial

abbrev poolObj (c : Addr) (g st pl : Int) (t1 t2 t3 : Tok) (cap : Nat) : Obj := W.listOf #[.ref c, .int g t1, .int st t2, .int pl t3] cap
def PlS (p c : Addr) (rest : List (Addr × Obj)) (g st pl : Int) (news : List (Addr × Obj)) : Prop := ∃ cap t1 t2 t3, (p, poolObj c g st pl t1 t2 t3 cap) ∈ news ∧ ∀ q ∈ rest, q ∈ news
theorem fmB (x m : Int) (h : 1 ≤ m) : 0 ≤ x.fmod m ∧ x.fmod m < m := by
  rw [Int.fmod_eq_emod_of_nonneg _ (by omega)]
  exact ⟨Int.emod_nonneg _ (by omega), Int.emod_lt_of_pos _ (by omega)⟩
theorem fdB (x m : Int) (h0 : 0 ≤ x) (h : 1 ≤ m) : 0 ≤ x.fdiv m ∧ x.fdiv m ≤ x := by
  rw [Int.fdiv_eq_ediv_of_nonneg _ (by omega)]
  exact ⟨Int.ediv_nonneg h0 (by omega), Int.ediv_le_self _ h0⟩
-- PRE
local macro_rules | `(tactic| k_all) => `(tactic| assumption)
-- ERP
theorem law_draw_c (w : World) (p c : Addr) (rest : List (Addr × Obj)) (ys : List Value) (ks : List Int) (cap2 : Nat) (g st pl most : Int) (t : Tok) (hc : ((c, W.listOf ys.toArray cap2) : Addr × Obj) ∈ rest) (hy : IntsAre ys ks) (hk : ks.length ≤ 40) (hg0 : 0 ≤ g) (hg1 : g < 10 ^ 200) (hs0 : 0 ≤ st) (hs1 : st < 2147483647)
    (hp0 : 0 ≤ pl) (hp1 : pl ≤ 100) (hm0 : 1 ≤ most) (hm1 : most ≤ 10000000) (hne : ∀ q ∈ rest, @Ne Nat q.1 p) : Spc w 4 (.ref 414) [.ref p, .int most t] (PlS p c rest g st pl)
    (fun _ v news' => ∃ k t' g' st' cap t1 t2 t3, v = .int k t' ∧ news' = (p, poolObj c g' st' (pl + 1) t1 t2 t3 cap) :: rest ∧ 0 ≤ k ∧ k < most ∧ 0 ≤ g' ∧ g' < 10 ^ 200 ∧ 0 ≤ st' ∧ st' < 2147483647) := by
  (try unfold Pur)
  unfold Spc
  k_fill
  intro mean mg mb dp un gd cn cs aF ccd cl outer A₀ base h₀ LF mF news sF QF EF B F X N T hk hdp hun hin hret
  obtain ⟨cap, t1, t2, t3, g1, g2⟩ := hin
  replace N : News h₀ LF sF.heap ((p, poolObj c g st pl t1 t2 t3 cap) :: rest) := news_drop N (List.forall_mem_cons.mpr ⟨g1, g2⟩)
  refine wpAny_call ?_
  k_dflt cell_enter
  have hl1 : ys.length = ks.length := hy.length
  have hl2 : ys.toArray.size = ks.length := by rw [List.size_toArray, hl1]
  k_with "call builtin:len" => (k_dflt (refine PyProof.Rows.len_list (News.isList (by k_asm) (by k_mem)) (by omega) ?_))
  k_with "subscriptTail" => (k_dflt (refine item_anyK (News.isList (by k_asm) (by k_mem)) hy (by omega) (by omega) (by omega) ?_; intro t9))
  k_steps
  all_goals (
    refine' hret _ _ _ _ ?e2 ?e3 ⟨_, _, _, _, _, _, _, _, rfl, rfl, ?e4, ?e5, ?e6, ?e7, ?e8, ?e9⟩
    case e2 => k_asm
    case e3 => k_asm
    case e4 => exact (fmB _ _ hm0).1
    case e5 => exact (fmB _ _ hm0).2
    case e6 => first | assumption | exact (fdB _ _ hg0 hm0).1
    case e7 => first | assumption | exact Int.lt_of_le_of_lt (fdB _ _ hg0 hm0).2 hg1
    case e8 => first | assumption | exact (fmB _ 2147483647 (by decide)).1
    case e9 => first | assumption | exact (fmB _ 2147483647 (by decide)).2)
theorem rows_71_7 : True := by
  k_with_none
  k_with "NZ LOOK" => ((repeat (first | exact if_hit | refine if_miss (by kernel_rfl) ?_ | exact lk_hit | refine lk_miss (by kernel_rfl) ?_ | assumption)); done)
  k_with "ite" => (k_closed; first | (with_reducible refine ite_neg Bool.false_ne_true ?_) | (with_reducible refine ite_pos rfl ?_) | (with_reducible refine ite_neg (by decide +kernel) ?_) | (with_reducible refine ite_pos (by decide +kernel) ?_))
  k_with "subscriptTail" => ((with_reducible show wpAny _ _ (subscriptTail (Expr.Attribute _ _ _) _ _ _) _ _ _); walk_at "last subscriptTail")
  k_with "NZ SUB" => (intro p9 hp9; (repeat (first | exact hp9 | exact List.mem_append_left _ hp9 | (refine (‹∀ p : Addr × Obj, p ∈ _ → p ∈ _› p9 ?_); exact hp9) | refine List.Mem.tail _ ?_)))
  k_with "eval Name" => (k_here; (with_reducible rename Fr _ _ _ _ => kF); with_reducible (refine' nameX_K kF ?nzX ?nzT ?nze ?_ ?nzk ?nza ?nzb; (case nzX => assumption); (case nzT => k_asm); (case nze => k_is); (case nzk => first | exact rfl | assumption); (case nza => kernel_rfl); (case nzb => kernel_rfl); k_whole))
  k_with "eval Name" => (k_here; (with_reducible rename Fr _ _ _ _ => kF); with_reducible (refine' nameX_L kF ?nzv ?_ ?nzk ?nza ?nzb; (case nza => kernel_rfl!); (case nzv => walk_at "NZ LOOK"); (case nzk => first | exact rfl | assumption); (case nzb => kernel_rfl); k_whole))
  k_with "callWith ref" => (k_here; with_reducible (refine' cw_some ?nzx ?nzk ?_ ?nzhe ?nzhp; (case nzx => assumption); (case nzk => k_is); (case nzhe => kernel_rfl); (case nzhp => kernel_rfl); k_whole))
  k_with "callWith ref" => (k_here; with_reducible (refine' cw_none ?nzx ?nzF ?nzk ?_; (case nzx => assumption); (case nzF => assumption); (case nzk => k_is); k_whole))
  k_with "CompEnd" => (k_dflt (refine' end_same ?a1 ?a2 ?a3 ?a4 ?_; (case a1 => k_asm); (case a2 => k_asm); (case a3 => assumption); (case a4 => lcg_src)))
  k_with "NZ TUP" => (k_dflt (refine' GSrc.tup ?a1 ?a2 ?a3 ?a4 ?a5 ?_; (case a1 => rfl); (case a2 => k_asm); (case a3 => k_asm); (case a4 => first | exact Or.inr ⟨_, by k_mem, rfl, _, rfl⟩ | exact Or.inl (by assumption)); (case a5 => first | exact Nat.le_of_ble_eq_true rfl | size_fits)); intro g')
  k_with "NZ TURN" => (refine ⟨_, _, rfl, by k_asm, by (first | k_asm | (refine' news_drop ?cbN ?cbS; (case cbN => assumption); (case cbS => kcj_all))), ?_⟩)
  k_with "NZ ACOMP" => (k_here; k_dflt (refine Assign_ListComp_G (by k_asm) (by rfl) (by with_unfolding_all rfl) (by rfl) (by decide) (by rfl) (by decide) (by rfl) (by rfl) (by rfl) ?_))
  k_with "NZ ECOMP" => (k_here; k_dflt (refine ListComp_G (by k_asm) (by rfl) (by decide) (by rfl) (by decide) (by rfl) ?_))
  k_with "compareOp In int" => (k_here; (with_reducible show wpAny _ _ (compareOp CmpOp.In (Value.int _ _) (Value.bytes _ _)) _ _ _); (refine By.int_in_bytes (by omega) (by omega) ?_))
  k_with "compareOp In bytes" => (k_here; (with_reducible show wpAny _ _ (compareOp CmpOp.In (Value.bytes _ _) (Value.bytes _ _)) _ _ _); k_dflt (refine' By.bytes_in_bytes ?k1 ?k2 ?k3 ?_; (case k1 => rfl); (case k2 => k_asm); (case k3 => k_asm)); intro h9 tk9 F9 N9; (try k_sweep))
  k_with "exec Assign cons ListComp" => ((with_reducible show wpAny _ _ (exec (Stmt.Assign _ (Expr.ListComp (Expr.Call (Expr.Name "int" _) [Expr.Name "cell" _] _ _) _ _ _) _) _) _ _ _); walk_at "NZ ACOMP")
  k_with "call ref" => (k_here; (with_reducible show wpAny _ _ (call (Value.ref 407) _) _ _ _); k_dflt (refine' spcl_use (law_box_c _ _ _ _ ?h1 ?h2) ?k1 ?k2 ?k3 ?k4 ?k5 ?kK ?kd ?ku ?ki ?kL ?_; (case k1 => k_asm); (case k2 => k_asm); (case k3 => k_asm); (case k4 => k_asm); (case k5 => k_asm); (case kK => first | exact rfl | assumption); (case kd => ktr_room); (case ku => ktr_units); (case ki => exact trivial)); (case kL => with_reducible assumption); (case h1 => with_reducible assumption); (case h2 => omega); intro v9 n9 h9 tk9 F9 N9 R9; (try dsimp only at R9); (obtain ⟨p9, c9, ys9, ks9, cap9, cap29, g9, st9, t91, t92, t93, e9, en9, hy9, hk9, hg90, hg91, hs90, hs91, hcp9, hl9, ho9⟩ := R9); (subst e9; subst en9); (try simp only [AllLt, and_true] at hl9); (try simp only [LCg.Off1, and_true] at ho9); (try dsimp only); (try k_sweep); (try k_fold))
  trivial
theorem upd_mem {d : Addr} {o o' : Obj} {l l' : List (Addr × Obj)} (h : Upd d o o' l l') : (d, o) ∈ l ∧ (∀ q ∈ l', q = (d, o') ∨ (q ∈ l ∧ @Ne Nat q.1 d)) ∧ ∀ q ∈ l, @Ne Nat q.1 d → q ∈ l' := by
  induction h with
  | head h =>
    refine ⟨.head _, fun q hq => ?_, fun q hq hn => ?_⟩
    · rcases List.mem_cons.mp hq with rfl | hq
      · exact .inl rfl
      · exact .inr ⟨.tail _ hq, h q hq⟩
    · rcases List.mem_cons.mp hq with rfl | hq
      · exact absurd rfl hn
      · exact .tail _ hq
  | tail h _ ih =>
    refine ⟨.tail _ ih.1, fun q hq => ?_, fun q hq hn => ?_⟩
    · rcases List.mem_cons.mp hq with rfl | hq
      · exact .inr ⟨.head _, h⟩
      · rcases ih.2.1 q hq with e | ⟨a, b⟩
        · exact .inl e
        · exact .inr ⟨.tail _ a, b⟩
    · rcases List.mem_cons.mp hq with rfl | hq
      · exact .head _
      · exact .tail _ (ih.2.2 q hq hn)
theorem draw_use {w : World} {p c : Addr} {ys : List Value} {ks : List Int} {cap cap2 : Nat} {g st pl most : Int} {t t1 t2 t3 : Tok} {nw : Obj → List (Addr × Obj)}
    {mean : ExcName → Option Value} {mg mb : Str → Option Value} {dp un : Nat} {gd : Option (List Code)} {cn : Str} {cs : Scope} {a : Addr} {ccd : Value} {cl : List (Str × Addr)} {outer : List Env} {A₀ : Around} {base h₀ : Heap} {L : Addr} {m : Str → Option Value} {news : List (Addr × Obj)} {s : Shared} {Q E : Value → Shared → Prop}
    (B : Below A₀ base outer h₀) (F : Fr h₀ L s.heap m) (X : (hd.heap_39 w.params).In h₀) (N : News h₀ L s.heap news) (T : Top hd.view_39 lo mean mg mb h₀) (hk : cs.kind = .function)
    (hd' : dp + 4 < recursionLimit) (hu : un + 8 * 4 < cLine)
    (hup : ∀ o', Upd p (poolObj c g st pl t1 t2 t3 cap) o' news (nw o')) (hc : ((c, W.listOf ys.toArray cap2) : Addr × Obj) ∈ news) (hcp : @Ne Nat c p) (hy : IntsAre ys ks) (hk40 : ks.length ≤ 40)
    (hg0 : 0 ≤ g) (hg1 : g < 10 ^ 200) (hs0 : 0 ≤ st) (hs1 : st < 2147483647) (hp0 : 0 ≤ pl) (hp1 : pl ≤ 100) (hm0 : 1 ≤ most) (hm1 : most ≤ 10000000)
    (ret : ∀ k t' g' st' cap' t1' t2' t3' h' tk', Fr h₀ L h' m → News h₀ L h' (nw (poolObj c g' st' (pl + 1) t1' t2' t3' cap')) → 0 ≤ k → k < most → 0 ≤ g' → g' < 10 ^ 200 → 0 ≤ st' → st' < 2147483647 → Q (.int k t') { s with heap := h', toks := tk' }) :
    wpAny (model PySem.Challenge.rw_nz0313_01.row.prog w) (ktrTop dp un gd cn cs L a ccd cl outer) (call (.ref 414) [.ref p, .int most t]) Q E s := by
  have hb : ∀ q ∈ news.filter (fun q => decide (@Ne Nat q.1 p)), q ∈ news ∧ @Ne Nat q.1 p := fun q hq => by simpa using hq
  refine spc_use (law_draw_c w p c (news.filter fun q => decide (@Ne Nat q.1 p)) ys ks cap2 g st pl most t (List.mem_filter.mpr ⟨hc, by simpa using hcp⟩) hy hk40 hg0 hg1 hs0 hs1 hp0 hp1 hm0 hm1 (fun q hq => (hb q hq).2)) B F X N T hk hd' hu ⟨cap, t1, t2, t3, (upd_mem (hup (poolObj c g st pl t1 t2 t3 cap))).1, fun q hq => (hb q hq).1⟩ ?_
  intro v n' h' tk' F' N' ⟨k, t', g', st', cap', t1', t2', t3', ev, en, b1, b2, b3, b4, b5, b6⟩
  subst ev en
  refine ret k t' g' st' cap' t1' t2' t3' h' tk' F' (news_drop N' fun q hq => ?_) b1 b2 b3 b4 b5 b6
  rcases (upd_mem (hup (poolObj c g' st' (pl + 1) t1' t2' t3' cap'))).2.1 q hq with rfl | ⟨x, y⟩
  · exact .head _
  · exact .tail _ (List.mem_filter.mpr ⟨x, by simpa using y⟩)
theorem rows_71_8 : True := by
  k_with "call ref" => (k_here; (with_reducible show wpAny _ _ (call (Value.ref 414) _) _ _ _); (try walk_at "NZ SPLIT"); k_dflt (refine' draw_use ?k1 ?k2 ?k3 ?k4 ?k5 ?kK ?kd ?ku ?h1 ?h2 ?h3 ?h4 ?h5 ?h6 ?h7 ?h8 ?h9 ?h10 ?h11 ?h12 ?h13 ?_; (case k1 => k_asm); (case k2 => k_asm); (case k3 => k_asm); (case k4 => k_asm); (case k5 => k_asm); (case kK => first | exact rfl | assumption); (case kd => ktr_room); (case ku => ktr_units)); (case h1 => intro o9; k_upd); (case h2 => k_dflt k_mem); (case h3 => k_ne); (case h4 => with_reducible assumption); (case h5 => with_reducible assumption); (case h6 => with_reducible first | assumption | decide); (case h7 => with_reducible assumption); (case h8 => with_reducible assumption); (case h9 => with_reducible assumption); (case h10 => omega); (case h11 => omega); (case h12 => decide); (case h13 => decide); intro k9 t9 g9 st9 cap9 t91 t92 t93 h9 tk9 F9 N9 hk90 hk91 hg90 hg91 hs90 hs91; (try dsimp only at N9); (try dsimp only); (try k_sweep); (try k_fold))
  trivial

def atomB (c : Int) : Bool := decide (48 ≤ c ∧ c ≤ 57) || decide (65 ≤ c ∧ c ≤ 90) || decide (97 ≤ c ∧ c ≤ 122) || decide (c = 43) || decide (c = 45)
theorem atomB_or {c : Int} (h : atomB c = true) : (48 ≤ c ∧ c ≤ 57) ∨ (65 ≤ c ∧ c ≤ 90) ∨ (97 ≤ c ∧ c ≤ 122) ∨ c = 43 ∨ c = 45 := by
  unfold atomB at h; simp at h; omega
theorem is_atom_code_c (w : World) (c : Int) (t : Tok) (h : atomB c = true ∨ c = 32 ∨ c = 44 ∨ c = 58) : Pur w 4 (.ref 74) [.int c t] (fun v => v = .bool (atomB c)) := by
  (try unfold Pur)
  unfold Spc
  k_fill
  intro mean mg mb dp un gd cn cs aF ccd cl outer A₀ base h₀ LF mF news sF QF EF B F X N T hk hdp hun hin hret
  refine wpAny_call ?_
  k_dflt cell_enter
  (with_reducible rename Fr _ _ _ (fun nzy => List.lookup nzy _) => F0)
  replace F0 := fr_eq (m' := fun nzy => List.lookup nzy ([(Str.ofString "code", Value.int c t)] : List (Str × Value))) F0 (by kernel_rfl)
  rcases h with h | rfl | rfl | rfl
  · rw [h] at hret
    rcases atomB_or h with ⟨ha, hb⟩ | ⟨ha, hb⟩ | ⟨ha, hb⟩ | rfl | rfl
    all_goals clear h
    all_goals k_steps
    all_goals first | (exfalso; omega) | (refine' hret _ _ _ _ ?e2 ?e3 (⟨rfl, congrArg Value.bool (by first | (exact decide_eq_true (by omega)) | decide +kernel)⟩); (case e2 => k_asm); (case e3 => (first | k_asm | (refine' news_drop ?cbN ?cbS; (case cbN => assumption); (case cbS => kcj_all)))))
  all_goals k_steps
  all_goals first | (exfalso; omega) | (refine' hret _ _ _ _ ?e2 ?e3 (⟨rfl, congrArg Value.bool (by first | (exact decide_eq_false (by omega)) | decide +kernel)⟩); (case e2 => k_asm); (case e3 => (first | k_asm | (refine' news_drop ?cbN ?cbS; (case cbN => assumption); (case cbS => kcj_all)))))
theorem rows_40_9 : True := by
  k_with "eval Call Name" => (k_here; (with_reducible show wpAny _ _ (eval (Expr.Call (Expr.Name "is_atom_code" _) _ _ _) _) _ _ _); refine Call_ ?_)
  k_with "call ref" => (k_here; (with_reducible show wpAny _ _ (call (Value.ref 74) _) _ _ _); k_dflt (refine' pur_use (is_atom_code_c _ _ _ ?h1) ?k1 ?k2 ?k3 ?k4 ?k5 ?kK ?kd ?ku ?_; (case k1 => k_asm); (case k2 => k_asm); (case k3 => k_asm); (case k4 => k_asm); (case k5 => k_asm); (case kK => first | exact rfl | assumption); (case kd => ktr_room); (case ku => ktr_units)); (case h1 => (first | assumption | omega | ((try dsimp only); omega) | ((try dsimp only); (simp (disch := decide) only [Int.fdiv_eq_ediv_of_nonneg, Int.fmod_eq_emod_of_nonneg]); omega) | trivial | (refine ⟨?_, ?_, ?_, ?_, ?_, ?_, ?_, ?_, ?_, ?_, ?_, ?_, ?_, ?_⟩ <;> first | assumption | omega) | decide | (exact decide_eq_true (by omega)) | k_extra "pre")); intro v9 h9 tk9 F9 N9 R9; (try dsimp only at R9); (subst R9); (try dsimp only); (try k_sweep); (try k_fold))
  trivial
theorem getD_ints (x : Array UInt8) (ks : List Int) (hb : KBw.bInts x = ks) (n : Nat) (hn : n < x.size) : ks.getD n 0 = ((x[n]).toNat : Int) := by
  subst hb
  unfold KBw.bInts
  rw [List.getD_eq_getElem?_getD, List.getElem?_map, List.getElem?_eq_getElem (by simpa using hn)]
  simp
theorem pk (x : Array UInt8) (ks : List Int) (hb : KBw.bInts x = ks) (i j : Int) (h0 : 0 ≤ i) (h1 : i ≤ j) (h2 : j ≤ ks.length) : KBy.picked x (some i) (some j) = ((x.toList.drop i.toNat).take (j.toNat - i.toNat)).toArray := by
  have hl : ks.length = x.size := by rw [← hb, KBw.ints_length]
  obtain ⟨a, rfl⟩ := Int.eq_ofNat_of_zero_le h0
  obtain ⟨b, rfl⟩ := Int.eq_ofNat_of_zero_le (Int.le_trans h0 h1)
  rw [KBc.picked_eq]
  show ((x.toList.drop (clipAt x.size ((a : Nat) : Int))).take (clipAt x.size ((b : Nat) : Int) - clipAt x.size ((a : Nat) : Int))).toArray = _
  rw [clipAt_nat, clipAt_nat, Nat.min_eq_left (by omega), Nat.min_eq_left (by omega)]
  simp
theorem pk1 (x : Array UInt8) (ks : List Int) (hb : KBw.bInts x = ks) (i : Int) (h0 : 0 ≤ i) (h1 : i < ks.length) : ∃ c : UInt8, KBy.picked x (some i) (some (i + 1)) = #[c] ∧ ks.getD i.toNat 0 = (c.toNat : Int) := by
  have hl : ks.length = x.size := by rw [← hb, KBw.ints_length]
  have hn : i.toNat < x.size := by omega
  refine ⟨x[i.toNat], ?_, getD_ints x ks hb _ hn⟩
  rw [pk x ks hb i (i + 1) h0 (by omega) (by omega)]
  have e : x.toList.drop i.toNat = x[i.toNat] :: x.toList.drop (i.toNat + 1) := by
    rw [List.drop_eq_getElem_cons (by simpa using hn)]; simp
  rw [e, show (i + 1).toNat - i.toNat = 1 by omega]
  rfl
theorem pk2 (x : Array UInt8) (ks : List Int) (hb : KBw.bInts x = ks) (i : Int) (h0 : 0 ≤ i) (h1 : i < ks.length) (hc : ks.getD i.toNat 0 ≠ 13) : ((KBy.picked x (some i) (some (i + 2))).toList == (#[13, 10] : Array UInt8).toList) = false := by
  have hl : ks.length = x.size := by rw [← hb, KBw.ints_length]
  have hn : i.toNat < x.size := by omega
  rw [getD_ints x ks hb _ hn] at hc
  have e : x.toList.drop i.toNat = x[i.toNat] :: x.toList.drop (i.toNat + 1) := by
    rw [List.drop_eq_getElem_cons (by simpa using hn)]; simp
  obtain ⟨a, rfl⟩ := Int.eq_ofNat_of_zero_le h0
  rw [KBc.picked_eq]
  show (((((x.toList.drop (clipAt x.size ((a : Nat) : Int))).take (clipAt x.size (((a + 2 : Nat) : Nat) : Int) - clipAt x.size ((a : Nat) : Int))).toArray)).toList == (#[13, 10] : Array UInt8).toList) = false
  rw [clipAt_nat, clipAt_nat, Nat.min_eq_left (show a ≤ x.size by omega)]
  have e' : x.toList.drop a = x[a] :: x.toList.drop (a + 1) := e
  rw [e']
  obtain ⟨k, hk⟩ : ∃ k, min (a + 2) x.size - a = k + 1 := ⟨min (a + 2) x.size - a - 1, by omega⟩
  rw [hk, List.take_succ_cons]
  rw [beq_eq_false_iff_ne]
  intro hh
  have h1 := congrArg List.head? hh
  simp at h1
  exact hc (by simp [h1])
theorem line_end_c (w : World) (x : Array UInt8) (ks : List Int) (t u : Tok) (i : Int) (hb : KBw.bInts x = ks) (h0 : 0 ≤ i) (h1 : i < ks.length) (hs : ks.length ≤ 100) (hc1 : ks.getD i.toNat 0 ≠ 10) (hc2 : ks.getD i.toNat 0 ≠ 13) :
    Pur w 4 (.ref 81) [.bytes x t, .int i u] (fun v => ∃ t, v = .int (-1) t) := by
  (try unfold Pur)
  unfold Spc
  k_fill
  intro mean mg mb dp un gd cn cs aF ccd cl outer A₀ base h₀ LF mF news sF QF EF B F X N T hk hdp hun hin hret
  refine wpAny_call ?_
  k_dflt cell_enter
  have f1 : ((KBy.picked x (some i) (some (i + 1))).toList == (#[10] : Array UInt8).toList) = false := by
    obtain ⟨c, e, hc⟩ := pk1 x ks hb i h0 h1
    rw [e, beq_eq_false_iff_ne]
    intro hh
    rw [hc] at hc1
    have : c = 10 := by simpa using hh
    exact hc1 (by rw [this]; rfl)
  have f2 := pk2 x ks hb i h0 h1 hc2
  k_steps
  all_goals (refine' hret _ _ _ _ ?e2 ?e3 (⟨rfl, _, rfl⟩); (case e2 => k_asm); (case e3 => (first | k_asm | (refine' news_drop ?cbN ?cbS; (case cbN => assumption); (case cbS => kcj_all)))))
theorem rows_40_10 : True := by
  k_with "eval Call Name" => (k_here; (with_reducible show wpAny _ _ (eval (Expr.Call (Expr.Name "line_end" _) _ _ _) _) _ _ _); refine Call_ ?_)
  k_with "call ref" => (k_here; (with_reducible show wpAny _ _ (call (Value.ref 81) _) _ _ _); k_dflt (refine' pur_use (line_end_c _ _ _ _ _ _ ?h1 ?h2 ?h3 ?h4 ?h5 ?h6) ?k1 ?k2 ?k3 ?k4 ?k5 ?kK ?kd ?ku ?_; (case k1 => k_asm); (case k2 => k_asm); (case k3 => k_asm); (case k4 => k_asm); (case k5 => k_asm); (case kK => first | exact rfl | assumption); (case kd => ktr_room); (case ku => ktr_units)); (case h1 => (first | assumption | omega | ((try dsimp only); omega) | ((try dsimp only); (simp (disch := decide) only [Int.fdiv_eq_ediv_of_nonneg, Int.fmod_eq_emod_of_nonneg]); omega) | trivial | (refine ⟨?_, ?_, ?_, ?_, ?_, ?_, ?_, ?_, ?_, ?_, ?_, ?_, ?_, ?_⟩ <;> first | assumption | omega) | decide | (exact decide_eq_true (by omega)) | k_extra "pre")); (case h2 => (first | assumption | omega | ((try dsimp only); omega) | ((try dsimp only); (simp (disch := decide) only [Int.fdiv_eq_ediv_of_nonneg, Int.fmod_eq_emod_of_nonneg]); omega) | trivial | (refine ⟨?_, ?_, ?_, ?_, ?_, ?_, ?_, ?_, ?_, ?_, ?_, ?_, ?_, ?_⟩ <;> first | assumption | omega) | decide | (exact decide_eq_true (by omega)) | k_extra "pre")); (case h3 => (first | assumption | omega | ((try dsimp only); omega) | ((try dsimp only); (simp (disch := decide) only [Int.fdiv_eq_ediv_of_nonneg, Int.fmod_eq_emod_of_nonneg]); omega) | trivial | (refine ⟨?_, ?_, ?_, ?_, ?_, ?_, ?_, ?_, ?_, ?_, ?_, ?_, ?_, ?_⟩ <;> first | assumption | omega) | decide | (exact decide_eq_true (by omega)) | k_extra "pre")); (case h4 => (first | assumption | omega | ((try dsimp only); omega) | ((try dsimp only); (simp (disch := decide) only [Int.fdiv_eq_ediv_of_nonneg, Int.fmod_eq_emod_of_nonneg]); omega) | trivial | (refine ⟨?_, ?_, ?_, ?_, ?_, ?_, ?_, ?_, ?_, ?_, ?_, ?_, ?_, ?_⟩ <;> first | assumption | omega) | decide | (exact decide_eq_true (by omega)) | k_extra "pre")); (case h5 => (first | assumption | omega | ((try dsimp only); omega) | ((try dsimp only); (simp (disch := decide) only [Int.fdiv_eq_ediv_of_nonneg, Int.fmod_eq_emod_of_nonneg]); omega) | trivial | (refine ⟨?_, ?_, ?_, ?_, ?_, ?_, ?_, ?_, ?_, ?_, ?_, ?_, ?_, ?_⟩ <;> first | assumption | omega) | decide | (exact decide_eq_true (by omega)) | k_extra "pre")); (case h6 => (first | assumption | omega | ((try dsimp only); omega) | ((try dsimp only); (simp (disch := decide) only [Int.fdiv_eq_ediv_of_nonneg, Int.fmod_eq_emod_of_nonneg]); omega) | trivial | (refine ⟨?_, ?_, ?_, ?_, ?_, ?_, ?_, ?_, ?_, ?_, ?_, ?_, ?_, ?_⟩ <;> first | assumption | omega) | decide | (exact decide_eq_true (by omega)) | k_extra "pre")); intro v9 h9 tk9 F9 N9 R9; (try dsimp only at R9); (obtain ⟨t9, e9⟩ := R9); (subst e9); (try dsimp only); (try k_sweep); (try k_fold))
  trivial
theorem any9 {c : Int} (h : ([9, 32].any fun x => x == c) = true) : c = 9 ∨ c = 32 := by simp at h; omega
theorem any9f {c : Int} (h : ([9, 32].any fun x => x == c) = false) : c ≠ 9 ∧ c ≠ 32 := by simp at h; omega
/-- From i on white up to j, where none stands. -/
def PW (ks : List Int) (i j : Int) : Prop := 0 ≤ i ∧ i ≤ j ∧ j ≤ ks.length ∧ ks.length ≤ 100 ∧ (∀ a, i ≤ a → a < j → ks.getD a.toNat 0 = 32) ∧ (j < ks.length → ks.getD j.toNat 0 ≠ 9 ∧ ks.getD j.toNat 0 ≠ 32 ∧ ks.getD j.toNat 0 ≠ 10 ∧ ks.getD j.toNat 0 ≠ 13)
theorem PW.case {ks : List Int} {i j : Int} (h : PW ks i j) (a : Int) (h1 : i ≤ a) (h2 : a ≤ j) (h3 : a < ks.length) : (a < j ∧ ks.getD a.toNat 0 = 32) ∨ (a = j ∧ ks.getD a.toNat 0 ≠ 9 ∧ ks.getD a.toNat 0 ≠ 32 ∧ ks.getD a.toNat 0 ≠ 10 ∧ ks.getD a.toNat 0 ≠ 13) := by
  obtain ⟨_, _, _, _, hw, hj⟩ := h
  rcases Int.lt_or_eq_of_le h2 with h | h
  · exact .inl ⟨h, hw a h1 h⟩
  · subst h; exact .inr ⟨rfl, hj h3⟩
theorem past_white_c (w : World) (x : Array UInt8) (ks : List Int) (t u : Tok) (i j : Int) (hb : KBw.bInts x = ks) (hw : PW ks i j) : Pur w 6 (.ref 123) [.bytes x t, .int i u] (fun v => ∃ t, v = .int j t) := by
  (try unfold Pur)
  unfold Spc
  k_fill
  intro mean mg mb dp un gd cn cs aF ccd cl outer A₀ base h₀ LF mF news sF QF EF B F X N T hk hdp hun hin hret
  refine wpAny_call ?_
  k_dflt cell_enter
  (with_reducible rename Fr _ _ _ (fun nzy => List.lookup nzy _) => F0)
  replace F0 := fr_eq (m' := fun nzy => List.lookup nzy ([(Str.ofString "at", Value.int i u), (Str.ofString "data", Value.bytes x t)] : List (Str × Value))) F0 (by kernel_rfl)
  have hw' := hw
  obtain ⟨h0, h1, h2, h3, _, _⟩ := hw'
  k_with "pre" => (have h7 := any9f (by assumption); have := hw.case _ (by assumption) (by assumption) (by assumption); omega)
  k_with "state" => (have h7 := any9 (by assumption); have := hw.case _ (by assumption) (by assumption) (by assumption); omega)
  k_with "measure" => (have h7 := any9 (by assumption); have := hw.case _ (by assumption) (by assumption) (by assumption); omega)
  k_with "exec While Compare cons nil" => k_while (fun _ a => i ≤ a ∧ a ≤ j) (fun _ a => (j - a).toNat) "at"
  k_steps
  all_goals (refine' hret _ _ _ _ ?e2 ?e3 (⟨rfl, ktn_int ?_⟩); (case e2 => k_asm); (case e3 => (first | k_asm | (refine' news_drop ?cbN ?cbS; (case cbN => assumption); (case cbS => kcj_all)))))
  all_goals first | omega | (have h7 := any9f (by assumption); have := hw.case _ (by assumption) (by assumption) (by assumption); omega)
theorem rows_40_11 : True := by
  k_with_none
  k_with "NZ LOOK" => ((repeat (first | exact if_hit | refine if_miss (by kernel_rfl) ?_ | exact lk_hit | refine lk_miss (by kernel_rfl) ?_ | assumption)); done)
  k_with "ite" => (k_closed; first | (with_reducible refine ite_neg Bool.false_ne_true ?_) | (with_reducible refine ite_pos rfl ?_) | (with_reducible refine ite_neg (by decide +kernel) ?_) | (with_reducible refine ite_pos (by decide +kernel) ?_))
  k_with "subscriptTail" => ((with_reducible show wpAny _ _ (subscriptTail (Expr.Attribute _ _ _) _ _ _) _ _ _); walk_at "last subscriptTail")
  k_with "NZ SUB" => (intro p9 hp9; (repeat (first | exact hp9 | exact List.mem_append_left _ hp9 | (refine (‹∀ p : Addr × Obj, p ∈ _ → p ∈ _› p9 ?_); exact hp9) | refine List.Mem.tail _ ?_)))
  k_with "eval Name" => (k_here; (with_reducible rename Fr _ _ _ _ => kF); with_reducible (refine' nameX_K kF ?nzX ?nzT ?nze ?_ ?nzk ?nza ?nzb; (case nzX => assumption); (case nzT => k_asm); (case nze => k_is); (case nzk => first | exact rfl | assumption); (case nza => kernel_rfl); (case nzb => kernel_rfl); k_whole))
  k_with "eval Name" => (k_here; (with_reducible rename Fr _ _ _ _ => kF); with_reducible (refine' nameX_L kF ?nzv ?_ ?nzk ?nza ?nzb; (case nza => kernel_rfl!); (case nzv => walk_at "NZ LOOK"); (case nzk => first | exact rfl | assumption); (case nzb => kernel_rfl); k_whole))
  k_with "callWith ref" => (k_here; with_reducible (refine' cw_some ?nzx ?nzk ?_ ?nzhe ?nzhp; (case nzx => assumption); (case nzk => k_is); (case nzhe => kernel_rfl); (case nzhp => kernel_rfl); k_whole))
  k_with "callWith ref" => (k_here; with_reducible (refine' cw_none ?nzx ?nzF ?nzk ?_; (case nzx => assumption); (case nzF => assumption); (case nzk => k_is); k_whole))
  k_with "CompEnd" => (k_dflt (refine' end_same ?a1 ?a2 ?a3 ?a4 ?_; (case a1 => k_asm); (case a2 => k_asm); (case a3 => assumption); (case a4 => lcg_src)))
  k_with "NZ TUP" => (k_dflt (refine' GSrc.tup ?a1 ?a2 ?a3 ?a4 ?a5 ?_; (case a1 => rfl); (case a2 => k_asm); (case a3 => k_asm); (case a4 => first | exact Or.inr ⟨_, by k_mem, rfl, _, rfl⟩ | exact Or.inl (by assumption)); (case a5 => first | exact Nat.le_of_ble_eq_true rfl | size_fits)); intro g')
  k_with "NZ TURN" => (refine ⟨_, _, rfl, by k_asm, by (first | k_asm | (refine' news_drop ?cbN ?cbS; (case cbN => assumption); (case cbS => kcj_all))), ?_⟩)
  k_with "NZ ACOMP" => (k_here; k_dflt (refine Assign_ListComp_G (by k_asm) (by rfl) (by with_unfolding_all rfl) (by rfl) (by decide) (by rfl) (by decide) (by rfl) (by rfl) (by rfl) ?_))
  k_with "NZ ECOMP" => (k_here; k_dflt (refine ListComp_G (by k_asm) (by rfl) (by decide) (by rfl) (by decide) (by rfl) ?_))
  k_with "compareOp In int" => (k_here; (with_reducible show wpAny _ _ (compareOp CmpOp.In (Value.int _ _) (Value.bytes _ _)) _ _ _); (refine By.int_in_bytes (by omega) (by omega) ?_))
  k_with "compareOp In bytes" => (k_here; (with_reducible show wpAny _ _ (compareOp CmpOp.In (Value.bytes _ _) (Value.bytes _ _)) _ _ _); k_dflt (refine' By.bytes_in_bytes ?k1 ?k2 ?k3 ?_; (case k1 => rfl); (case k2 => k_asm); (case k3 => k_asm)); intro h9 tk9 F9 N9; (try k_sweep))
  k_with "exec Assign cons ListComp" => ((with_reducible show wpAny _ _ (exec (Stmt.Assign _ (Expr.ListComp (Expr.Call (Expr.Name "int" _) [Expr.Name "cell" _] _ _) _ _ _) _) _) _ _ _); walk_at "NZ ACOMP")
  k_with "call ref" => (k_here; (with_reducible show wpAny _ _ (call (Value.ref 407) _) _ _ _); k_dflt (refine' spcl_use (law_box_c _ _ _ _ ?h1 ?h2) ?k1 ?k2 ?k3 ?k4 ?k5 ?kK ?kd ?ku ?ki ?kL ?_; (case k1 => k_asm); (case k2 => k_asm); (case k3 => k_asm); (case k4 => k_asm); (case k5 => k_asm); (case kK => first | exact rfl | assumption); (case kd => ktr_room); (case ku => ktr_units); (case ki => exact trivial)); (case kL => with_reducible assumption); (case h1 => with_reducible assumption); (case h2 => omega); intro v9 n9 h9 tk9 F9 N9 R9; (try dsimp only at R9); (obtain ⟨p9, c9, ys9, ks9, cap9, cap29, g9, st9, t91, t92, t93, e9, en9, hy9, hk9, hg90, hg91, hs90, hs91, hcp9, hl9, ho9⟩ := R9); (subst e9; subst en9); (try simp only [AllLt, and_true] at hl9); (try simp only [LCg.Off1, and_true] at ho9); (try dsimp only); (try k_sweep); (try k_fold))
  k_with "call ref" => (k_here; (with_reducible show wpAny _ _ (call (Value.ref 414) _) _ _ _); (try walk_at "NZ SPLIT"); k_dflt (refine' draw_use ?k1 ?k2 ?k3 ?k4 ?k5 ?kK ?kd ?ku ?h1 ?h2 ?h3 ?h4 ?h5 ?h6 ?h7 ?h8 ?h9 ?h10 ?h11 ?h12 ?h13 ?_; (case k1 => k_asm); (case k2 => k_asm); (case k3 => k_asm); (case k4 => k_asm); (case k5 => k_asm); (case kK => first | exact rfl | assumption); (case kd => ktr_room); (case ku => ktr_units)); (case h1 => intro o9; k_upd); (case h2 => k_dflt k_mem); (case h3 => k_ne); (case h4 => with_reducible assumption); (case h5 => with_reducible assumption); (case h6 => with_reducible first | assumption | decide); (case h7 => with_reducible assumption); (case h8 => with_reducible assumption); (case h9 => with_reducible assumption); (case h10 => omega); (case h11 => omega); (case h12 => decide); (case h13 => decide); intro k9 t9 g9 st9 cap9 t91 t92 t93 h9 tk9 F9 N9 hk90 hk91 hg90 hg91 hs90 hs91; (try dsimp only at N9); (try dsimp only); (try k_sweep); (try k_fold))
  k_with "eval Call Name" => (k_here; (with_reducible show wpAny _ _ (eval (Expr.Call (Expr.Name "is_atom_code" _) _ _ _) _) _ _ _); refine Call_ ?_)
  k_with "call ref" => (k_here; (with_reducible show wpAny _ _ (call (Value.ref 74) _) _ _ _); k_dflt (refine' pur_use (is_atom_code_c _ _ _ ?h1) ?k1 ?k2 ?k3 ?k4 ?k5 ?kK ?kd ?ku ?_; (case k1 => k_asm); (case k2 => k_asm); (case k3 => k_asm); (case k4 => k_asm); (case k5 => k_asm); (case kK => first | exact rfl | assumption); (case kd => ktr_room); (case ku => ktr_units)); (case h1 => (first | assumption | omega | ((try dsimp only); omega) | ((try dsimp only); (simp (disch := decide) only [Int.fdiv_eq_ediv_of_nonneg, Int.fmod_eq_emod_of_nonneg]); omega) | trivial | (refine ⟨?_, ?_, ?_, ?_, ?_, ?_, ?_, ?_, ?_, ?_, ?_, ?_, ?_, ?_⟩ <;> first | assumption | omega) | decide | (exact decide_eq_true (by omega)) | k_extra "pre")); intro v9 h9 tk9 F9 N9 R9; (try dsimp only at R9); (subst R9); (try dsimp only); (try k_sweep); (try k_fold))
  k_with "eval Call Name" => (k_here; (with_reducible show wpAny _ _ (eval (Expr.Call (Expr.Name "line_end" _) _ _ _) _) _ _ _); refine Call_ ?_)
  k_with "call ref" => (k_here; (with_reducible show wpAny _ _ (call (Value.ref 81) _) _ _ _); k_dflt (refine' pur_use (line_end_c _ _ _ _ _ _ ?h1 ?h2 ?h3 ?h4 ?h5 ?h6) ?k1 ?k2 ?k3 ?k4 ?k5 ?kK ?kd ?ku ?_; (case k1 => k_asm); (case k2 => k_asm); (case k3 => k_asm); (case k4 => k_asm); (case k5 => k_asm); (case kK => first | exact rfl | assumption); (case kd => ktr_room); (case ku => ktr_units)); (case h1 => (first | assumption | omega | ((try dsimp only); omega) | ((try dsimp only); (simp (disch := decide) only [Int.fdiv_eq_ediv_of_nonneg, Int.fmod_eq_emod_of_nonneg]); omega) | trivial | (refine ⟨?_, ?_, ?_, ?_, ?_, ?_, ?_, ?_, ?_, ?_, ?_, ?_, ?_, ?_⟩ <;> first | assumption | omega) | decide | (exact decide_eq_true (by omega)) | k_extra "pre")); (case h2 => (first | assumption | omega | ((try dsimp only); omega) | ((try dsimp only); (simp (disch := decide) only [Int.fdiv_eq_ediv_of_nonneg, Int.fmod_eq_emod_of_nonneg]); omega) | trivial | (refine ⟨?_, ?_, ?_, ?_, ?_, ?_, ?_, ?_, ?_, ?_, ?_, ?_, ?_, ?_⟩ <;> first | assumption | omega) | decide | (exact decide_eq_true (by omega)) | k_extra "pre")); (case h3 => (first | assumption | omega | ((try dsimp only); omega) | ((try dsimp only); (simp (disch := decide) only [Int.fdiv_eq_ediv_of_nonneg, Int.fmod_eq_emod_of_nonneg]); omega) | trivial | (refine ⟨?_, ?_, ?_, ?_, ?_, ?_, ?_, ?_, ?_, ?_, ?_, ?_, ?_, ?_⟩ <;> first | assumption | omega) | decide | (exact decide_eq_true (by omega)) | k_extra "pre")); (case h4 => (first | assumption | omega | ((try dsimp only); omega) | ((try dsimp only); (simp (disch := decide) only [Int.fdiv_eq_ediv_of_nonneg, Int.fmod_eq_emod_of_nonneg]); omega) | trivial | (refine ⟨?_, ?_, ?_, ?_, ?_, ?_, ?_, ?_, ?_, ?_, ?_, ?_, ?_, ?_⟩ <;> first | assumption | omega) | decide | (exact decide_eq_true (by omega)) | k_extra "pre")); (case h5 => (first | assumption | omega | ((try dsimp only); omega) | ((try dsimp only); (simp (disch := decide) only [Int.fdiv_eq_ediv_of_nonneg, Int.fmod_eq_emod_of_nonneg]); omega) | trivial | (refine ⟨?_, ?_, ?_, ?_, ?_, ?_, ?_, ?_, ?_, ?_, ?_, ?_, ?_, ?_⟩ <;> first | assumption | omega) | decide | (exact decide_eq_true (by omega)) | k_extra "pre")); (case h6 => (first | assumption | omega | ((try dsimp only); omega) | ((try dsimp only); (simp (disch := decide) only [Int.fdiv_eq_ediv_of_nonneg, Int.fmod_eq_emod_of_nonneg]); omega) | trivial | (refine ⟨?_, ?_, ?_, ?_, ?_, ?_, ?_, ?_, ?_, ?_, ?_, ?_, ?_, ?_⟩ <;> first | assumption | omega) | decide | (exact decide_eq_true (by omega)) | k_extra "pre")); intro v9 h9 tk9 F9 N9 R9; (try dsimp only at R9); (obtain ⟨t9, e9⟩ := R9); (subst e9); (try dsimp only); (try k_sweep); (try k_fold))
  trivial
theorem rows_40_12 : True := by
  k_with "eval Call Name" => (k_here; (with_reducible show wpAny _ _ (eval (Expr.Call (Expr.Name "past_white" _) _ _ _) _) _ _ _); refine Call_ ?_)
  k_with "call ref" => (k_here; (with_reducible show wpAny _ _ (call (Value.ref 123) _) _ _ _); k_dflt (refine' pur_use (past_white_c _ _ _ _ _ _ _ ?h1 ?h2) ?k1 ?k2 ?k3 ?k4 ?k5 ?kK ?kd ?ku ?_; (case k1 => k_asm); (case k2 => k_asm); (case k3 => k_asm); (case k4 => k_asm); (case k5 => k_asm); (case kK => first | exact rfl | assumption); (case kd => ktr_room); (case ku => ktr_units)); (case h1 => (first | assumption | omega | ((try dsimp only); omega) | ((try dsimp only); (simp (disch := decide) only [Int.fdiv_eq_ediv_of_nonneg, Int.fmod_eq_emod_of_nonneg]); omega) | trivial | (refine ⟨?_, ?_, ?_, ?_, ?_, ?_, ?_, ?_, ?_, ?_, ?_, ?_, ?_, ?_⟩ <;> first | assumption | omega) | decide | (exact decide_eq_true (by omega)) | k_extra "pre")); (case h2 => (first | assumption | omega | ((try dsimp only); omega) | ((try dsimp only); (simp (disch := decide) only [Int.fdiv_eq_ediv_of_nonneg, Int.fmod_eq_emod_of_nonneg]); omega) | trivial | (refine ⟨?_, ?_, ?_, ?_, ?_, ?_, ?_, ?_, ?_, ?_, ?_, ?_, ?_, ?_⟩ <;> first | assumption | omega) | decide | (exact decide_eq_true (by omega)) | k_extra "pre")); intro v9 h9 tk9 F9 N9 R9; (try dsimp only at R9); (obtain ⟨t9, e9⟩ := R9); (subst e9); (try dsimp only); (try k_sweep); (try k_fold))
  trivial
/-- An atom stands from i to j. -/
def AT (ks : List Int) (i j : Int) : Prop := 0 ≤ i ∧ i < j ∧ j ≤ ks.length ∧ ks.length ≤ 100 ∧ (∀ a, i ≤ a → a < j → atomB (ks.getD a.toNat 0) = true) ∧ (j < ks.length → ks.getD j.toNat 0 = 32 ∨ ks.getD j.toNat 0 = 44 ∨ ks.getD j.toNat 0 = 58)
theorem AT.pre {ks : List Int} {i j : Int} (h : AT ks i j) (a : Int) (h1 : i ≤ a) (h2 : a ≤ j) (h3 : a < ks.length) : atomB (ks.getD a.toNat 0) = true ∨ ks.getD a.toNat 0 = 32 ∨ ks.getD a.toNat 0 = 44 ∨ ks.getD a.toNat 0 = 58 := by
  obtain ⟨_, _, _, _, hw, hj⟩ := h
  rcases Int.lt_or_eq_of_le h2 with h | h
  · exact .inl (hw a h1 h)
  · subst h; exact .inr (hj h3)
theorem AT.lt {ks : List Int} {i j : Int} (h : AT ks i j) (a : Int) (h2 : a ≤ j) (h3 : a < ks.length) (hb : atomB (ks.getD a.toNat 0) = true) : a < j := by
  obtain ⟨_, _, _, _, hw, hj⟩ := h
  rcases Int.lt_or_eq_of_le h2 with h | h
  · exact h
  · subst h
    rcases hj h3 with e | e | e <;> rw [e] at hb <;> exact absurd hb (by decide)
theorem AT.eq {ks : List Int} {i j : Int} (h : AT ks i j) (a : Int) (h1 : i ≤ a) (h2 : a ≤ j) (hb : atomB (ks.getD a.toNat 0) = false) : a = j := by
  obtain ⟨_, _, _, _, hw, hj⟩ := h
  rcases Int.lt_or_eq_of_le h2 with h | h
  · rw [hw a h1 h] at hb; cases hb
  · exact h
theorem AT.fin {ks : List Int} {i j : Int} (h : AT ks i j) (a : Int) (h2 : a ≤ j) (h3 : ¬ a < ks.length) : a = j := by
  obtain ⟨_, _, _, _, _, _⟩ := h
  omega
theorem atom_at_c (w : World) (x : Array UInt8) (ks : List Int) (t u : Tok) (i j : Int) (hb : KBw.bInts x = ks) (hw : AT ks i j) : Spc w 6 (.ref 109) [.bytes x t, .int i u] (fun _ => True) (fun news v news' => ∃ r t1 t2, v = .ref r ∧ news' = (r, { cls := .type "tuple", data := .seq #[.bytes (KBy.picked x (some i) (some j)) t1, .int j t2] }) :: news ∧ AllLt r news) := by
  (try unfold Pur)
  unfold Spc
  k_fill
  intro mean mg mb dp un gd cn cs aF ccd cl outer A₀ base h₀ LF mF news sF QF EF B F X N T hk hdp hun hin hret
  refine wpAny_call ?_
  k_dflt cell_enter
  (with_reducible rename Fr _ _ _ (fun nzy => List.lookup nzy _) => F0)
  replace F0 := fr_eq (m' := fun nzy => List.lookup nzy ([(Str.ofString "at", Value.int i u), (Str.ofString "data", Value.bytes x t)] : List (Str × Value))) F0 (by kernel_rfl)
  have hw' := hw
  obtain ⟨h0, h1, h2, h3, _, _⟩ := hw'
  k_with "pre" => exact hw.pre _ (by assumption) (by assumption) (by assumption)
  k_with "state" => (have h7 := hw.lt _ (by assumption) (by assumption) (by assumption); omega)
  k_with "measure" => (have h7 := hw.lt _ (by assumption) (by assumption) (by assumption); omega)
  k_with "exec While BoolOp cons nil" => k_while (fun _ a => i ≤ a ∧ a ≤ j) (fun _ a => (j - a).toNat) "end"
  k_steps
  all_goals (
    have h7 := by first | exact hw.eq _ (by assumption) (by assumption) (by assumption) | exact hw.fin _ (by assumption) (by assumption)
    subst h7
    refine' hret _ _ _ _ ?e2 ?e3 ⟨_, _, _, rfl, rfl, ?e4⟩
    case e2 => k_asm
    case e3 => k_asm
    case e4 => first | assumption | exact allLt_of (by assumption))
theorem rows_40_13 : True := by
  k_with_none
  k_with "NZ LOOK" => ((repeat (first | exact if_hit | refine if_miss (by kernel_rfl) ?_ | exact lk_hit | refine lk_miss (by kernel_rfl) ?_ | assumption)); done)
  k_with "ite" => (k_closed; first | (with_reducible refine ite_neg Bool.false_ne_true ?_) | (with_reducible refine ite_pos rfl ?_) | (with_reducible refine ite_neg (by decide +kernel) ?_) | (with_reducible refine ite_pos (by decide +kernel) ?_))
  k_with "subscriptTail" => ((with_reducible show wpAny _ _ (subscriptTail (Expr.Attribute _ _ _) _ _ _) _ _ _); walk_at "last subscriptTail")
  k_with "NZ SUB" => (intro p9 hp9; (repeat (first | exact hp9 | exact List.mem_append_left _ hp9 | (refine (‹∀ p : Addr × Obj, p ∈ _ → p ∈ _› p9 ?_); exact hp9) | refine List.Mem.tail _ ?_)))
  k_with "eval Name" => (k_here; (with_reducible rename Fr _ _ _ _ => kF); with_reducible (refine' nameX_K kF ?nzX ?nzT ?nze ?_ ?nzk ?nza ?nzb; (case nzX => assumption); (case nzT => k_asm); (case nze => k_is); (case nzk => first | exact rfl | assumption); (case nza => kernel_rfl); (case nzb => kernel_rfl); k_whole))
  k_with "eval Name" => (k_here; (with_reducible rename Fr _ _ _ _ => kF); with_reducible (refine' nameX_L kF ?nzv ?_ ?nzk ?nza ?nzb; (case nza => kernel_rfl!); (case nzv => walk_at "NZ LOOK"); (case nzk => first | exact rfl | assumption); (case nzb => kernel_rfl); k_whole))
  k_with "callWith ref" => (k_here; with_reducible (refine' cw_some ?nzx ?nzk ?_ ?nzhe ?nzhp; (case nzx => assumption); (case nzk => k_is); (case nzhe => kernel_rfl); (case nzhp => kernel_rfl); k_whole))
  k_with "callWith ref" => (k_here; with_reducible (refine' cw_none ?nzx ?nzF ?nzk ?_; (case nzx => assumption); (case nzF => assumption); (case nzk => k_is); k_whole))
  k_with "CompEnd" => (k_dflt (refine' end_same ?a1 ?a2 ?a3 ?a4 ?_; (case a1 => k_asm); (case a2 => k_asm); (case a3 => assumption); (case a4 => lcg_src)))
  k_with "NZ TUP" => (k_dflt (refine' GSrc.tup ?a1 ?a2 ?a3 ?a4 ?a5 ?_; (case a1 => rfl); (case a2 => k_asm); (case a3 => k_asm); (case a4 => first | exact Or.inr ⟨_, by k_mem, rfl, _, rfl⟩ | exact Or.inl (by assumption)); (case a5 => first | exact Nat.le_of_ble_eq_true rfl | size_fits)); intro g')
  k_with "NZ TURN" => (refine ⟨_, _, rfl, by k_asm, by (first | k_asm | (refine' news_drop ?cbN ?cbS; (case cbN => assumption); (case cbS => kcj_all))), ?_⟩)
  k_with "NZ ACOMP" => (k_here; k_dflt (refine Assign_ListComp_G (by k_asm) (by rfl) (by with_unfolding_all rfl) (by rfl) (by decide) (by rfl) (by decide) (by rfl) (by rfl) (by rfl) ?_))
  k_with "NZ ECOMP" => (k_here; k_dflt (refine ListComp_G (by k_asm) (by rfl) (by decide) (by rfl) (by decide) (by rfl) ?_))
  k_with "compareOp In int" => (k_here; (with_reducible show wpAny _ _ (compareOp CmpOp.In (Value.int _ _) (Value.bytes _ _)) _ _ _); (refine By.int_in_bytes (by omega) (by omega) ?_))
  k_with "compareOp In bytes" => (k_here; (with_reducible show wpAny _ _ (compareOp CmpOp.In (Value.bytes _ _) (Value.bytes _ _)) _ _ _); k_dflt (refine' By.bytes_in_bytes ?k1 ?k2 ?k3 ?_; (case k1 => rfl); (case k2 => k_asm); (case k3 => k_asm)); intro h9 tk9 F9 N9; (try k_sweep))
  k_with "exec Assign cons ListComp" => ((with_reducible show wpAny _ _ (exec (Stmt.Assign _ (Expr.ListComp (Expr.Call (Expr.Name "int" _) [Expr.Name "cell" _] _ _) _ _ _) _) _) _ _ _); walk_at "NZ ACOMP")
  k_with "call ref" => (k_here; (with_reducible show wpAny _ _ (call (Value.ref 407) _) _ _ _); k_dflt (refine' spcl_use (law_box_c _ _ _ _ ?h1 ?h2) ?k1 ?k2 ?k3 ?k4 ?k5 ?kK ?kd ?ku ?ki ?kL ?_; (case k1 => k_asm); (case k2 => k_asm); (case k3 => k_asm); (case k4 => k_asm); (case k5 => k_asm); (case kK => first | exact rfl | assumption); (case kd => ktr_room); (case ku => ktr_units); (case ki => exact trivial)); (case kL => with_reducible assumption); (case h1 => with_reducible assumption); (case h2 => omega); intro v9 n9 h9 tk9 F9 N9 R9; (try dsimp only at R9); (obtain ⟨p9, c9, ys9, ks9, cap9, cap29, g9, st9, t91, t92, t93, e9, en9, hy9, hk9, hg90, hg91, hs90, hs91, hcp9, hl9, ho9⟩ := R9); (subst e9; subst en9); (try simp only [AllLt, and_true] at hl9); (try simp only [LCg.Off1, and_true] at ho9); (try dsimp only); (try k_sweep); (try k_fold))
  k_with "call ref" => (k_here; (with_reducible show wpAny _ _ (call (Value.ref 414) _) _ _ _); (try walk_at "NZ SPLIT"); k_dflt (refine' draw_use ?k1 ?k2 ?k3 ?k4 ?k5 ?kK ?kd ?ku ?h1 ?h2 ?h3 ?h4 ?h5 ?h6 ?h7 ?h8 ?h9 ?h10 ?h11 ?h12 ?h13 ?_; (case k1 => k_asm); (case k2 => k_asm); (case k3 => k_asm); (case k4 => k_asm); (case k5 => k_asm); (case kK => first | exact rfl | assumption); (case kd => ktr_room); (case ku => ktr_units)); (case h1 => intro o9; k_upd); (case h2 => k_dflt k_mem); (case h3 => k_ne); (case h4 => with_reducible assumption); (case h5 => with_reducible assumption); (case h6 => with_reducible first | assumption | decide); (case h7 => with_reducible assumption); (case h8 => with_reducible assumption); (case h9 => with_reducible assumption); (case h10 => omega); (case h11 => omega); (case h12 => decide); (case h13 => decide); intro k9 t9 g9 st9 cap9 t91 t92 t93 h9 tk9 F9 N9 hk90 hk91 hg90 hg91 hs90 hs91; (try dsimp only at N9); (try dsimp only); (try k_sweep); (try k_fold))
  k_with "eval Call Name" => (k_here; (with_reducible show wpAny _ _ (eval (Expr.Call (Expr.Name "is_atom_code" _) _ _ _) _) _ _ _); refine Call_ ?_)
  k_with "call ref" => (k_here; (with_reducible show wpAny _ _ (call (Value.ref 74) _) _ _ _); k_dflt (refine' pur_use (is_atom_code_c _ _ _ ?h1) ?k1 ?k2 ?k3 ?k4 ?k5 ?kK ?kd ?ku ?_; (case k1 => k_asm); (case k2 => k_asm); (case k3 => k_asm); (case k4 => k_asm); (case k5 => k_asm); (case kK => first | exact rfl | assumption); (case kd => ktr_room); (case ku => ktr_units)); (case h1 => (first | assumption | omega | ((try dsimp only); omega) | ((try dsimp only); (simp (disch := decide) only [Int.fdiv_eq_ediv_of_nonneg, Int.fmod_eq_emod_of_nonneg]); omega) | trivial | (refine ⟨?_, ?_, ?_, ?_, ?_, ?_, ?_, ?_, ?_, ?_, ?_, ?_, ?_, ?_⟩ <;> first | assumption | omega) | decide | (exact decide_eq_true (by omega)) | k_extra "pre")); intro v9 h9 tk9 F9 N9 R9; (try dsimp only at R9); (subst R9); (try dsimp only); (try k_sweep); (try k_fold))
  k_with "eval Call Name" => (k_here; (with_reducible show wpAny _ _ (eval (Expr.Call (Expr.Name "line_end" _) _ _ _) _) _ _ _); refine Call_ ?_)
  k_with "call ref" => (k_here; (with_reducible show wpAny _ _ (call (Value.ref 81) _) _ _ _); k_dflt (refine' pur_use (line_end_c _ _ _ _ _ _ ?h1 ?h2 ?h3 ?h4 ?h5 ?h6) ?k1 ?k2 ?k3 ?k4 ?k5 ?kK ?kd ?ku ?_; (case k1 => k_asm); (case k2 => k_asm); (case k3 => k_asm); (case k4 => k_asm); (case k5 => k_asm); (case kK => first | exact rfl | assumption); (case kd => ktr_room); (case ku => ktr_units)); (case h1 => (first | assumption | omega | ((try dsimp only); omega) | ((try dsimp only); (simp (disch := decide) only [Int.fdiv_eq_ediv_of_nonneg, Int.fmod_eq_emod_of_nonneg]); omega) | trivial | (refine ⟨?_, ?_, ?_, ?_, ?_, ?_, ?_, ?_, ?_, ?_, ?_, ?_, ?_, ?_⟩ <;> first | assumption | omega) | decide | (exact decide_eq_true (by omega)) | k_extra "pre")); (case h2 => (first | assumption | omega | ((try dsimp only); omega) | ((try dsimp only); (simp (disch := decide) only [Int.fdiv_eq_ediv_of_nonneg, Int.fmod_eq_emod_of_nonneg]); omega) | trivial | (refine ⟨?_, ?_, ?_, ?_, ?_, ?_, ?_, ?_, ?_, ?_, ?_, ?_, ?_, ?_⟩ <;> first | assumption | omega) | decide | (exact decide_eq_true (by omega)) | k_extra "pre")); (case h3 => (first | assumption | omega | ((try dsimp only); omega) | ((try dsimp only); (simp (disch := decide) only [Int.fdiv_eq_ediv_of_nonneg, Int.fmod_eq_emod_of_nonneg]); omega) | trivial | (refine ⟨?_, ?_, ?_, ?_, ?_, ?_, ?_, ?_, ?_, ?_, ?_, ?_, ?_, ?_⟩ <;> first | assumption | omega) | decide | (exact decide_eq_true (by omega)) | k_extra "pre")); (case h4 => (first | assumption | omega | ((try dsimp only); omega) | ((try dsimp only); (simp (disch := decide) only [Int.fdiv_eq_ediv_of_nonneg, Int.fmod_eq_emod_of_nonneg]); omega) | trivial | (refine ⟨?_, ?_, ?_, ?_, ?_, ?_, ?_, ?_, ?_, ?_, ?_, ?_, ?_, ?_⟩ <;> first | assumption | omega) | decide | (exact decide_eq_true (by omega)) | k_extra "pre")); (case h5 => (first | assumption | omega | ((try dsimp only); omega) | ((try dsimp only); (simp (disch := decide) only [Int.fdiv_eq_ediv_of_nonneg, Int.fmod_eq_emod_of_nonneg]); omega) | trivial | (refine ⟨?_, ?_, ?_, ?_, ?_, ?_, ?_, ?_, ?_, ?_, ?_, ?_, ?_, ?_⟩ <;> first | assumption | omega) | decide | (exact decide_eq_true (by omega)) | k_extra "pre")); (case h6 => (first | assumption | omega | ((try dsimp only); omega) | ((try dsimp only); (simp (disch := decide) only [Int.fdiv_eq_ediv_of_nonneg, Int.fmod_eq_emod_of_nonneg]); omega) | trivial | (refine ⟨?_, ?_, ?_, ?_, ?_, ?_, ?_, ?_, ?_, ?_, ?_, ?_, ?_, ?_⟩ <;> first | assumption | omega) | decide | (exact decide_eq_true (by omega)) | k_extra "pre")); intro v9 h9 tk9 F9 N9 R9; (try dsimp only at R9); (obtain ⟨t9, e9⟩ := R9); (subst e9); (try dsimp only); (try k_sweep); (try k_fold))
  k_with "eval Call Name" => (k_here; (with_reducible show wpAny _ _ (eval (Expr.Call (Expr.Name "past_white" _) _ _ _) _) _ _ _); refine Call_ ?_)
  k_with "call ref" => (k_here; (with_reducible show wpAny _ _ (call (Value.ref 123) _) _ _ _); k_dflt (refine' pur_use (past_white_c _ _ _ _ _ _ _ ?h1 ?h2) ?k1 ?k2 ?k3 ?k4 ?k5 ?kK ?kd ?ku ?_; (case k1 => k_asm); (case k2 => k_asm); (case k3 => k_asm); (case k4 => k_asm); (case k5 => k_asm); (case kK => first | exact rfl | assumption); (case kd => ktr_room); (case ku => ktr_units)); (case h1 => (first | assumption | omega | ((try dsimp only); omega) | ((try dsimp only); (simp (disch := decide) only [Int.fdiv_eq_ediv_of_nonneg, Int.fmod_eq_emod_of_nonneg]); omega) | trivial | (refine ⟨?_, ?_, ?_, ?_, ?_, ?_, ?_, ?_, ?_, ?_, ?_, ?_, ?_, ?_⟩ <;> first | assumption | omega) | decide | (exact decide_eq_true (by omega)) | k_extra "pre")); (case h2 => (first | assumption | omega | ((try dsimp only); omega) | ((try dsimp only); (simp (disch := decide) only [Int.fdiv_eq_ediv_of_nonneg, Int.fmod_eq_emod_of_nonneg]); omega) | trivial | (refine ⟨?_, ?_, ?_, ?_, ?_, ?_, ?_, ?_, ?_, ?_, ?_, ?_, ?_, ?_⟩ <;> first | assumption | omega) | decide | (exact decide_eq_true (by omega)) | k_extra "pre")); intro v9 h9 tk9 F9 N9 R9; (try dsimp only at R9); (obtain ⟨t9, e9⟩ := R9); (subst e9); (try dsimp only); (try k_sweep); (try k_fold))
  trivial
theorem rows_40_14 : True := by
  k_with "eval Call Name" => (k_here; (with_reducible show wpAny _ _ (eval (Expr.Call (Expr.Name "atom_at" _) _ _ _) _) _ _ _); refine Call_ ?_)
  k_with "call ref" => (k_here; (with_reducible show wpAny _ _ (call (Value.ref 109) _) _ _ _); k_dflt (refine' spc_use (atom_at_c _ _ _ _ _ _ _ ?h1 ?h2) ?k1 ?k2 ?k3 ?k4 ?k5 ?kK ?kd ?ku ?ki ?_; (case k1 => k_asm); (case k2 => k_asm); (case k3 => k_asm); (case k4 => k_asm); (case k5 => k_asm); (case kK => first | exact rfl | assumption); (case kd => ktr_room); (case ku => ktr_units); (case ki => exact trivial)); (case h1 => (first | assumption | omega | ((try dsimp only); omega) | ((try dsimp only); (simp (disch := decide) only [Int.fdiv_eq_ediv_of_nonneg, Int.fmod_eq_emod_of_nonneg]); omega) | trivial | (refine ⟨?_, ?_, ?_, ?_, ?_, ?_, ?_, ?_, ?_, ?_, ?_, ?_, ?_, ?_⟩ <;> first | assumption | omega) | decide | (exact decide_eq_true (by omega)) | k_extra "pre")); (case h2 => (first | assumption | omega | ((try dsimp only); omega) | ((try dsimp only); (simp (disch := decide) only [Int.fdiv_eq_ediv_of_nonneg, Int.fmod_eq_emod_of_nonneg]); omega) | trivial | (refine ⟨?_, ?_, ?_, ?_, ?_, ?_, ?_, ?_, ?_, ?_, ?_, ?_, ?_, ?_⟩ <;> first | assumption | omega) | decide | (exact decide_eq_true (by omega)) | k_extra "pre")); intro v9 n9 h9 tk9 F9 N9 R9; (try dsimp only at R9); (obtain ⟨x9, t91, t92, e9, en9, hl9⟩ := R9); (subst e9; subst en9; (try simp only [AllLt, and_true] at hl9)); (try dsimp only); (try k_sweep); (try k_fold))
  trivial
/-- A sign stands at i. -/
def SG (ks : List Int) (i j : Int) (c : UInt8) : Prop := 0 ≤ i ∧ i < ks.length ∧ ks.length ≤ 100 ∧ j = i + 1 ∧ ks.getD i.toNat 0 = (c.toNat : Int) ∧ (c = 44 ∨ c = 58)
abbrev SIGNS : Array UInt8 := #[60, 62, 64, 44, 59, 58, 46, 92]
theorem sg_no : ∀ c : Fin 256, atomB (c.val : Int) = true → (([c.val.toUInt8] : List UInt8) == (#[34] : Array UInt8).toList) = false ∧ (([c.val.toUInt8] : List UInt8) == (#[91] : Array UInt8).toList) = false ∧ (([c.val.toUInt8] : List UInt8) == (#[40] : Array UInt8).toList) = false ∧
    (Builtin.Bytes.find? #[60, 62, 64, 44, 59, 58, 46, 92] #[c.val.toUInt8] 0 (#[60, 62, 64, 44, 59, 58, 46, 92] : Array UInt8).size).isSome = false := by decide +kernel
theorem token_a_c (w : World) (x : Array UInt8) (ks : List Int) (t u : Tok) (i j : Int) (hb : KBw.bInts x = ks) (hw : AT ks i j) : Spc w 8 (.ref 116) [.bytes x t, .int i u] (fun _ => True)
    (fun news v news' => ∃ r q t1 t2 t3 t4, v = .ref r ∧ news' = (r, { cls := .type "tuple", data := .seq #[.ref q, .int j t1] }) :: (q, { cls := .type "tuple", data := .seq #[.str (Str.ofString "atom") t2, .bytes (KBy.picked x (some i) (some j)) t3, .int i t4] }) :: news ∧ AllLt q news ∧ q < r) := by
  (try unfold Pur)
  unfold Spc
  k_fill
  intro mean mg mb dp un gd cn cs aF ccd cl outer A₀ base h₀ LF mF news sF QF EF B F X N T hk hdp hun hin hret
  refine wpAny_call ?_
  k_dflt cell_enter
  (with_reducible rename Fr _ _ _ (fun nzy => List.lookup nzy _) => F0)
  replace F0 := fr_eq (m' := fun nzy => List.lookup nzy ([(Str.ofString "at", Value.int i u), (Str.ofString "data", Value.bytes x t)] : List (Str × Value))) F0 (by kernel_rfl)
  have hw' := hw
  obtain ⟨h0, h1, h2, h3, ha, _⟩ := hw'
  have hlt : i < ks.length := by omega
  have hA := ha i (Int.le_refl _) h1
  obtain ⟨c, ec, hc⟩ := pk1 x ks hb i h0 hlt
  have hq := sg_no ⟨c.toNat, c.toNat_lt⟩ (by rw [hc] at hA; exact hA)
  rw [show (c.toNat).toUInt8 = c from by simp] at hq
  have ec' : (KBy.picked x (some i) (some (i + 1))).toList = [c] := by rw [ec]
  obtain ⟨f1, f2, f3, f4⟩ := hq
  rw [← ec'] at f1 f2 f3
  rw [← ec] at f4
  k_with "pre" => exact Or.inl (by assumption)
  k_steps
  all_goals (
    refine' hret _ _ _ _ ?e2 ?e3 ⟨_, _, _, _, _, _, rfl, rfl, ?e4, ?e5⟩
    case e2 => k_asm
    case e3 => first | k_asm | (refine' news_drop ?cbN ?cbS; (case cbN => assumption); (case cbS => kcj_all)) | trace_state
    case e4 => first | exact (‹_ ∧ AllLt _ news›).2 | exact allLt_of (by assumption) | (simp only [AllLt] at *; first | assumption | simp_all)
    case e5 => first | assumption | omega | (simp only [AllLt] at *; simp_all) | trace_state)
theorem rows_40_15 : True := by
  k_with_none
  k_with "NZ LOOK" => ((repeat (first | exact if_hit | refine if_miss (by kernel_rfl) ?_ | exact lk_hit | refine lk_miss (by kernel_rfl) ?_ | assumption)); done)
  k_with "ite" => (k_closed; first | (with_reducible refine ite_neg Bool.false_ne_true ?_) | (with_reducible refine ite_pos rfl ?_) | (with_reducible refine ite_neg (by decide +kernel) ?_) | (with_reducible refine ite_pos (by decide +kernel) ?_))
  k_with "subscriptTail" => ((with_reducible show wpAny _ _ (subscriptTail (Expr.Attribute _ _ _) _ _ _) _ _ _); walk_at "last subscriptTail")
  k_with "NZ SUB" => (intro p9 hp9; (repeat (first | exact hp9 | exact List.mem_append_left _ hp9 | (refine (‹∀ p : Addr × Obj, p ∈ _ → p ∈ _› p9 ?_); exact hp9) | refine List.Mem.tail _ ?_)))
  k_with "eval Name" => (k_here; (with_reducible rename Fr _ _ _ _ => kF); with_reducible (refine' nameX_K kF ?nzX ?nzT ?nze ?_ ?nzk ?nza ?nzb; (case nzX => assumption); (case nzT => k_asm); (case nze => k_is); (case nzk => first | exact rfl | assumption); (case nza => kernel_rfl); (case nzb => kernel_rfl); k_whole))
  k_with "eval Name" => (k_here; (with_reducible rename Fr _ _ _ _ => kF); with_reducible (refine' nameX_L kF ?nzv ?_ ?nzk ?nza ?nzb; (case nza => kernel_rfl!); (case nzv => walk_at "NZ LOOK"); (case nzk => first | exact rfl | assumption); (case nzb => kernel_rfl); k_whole))
  k_with "callWith ref" => (k_here; with_reducible (refine' cw_some ?nzx ?nzk ?_ ?nzhe ?nzhp; (case nzx => assumption); (case nzk => k_is); (case nzhe => kernel_rfl); (case nzhp => kernel_rfl); k_whole))
  k_with "callWith ref" => (k_here; with_reducible (refine' cw_none ?nzx ?nzF ?nzk ?_; (case nzx => assumption); (case nzF => assumption); (case nzk => k_is); k_whole))
  k_with "CompEnd" => (k_dflt (refine' end_same ?a1 ?a2 ?a3 ?a4 ?_; (case a1 => k_asm); (case a2 => k_asm); (case a3 => assumption); (case a4 => lcg_src)))
  k_with "NZ TUP" => (k_dflt (refine' GSrc.tup ?a1 ?a2 ?a3 ?a4 ?a5 ?_; (case a1 => rfl); (case a2 => k_asm); (case a3 => k_asm); (case a4 => first | exact Or.inr ⟨_, by k_mem, rfl, _, rfl⟩ | exact Or.inl (by assumption)); (case a5 => first | exact Nat.le_of_ble_eq_true rfl | size_fits)); intro g')
  k_with "NZ TURN" => (refine ⟨_, _, rfl, by k_asm, by (first | k_asm | (refine' news_drop ?cbN ?cbS; (case cbN => assumption); (case cbS => kcj_all))), ?_⟩)
  k_with "NZ ACOMP" => (k_here; k_dflt (refine Assign_ListComp_G (by k_asm) (by rfl) (by with_unfolding_all rfl) (by rfl) (by decide) (by rfl) (by decide) (by rfl) (by rfl) (by rfl) ?_))
  k_with "NZ ECOMP" => (k_here; k_dflt (refine ListComp_G (by k_asm) (by rfl) (by decide) (by rfl) (by decide) (by rfl) ?_))
  k_with "compareOp In int" => (k_here; (with_reducible show wpAny _ _ (compareOp CmpOp.In (Value.int _ _) (Value.bytes _ _)) _ _ _); (refine By.int_in_bytes (by omega) (by omega) ?_))
  k_with "compareOp In bytes" => (k_here; (with_reducible show wpAny _ _ (compareOp CmpOp.In (Value.bytes _ _) (Value.bytes _ _)) _ _ _); k_dflt (refine' By.bytes_in_bytes ?k1 ?k2 ?k3 ?_; (case k1 => rfl); (case k2 => k_asm); (case k3 => k_asm)); intro h9 tk9 F9 N9; (try k_sweep))
  k_with "exec Assign cons ListComp" => ((with_reducible show wpAny _ _ (exec (Stmt.Assign _ (Expr.ListComp (Expr.Call (Expr.Name "int" _) [Expr.Name "cell" _] _ _) _ _ _) _) _) _ _ _); walk_at "NZ ACOMP")
  k_with "call ref" => (k_here; (with_reducible show wpAny _ _ (call (Value.ref 407) _) _ _ _); k_dflt (refine' spcl_use (law_box_c _ _ _ _ ?h1 ?h2) ?k1 ?k2 ?k3 ?k4 ?k5 ?kK ?kd ?ku ?ki ?kL ?_; (case k1 => k_asm); (case k2 => k_asm); (case k3 => k_asm); (case k4 => k_asm); (case k5 => k_asm); (case kK => first | exact rfl | assumption); (case kd => ktr_room); (case ku => ktr_units); (case ki => exact trivial)); (case kL => with_reducible assumption); (case h1 => with_reducible assumption); (case h2 => omega); intro v9 n9 h9 tk9 F9 N9 R9; (try dsimp only at R9); (obtain ⟨p9, c9, ys9, ks9, cap9, cap29, g9, st9, t91, t92, t93, e9, en9, hy9, hk9, hg90, hg91, hs90, hs91, hcp9, hl9, ho9⟩ := R9); (subst e9; subst en9); (try simp only [AllLt, and_true] at hl9); (try simp only [LCg.Off1, and_true] at ho9); (try dsimp only); (try k_sweep); (try k_fold))
  k_with "call ref" => (k_here; (with_reducible show wpAny _ _ (call (Value.ref 414) _) _ _ _); (try walk_at "NZ SPLIT"); k_dflt (refine' draw_use ?k1 ?k2 ?k3 ?k4 ?k5 ?kK ?kd ?ku ?h1 ?h2 ?h3 ?h4 ?h5 ?h6 ?h7 ?h8 ?h9 ?h10 ?h11 ?h12 ?h13 ?_; (case k1 => k_asm); (case k2 => k_asm); (case k3 => k_asm); (case k4 => k_asm); (case k5 => k_asm); (case kK => first | exact rfl | assumption); (case kd => ktr_room); (case ku => ktr_units)); (case h1 => intro o9; k_upd); (case h2 => k_dflt k_mem); (case h3 => k_ne); (case h4 => with_reducible assumption); (case h5 => with_reducible assumption); (case h6 => with_reducible first | assumption | decide); (case h7 => with_reducible assumption); (case h8 => with_reducible assumption); (case h9 => with_reducible assumption); (case h10 => omega); (case h11 => omega); (case h12 => decide); (case h13 => decide); intro k9 t9 g9 st9 cap9 t91 t92 t93 h9 tk9 F9 N9 hk90 hk91 hg90 hg91 hs90 hs91; (try dsimp only at N9); (try dsimp only); (try k_sweep); (try k_fold))
  k_with "eval Call Name" => (k_here; (with_reducible show wpAny _ _ (eval (Expr.Call (Expr.Name "is_atom_code" _) _ _ _) _) _ _ _); refine Call_ ?_)
  k_with "call ref" => (k_here; (with_reducible show wpAny _ _ (call (Value.ref 74) _) _ _ _); k_dflt (refine' pur_use (is_atom_code_c _ _ _ ?h1) ?k1 ?k2 ?k3 ?k4 ?k5 ?kK ?kd ?ku ?_; (case k1 => k_asm); (case k2 => k_asm); (case k3 => k_asm); (case k4 => k_asm); (case k5 => k_asm); (case kK => first | exact rfl | assumption); (case kd => ktr_room); (case ku => ktr_units)); (case h1 => (first | assumption | omega | ((try dsimp only); omega) | ((try dsimp only); (simp (disch := decide) only [Int.fdiv_eq_ediv_of_nonneg, Int.fmod_eq_emod_of_nonneg]); omega) | trivial | (refine ⟨?_, ?_, ?_, ?_, ?_, ?_, ?_, ?_, ?_, ?_, ?_, ?_, ?_, ?_⟩ <;> first | assumption | omega) | decide | (exact decide_eq_true (by omega)) | k_extra "pre")); intro v9 h9 tk9 F9 N9 R9; (try dsimp only at R9); (subst R9); (try dsimp only); (try k_sweep); (try k_fold))
  k_with "eval Call Name" => (k_here; (with_reducible show wpAny _ _ (eval (Expr.Call (Expr.Name "line_end" _) _ _ _) _) _ _ _); refine Call_ ?_)
  k_with "call ref" => (k_here; (with_reducible show wpAny _ _ (call (Value.ref 81) _) _ _ _); k_dflt (refine' pur_use (line_end_c _ _ _ _ _ _ ?h1 ?h2 ?h3 ?h4 ?h5 ?h6) ?k1 ?k2 ?k3 ?k4 ?k5 ?kK ?kd ?ku ?_; (case k1 => k_asm); (case k2 => k_asm); (case k3 => k_asm); (case k4 => k_asm); (case k5 => k_asm); (case kK => first | exact rfl | assumption); (case kd => ktr_room); (case ku => ktr_units)); (case h1 => (first | assumption | omega | ((try dsimp only); omega) | ((try dsimp only); (simp (disch := decide) only [Int.fdiv_eq_ediv_of_nonneg, Int.fmod_eq_emod_of_nonneg]); omega) | trivial | (refine ⟨?_, ?_, ?_, ?_, ?_, ?_, ?_, ?_, ?_, ?_, ?_, ?_, ?_, ?_⟩ <;> first | assumption | omega) | decide | (exact decide_eq_true (by omega)) | k_extra "pre")); (case h2 => (first | assumption | omega | ((try dsimp only); omega) | ((try dsimp only); (simp (disch := decide) only [Int.fdiv_eq_ediv_of_nonneg, Int.fmod_eq_emod_of_nonneg]); omega) | trivial | (refine ⟨?_, ?_, ?_, ?_, ?_, ?_, ?_, ?_, ?_, ?_, ?_, ?_, ?_, ?_⟩ <;> first | assumption | omega) | decide | (exact decide_eq_true (by omega)) | k_extra "pre")); (case h3 => (first | assumption | omega | ((try dsimp only); omega) | ((try dsimp only); (simp (disch := decide) only [Int.fdiv_eq_ediv_of_nonneg, Int.fmod_eq_emod_of_nonneg]); omega) | trivial | (refine ⟨?_, ?_, ?_, ?_, ?_, ?_, ?_, ?_, ?_, ?_, ?_, ?_, ?_, ?_⟩ <;> first | assumption | omega) | decide | (exact decide_eq_true (by omega)) | k_extra "pre")); (case h4 => (first | assumption | omega | ((try dsimp only); omega) | ((try dsimp only); (simp (disch := decide) only [Int.fdiv_eq_ediv_of_nonneg, Int.fmod_eq_emod_of_nonneg]); omega) | trivial | (refine ⟨?_, ?_, ?_, ?_, ?_, ?_, ?_, ?_, ?_, ?_, ?_, ?_, ?_, ?_⟩ <;> first | assumption | omega) | decide | (exact decide_eq_true (by omega)) | k_extra "pre")); (case h5 => (first | assumption | omega | ((try dsimp only); omega) | ((try dsimp only); (simp (disch := decide) only [Int.fdiv_eq_ediv_of_nonneg, Int.fmod_eq_emod_of_nonneg]); omega) | trivial | (refine ⟨?_, ?_, ?_, ?_, ?_, ?_, ?_, ?_, ?_, ?_, ?_, ?_, ?_, ?_⟩ <;> first | assumption | omega) | decide | (exact decide_eq_true (by omega)) | k_extra "pre")); (case h6 => (first | assumption | omega | ((try dsimp only); omega) | ((try dsimp only); (simp (disch := decide) only [Int.fdiv_eq_ediv_of_nonneg, Int.fmod_eq_emod_of_nonneg]); omega) | trivial | (refine ⟨?_, ?_, ?_, ?_, ?_, ?_, ?_, ?_, ?_, ?_, ?_, ?_, ?_, ?_⟩ <;> first | assumption | omega) | decide | (exact decide_eq_true (by omega)) | k_extra "pre")); intro v9 h9 tk9 F9 N9 R9; (try dsimp only at R9); (obtain ⟨t9, e9⟩ := R9); (subst e9); (try dsimp only); (try k_sweep); (try k_fold))
  k_with "eval Call Name" => (k_here; (with_reducible show wpAny _ _ (eval (Expr.Call (Expr.Name "past_white" _) _ _ _) _) _ _ _); refine Call_ ?_)
  k_with "call ref" => (k_here; (with_reducible show wpAny _ _ (call (Value.ref 123) _) _ _ _); k_dflt (refine' pur_use (past_white_c _ _ _ _ _ _ _ ?h1 ?h2) ?k1 ?k2 ?k3 ?k4 ?k5 ?kK ?kd ?ku ?_; (case k1 => k_asm); (case k2 => k_asm); (case k3 => k_asm); (case k4 => k_asm); (case k5 => k_asm); (case kK => first | exact rfl | assumption); (case kd => ktr_room); (case ku => ktr_units)); (case h1 => (first | assumption | omega | ((try dsimp only); omega) | ((try dsimp only); (simp (disch := decide) only [Int.fdiv_eq_ediv_of_nonneg, Int.fmod_eq_emod_of_nonneg]); omega) | trivial | (refine ⟨?_, ?_, ?_, ?_, ?_, ?_, ?_, ?_, ?_, ?_, ?_, ?_, ?_, ?_⟩ <;> first | assumption | omega) | decide | (exact decide_eq_true (by omega)) | k_extra "pre")); (case h2 => (first | assumption | omega | ((try dsimp only); omega) | ((try dsimp only); (simp (disch := decide) only [Int.fdiv_eq_ediv_of_nonneg, Int.fmod_eq_emod_of_nonneg]); omega) | trivial | (refine ⟨?_, ?_, ?_, ?_, ?_, ?_, ?_, ?_, ?_, ?_, ?_, ?_, ?_, ?_⟩ <;> first | assumption | omega) | decide | (exact decide_eq_true (by omega)) | k_extra "pre")); intro v9 h9 tk9 F9 N9 R9; (try dsimp only at R9); (obtain ⟨t9, e9⟩ := R9); (subst e9); (try dsimp only); (try k_sweep); (try k_fold))
  k_with "eval Call Name" => (k_here; (with_reducible show wpAny _ _ (eval (Expr.Call (Expr.Name "atom_at" _) _ _ _) _) _ _ _); refine Call_ ?_)
  k_with "call ref" => (k_here; (with_reducible show wpAny _ _ (call (Value.ref 109) _) _ _ _); k_dflt (refine' spc_use (atom_at_c _ _ _ _ _ _ _ ?h1 ?h2) ?k1 ?k2 ?k3 ?k4 ?k5 ?kK ?kd ?ku ?ki ?_; (case k1 => k_asm); (case k2 => k_asm); (case k3 => k_asm); (case k4 => k_asm); (case k5 => k_asm); (case kK => first | exact rfl | assumption); (case kd => ktr_room); (case ku => ktr_units); (case ki => exact trivial)); (case h1 => (first | assumption | omega | ((try dsimp only); omega) | ((try dsimp only); (simp (disch := decide) only [Int.fdiv_eq_ediv_of_nonneg, Int.fmod_eq_emod_of_nonneg]); omega) | trivial | (refine ⟨?_, ?_, ?_, ?_, ?_, ?_, ?_, ?_, ?_, ?_, ?_, ?_, ?_, ?_⟩ <;> first | assumption | omega) | decide | (exact decide_eq_true (by omega)) | k_extra "pre")); (case h2 => (first | assumption | omega | ((try dsimp only); omega) | ((try dsimp only); (simp (disch := decide) only [Int.fdiv_eq_ediv_of_nonneg, Int.fmod_eq_emod_of_nonneg]); omega) | trivial | (refine ⟨?_, ?_, ?_, ?_, ?_, ?_, ?_, ?_, ?_, ?_, ?_, ?_, ?_, ?_⟩ <;> first | assumption | omega) | decide | (exact decide_eq_true (by omega)) | k_extra "pre")); intro v9 n9 h9 tk9 F9 N9 R9; (try dsimp only at R9); (obtain ⟨x9, t91, t92, e9, en9, hl9⟩ := R9); (subst e9; subst en9; (try simp only [AllLt, and_true] at hl9)); (try dsimp only); (try k_sweep); (try k_fold))
  trivial
theorem rows_40_16 : True := by
  k_with "eval Call Name" => (k_here; (with_reducible show wpAny _ _ (eval (Expr.Call (Expr.Name "token_at" _) _ _ _) _) _ _ _); refine Call_ ?_)
  k_with "call ref" => (k_here; (with_reducible show wpAny _ _ (call (Value.ref 116) _) _ _ _); k_dflt (refine' spc_use (token_a_c _ _ _ _ _ _ _ ?h1 ?h2) ?k1 ?k2 ?k3 ?k4 ?k5 ?kK ?kd ?ku ?ki ?_; (case k1 => k_asm); (case k2 => k_asm); (case k3 => k_asm); (case k4 => k_asm); (case k5 => k_asm); (case kK => first | exact rfl | assumption); (case kd => ktr_room); (case ku => ktr_units); (case ki => exact trivial)); (case h1 => (first | assumption | omega | ((try dsimp only); omega) | ((try dsimp only); (simp (disch := decide) only [Int.fdiv_eq_ediv_of_nonneg, Int.fmod_eq_emod_of_nonneg]); omega) | trivial | (refine ⟨?_, ?_, ?_, ?_, ?_, ?_, ?_, ?_, ?_, ?_, ?_, ?_, ?_, ?_⟩ <;> first | assumption | omega) | decide | (exact decide_eq_true (by omega)) | k_extra "pre")); (case h2 => (first | assumption | omega | ((try dsimp only); omega) | ((try dsimp only); (simp (disch := decide) only [Int.fdiv_eq_ediv_of_nonneg, Int.fmod_eq_emod_of_nonneg]); omega) | trivial | (refine ⟨?_, ?_, ?_, ?_, ?_, ?_, ?_, ?_, ?_, ?_, ?_, ?_, ?_, ?_⟩ <;> first | assumption | omega) | decide | (exact decide_eq_true (by omega)) | k_extra "pre")); intro v9 n9 h9 tk9 F9 N9 R9; (try dsimp only at R9); (obtain ⟨x9, y9, t91, t92, t93, t94, e9, en9, hl9, hm9⟩ := R9); (subst e9; subst en9; (try simp only [AllLt, and_true] at hl9); (replace hm9 := ltN hm9)); (try dsimp only); (try k_sweep); (try k_fold))
  trivial
theorem sg_at : ∀ c : Fin 256, (c.val = 44 ∨ c.val = 58) → (([c.val.toUInt8] : List UInt8) == (#[34] : Array UInt8).toList) = false ∧ (([c.val.toUInt8] : List UInt8) == (#[91] : Array UInt8).toList) = false ∧ (([c.val.toUInt8] : List UInt8) == (#[40] : Array UInt8).toList) = false ∧
    (Builtin.Bytes.find? #[60, 62, 64, 44, 59, 58, 46, 92] #[c.val.toUInt8] 0 (#[60, 62, 64, 44, 59, 58, 46, 92] : Array UInt8).size).isSome = true := by decide +kernel
theorem token_s_c (w : World) (x : Array UInt8) (ks : List Int) (t u : Tok) (i j : Int) (c : UInt8) (hb : KBw.bInts x = ks) (hw : SG ks i j c) : Spc w 8 (.ref 116) [.bytes x t, .int i u] (fun _ => True)
    (fun news v news' => ∃ r q t1 t2 t3 t4, v = .ref r ∧ news' = (r, { cls := .type "tuple", data := .seq #[.ref q, .int j t1] }) :: (q, { cls := .type "tuple", data := .seq #[.str (Str.ofString "sign") t2, .bytes #[c] t3, .int i t4] }) :: news ∧ AllLt q news ∧ q < r) := by
  (try unfold Pur)
  unfold Spc
  k_fill
  intro mean mg mb dp un gd cn cs aF ccd cl outer A₀ base h₀ LF mF news sF QF EF B F X N T hk hdp hun hin hret
  refine wpAny_call ?_
  k_dflt cell_enter
  (with_reducible rename Fr _ _ _ (fun nzy => List.lookup nzy _) => F0)
  replace F0 := fr_eq (m' := fun nzy => List.lookup nzy ([(Str.ofString "at", Value.int i u), (Str.ofString "data", Value.bytes x t)] : List (Str × Value))) F0 (by kernel_rfl)
  have hw' := hw
  obtain ⟨h0, hlt, h3, hj, ha, hcc⟩ := hw'
  obtain ⟨c', ec, hc⟩ := pk1 x ks hb i h0 hlt
  have ecc : c' = c := by
    apply UInt8.toNat_inj.mp
    rw [ha] at hc; omega
  subst ecc
  have hq := sg_at ⟨c'.toNat, c'.toNat_lt⟩ (by rcases hcc with rfl | rfl <;> simp)
  rw [show (c'.toNat).toUInt8 = c' from by simp] at hq
  have ec' : (KBy.picked x (some i) (some (i + 1))).toList = [c'] := by rw [ec]
  obtain ⟨f1, f2, f3, f4⟩ := hq
  rw [← ec'] at f1 f2 f3
  rw [← ec] at f4
  k_steps
  all_goals (
    refine' hret _ _ _ _ ?e2 ?e3 ⟨_, _, _, _, _, _, rfl, ?e1, ?e4, ?e5⟩
    case e1 => rw [← ec, hj]
    case e2 => k_asm
    case e3 => first | k_asm | (refine' news_drop ?cbN ?cbS; (case cbN => assumption); (case cbS => kcj_all)) | trace_state
    case e4 => first | exact (‹_ ∧ AllLt _ news›).2 | exact allLt_of (by assumption) | (simp only [AllLt] at *; first | assumption | simp_all)
    case e5 => first | assumption | omega | (simp only [AllLt] at *; simp_all) | trace_state)
theorem rows_40_17 : True := by
  k_with "eval Call Name" => (k_here; (with_reducible show wpAny _ _ (eval (Expr.Call (Expr.Name "token_at" _) _ _ _) _) _ _ _); refine Call_ ?_)
  k_with "call ref" => (k_here; (with_reducible show wpAny _ _ (call (Value.ref 116) _) _ _ _); k_dflt (refine' spc_use (token_s_c _ _ _ _ _ _ _ _ ?h1 ?h2) ?k1 ?k2 ?k3 ?k4 ?k5 ?kK ?kd ?ku ?ki ?_; (case k1 => k_asm); (case k2 => k_asm); (case k3 => k_asm); (case k4 => k_asm); (case k5 => k_asm); (case kK => first | exact rfl | assumption); (case kd => ktr_room); (case ku => ktr_units); (case ki => exact trivial)); (case h1 => (first | assumption | omega | ((try dsimp only); omega) | ((try dsimp only); (simp (disch := decide) only [Int.fdiv_eq_ediv_of_nonneg, Int.fmod_eq_emod_of_nonneg]); omega) | trivial | (refine ⟨?_, ?_, ?_, ?_, ?_, ?_, ?_, ?_, ?_, ?_, ?_, ?_, ?_, ?_⟩ <;> first | assumption | omega) | decide | (exact decide_eq_true (by omega)) | k_extra "pre")); (case h2 => (first | assumption | omega | ((try dsimp only); omega) | ((try dsimp only); (simp (disch := decide) only [Int.fdiv_eq_ediv_of_nonneg, Int.fmod_eq_emod_of_nonneg]); omega) | trivial | (refine ⟨?_, ?_, ?_, ?_, ?_, ?_, ?_, ?_, ?_, ?_, ?_, ?_, ?_, ?_⟩ <;> first | assumption | omega) | decide | (exact decide_eq_true (by omega)) | k_extra "pre")); intro v9 n9 h9 tk9 F9 N9 R9; (try dsimp only at R9); (obtain ⟨x9, y9, t91, t92, t93, t94, e9, en9, hl9, hm9⟩ := R9); (subst e9; subst en9; (try simp only [AllLt, and_true] at hl9); (replace hm9 := ltN hm9)); (try dsimp only); (try k_sweep); (try k_fold))
  trivial

/-- A token of the date: an atom from i to j, or a sign at i. -/
inductive Tk where
  | a (i j : Int)
  | s (i j : Int) (c : UInt8)
def Tk.i : Tk → Int
  | .a i _ => i
  | .s i _ _ => i
def Tk.j : Tk → Int
  | .a _ j => j
  | .s _ j _ => j
def Tk.kind : Tk → Str
  | .a _ _ => Str.ofString "atom"
  | .s _ _ _ => Str.ofString "sign"
def Tk.worth (x : Array UInt8) : Tk → Array UInt8
  | .a i j => KBy.picked x (some i) (some j)
  | .s _ _ c => #[c]
def Tk.Ok (ks : List Int) : Tk → Prop
  | .a i j => AT ks i j
  | .s i j c => SG ks i j c
abbrev tkObj (x : Array UInt8) (k : Tk) (t1 t2 t3 : Tok) : Obj := { cls := .type "tuple", data := .seq #[.str k.kind t1, .bytes (k.worth x) t2, .int k.i t3] }
def TksOk (ks : List Int) : Int → List Tk → Prop
  | i, [] => i = ks.length
  | i, k :: r => k.i = i ∧ i < ks.length ∧ k.Ok ks ∧ ∃ n, PW ks k.j n ∧ TksOk ks n r
/-- The values are the tokens, in the ledger. -/
inductive TkIn (x : Array UInt8) (rest : List (Addr × Obj)) : List Tk → List Value → Prop where
  | nil : TkIn x rest [] []
  | cons {k : Tk} {q : Addr} {t1 t2 t3 : Tok} {r : List Tk} {vs : List Value} : (q, tkObj x k t1 t2 t3) ∈ rest → TkIn x rest r vs → TkIn x rest (k :: r) (.ref q :: vs)
theorem TkIn.mono {x : Array UInt8} {rest rest' : List (Addr × Obj)} {ts : List Tk} {vs : List Value} (h : TkIn x rest ts vs) (hs : ∀ p ∈ rest, p ∈ rest') : TkIn x rest' ts vs := by
  induction h with
  | nil => exact .nil
  | cons hm _ ih => exact .cons (hs _ hm) ih
theorem TkIn.snoc {x : Array UInt8} {rest : List (Addr × Obj)} {ts : List Tk} {vs : List Value} {k : Tk} {q : Addr} {t1 t2 t3 : Tok} (h : TkIn x rest ts vs) (hm : (q, tkObj x k t1 t2 t3) ∈ rest) : TkIn x rest (ts ++ [k]) (vs ++ [.ref q]) := by
  induction h with
  | nil => exact .cons hm .nil
  | cons hm' _ ih => exact .cons hm' ih
theorem TkIn.len {x : Array UInt8} {rest : List (Addr × Obj)} {ts : List Tk} {vs : List Value} (h : TkIn x rest ts vs) : vs.length = ts.length := by
  induction h with
  | nil => rfl
  | cons _ _ ih => simp [ih]
theorem token_c (w : World) (x : Array UInt8) (ks : List Int) (t u : Tok) (k : Tk) (i : Int) (hb : KBw.bInts x = ks) (hi : k.i = i) (hw : k.Ok ks) : Spc w 8 (.ref 116) [.bytes x t, .int i u] (fun _ => True)
    (fun news v news' => ∃ r q t1 t2 t3 t4, v = .ref r ∧ news' = (r, { cls := .type "tuple", data := .seq #[.ref q, .int k.j t1] }) :: (q, tkObj x k t2 t3 t4) :: news ∧ AllLt q news ∧ q < r) := by
  subst hi
  cases k with
  | a i j => exact token_a_c w x ks t u i j hb hw
  | s i j c => exact token_s_c w x ks t u i j c hb hw
theorem rows_41_18 : True := by
  k_with "eval Call Name" => (k_here; (with_reducible show wpAny _ _ (eval (Expr.Call (Expr.Name "token_at" _) _ _ _) _) _ _ _); refine Call_ ?_)
  k_with "call ref" => (k_here; (with_reducible show wpAny _ _ (call (Value.ref 116) _) _ _ _); k_dflt (refine' spc_use (token_c _ _ _ _ _ _ _ ?h1 ?h2 ?h3) ?k1 ?k2 ?k3 ?k4 ?k5 ?kK ?kd ?ku ?ki ?_; (case k1 => k_asm); (case k2 => k_asm); (case k3 => k_asm); (case k4 => k_asm); (case k5 => k_asm); (case kK => first | exact rfl | assumption); (case kd => ktr_room); (case ku => ktr_units); (case ki => exact trivial)); (case h1 => (first | assumption | omega | ((try dsimp only); omega) | ((try dsimp only); (simp (disch := decide) only [Int.fdiv_eq_ediv_of_nonneg, Int.fmod_eq_emod_of_nonneg]); omega) | trivial | (refine ⟨?_, ?_, ?_, ?_, ?_, ?_, ?_, ?_, ?_, ?_, ?_, ?_, ?_, ?_⟩ <;> first | assumption | omega) | decide | (exact decide_eq_true (by omega)) | k_extra "pre")); (case h2 => (first | assumption | omega | ((try dsimp only); omega) | ((try dsimp only); (simp (disch := decide) only [Int.fdiv_eq_ediv_of_nonneg, Int.fmod_eq_emod_of_nonneg]); omega) | trivial | (refine ⟨?_, ?_, ?_, ?_, ?_, ?_, ?_, ?_, ?_, ?_, ?_, ?_, ?_, ?_⟩ <;> first | assumption | omega) | decide | (exact decide_eq_true (by omega)) | k_extra "pre")); (case h3 => (first | assumption | omega | ((try dsimp only); omega) | ((try dsimp only); (simp (disch := decide) only [Int.fdiv_eq_ediv_of_nonneg, Int.fmod_eq_emod_of_nonneg]); omega) | trivial | (refine ⟨?_, ?_, ?_, ?_, ?_, ?_, ?_, ?_, ?_, ?_, ?_, ?_, ?_, ?_⟩ <;> first | assumption | omega) | decide | (exact decide_eq_true (by omega)) | k_extra "pre")); intro v9 n9 h9 tk9 F9 N9 R9; (try dsimp only at R9); (obtain ⟨x9, y9, t91, t92, t93, t94, e9, en9, hl9, hm9⟩ := R9); (subst e9; subst en9; (try simp only [AllLt, and_true] at hl9); (replace hm9 := ltN hm9)); (try dsimp only); (try k_sweep); (try k_fold))
  trivial
def dTk (D : Int) : List Tk := [.a 0 3, .s 3 4 44, .a 5 (5 + D), .a (6 + D) (9 + D), .a (10 + D) (14 + D), .a (15 + D) (17 + D), .s (17 + D) (18 + D) 58, .a (18 + D) (20 + D), .s (20 + D) (21 + D) 58, .a (21 + D) (23 + D), .a (24 + D) (29 + D)]
structure DateL (ks : List Int) (D : Int) : Prop where
  hl : (ks.length : Int) = 29 + D
  hD : D = 1 ∨ D = 2
  w0 : PW ks 0 0
  a1 : AT ks 0 3
  w1 : PW ks 3 3
  s2 : SG ks 3 4 44
  w2 : PW ks 4 5
  a3 : AT ks 5 (5 + D)
  w3 : PW ks (5 + D) (6 + D)
  a4 : AT ks (6 + D) (9 + D)
  w4 : PW ks (9 + D) (10 + D)
  a5 : AT ks (10 + D) (14 + D)
  w5 : PW ks (14 + D) (15 + D)
  a6 : AT ks (15 + D) (17 + D)
  w6 : PW ks (17 + D) (17 + D)
  s7 : SG ks (17 + D) (18 + D) 58
  w7 : PW ks (18 + D) (18 + D)
  a8 : AT ks (18 + D) (20 + D)
  w8 : PW ks (20 + D) (20 + D)
  s9 : SG ks (20 + D) (21 + D) 58
  w9 : PW ks (21 + D) (21 + D)
  a10 : AT ks (21 + D) (23 + D)
  w10 : PW ks (23 + D) (24 + D)
  a11 : AT ks (24 + D) (29 + D)
  w11 : PW ks (29 + D) (29 + D)
theorem SG.lt {ks : List Int} {i j : Int} {c : UInt8} (h : SG ks i j c) : i < ks.length := h.2.1
theorem AT.lts {ks : List Int} {i j : Int} (h : AT ks i j) : i < ks.length := by
  obtain ⟨_, h1, h2, _⟩ := h
  omega
theorem DateL.toks {ks : List Int} {D : Int} (h : DateL ks D) : TksOk ks 0 (dTk D) :=
  ⟨rfl, h.a1.lts, h.a1, _, h.w1, rfl, h.s2.lt, h.s2, _, h.w2, rfl, h.a3.lts, h.a3, _, h.w3, rfl, h.a4.lts, h.a4, _, h.w4, rfl, h.a5.lts, h.a5, _, h.w5, rfl, h.a6.lts, h.a6, _, h.w6, rfl, h.s7.lt, h.s7, _, h.w7, rfl, h.a8.lts, h.a8, _, h.w8, rfl, h.s9.lt, h.s9, _, h.w9, rfl, h.a10.lts, h.a10, _, h.w10, rfl, h.a11.lts, h.a11, _, h.w11, h.hl.symm⟩
theorem allLt_mem {d : Nat} : ∀ {l : List (Addr × Obj)}, AllLt d l → ∀ p ∈ l, @LT.lt Nat _ p.1 d
  | [], _, _, h => nomatch h
  | _ :: _, x, p, h => by
    rcases List.mem_cons.mp h with rfl | h
    · exact x.1
    · exact allLt_mem x.2 p h
def tokM (x : Array UInt8) (t : Tok) (f : Addr) (i : Int) (ti : Tok) (tv : Option Value) : Str → Option Value :=
  fun z => if z = Str.ofString "at" then some (.int i ti) else if z = Str.ofString "token" then tv else if z = Str.ofString "found" then some (.ref f) else List.lookup z [(Str.ofString "octets", .bytes x t)]
def tokJ (x : Array UInt8) (ks : List Int) (t : Tok) (ts : List Tk) (f : Addr) (news : List (Addr × Obj)) (n : Nat) (m : Str → Option Value) (nx : List (Addr × Obj)) : Prop :=
  ∃ (i : Int) (ti : Tok) (tv : Option Value) (done todo : List Tk) (vs : List Value) (cap : Nat) (made : List (Addr × Obj)), n = todo.length ∧ m = tokM x t f i ti tv ∧ nx = (f, { cls := .type "list", data := .seq vs.toArray cap }) :: (made ++ news) ∧
    ts = done ++ todo ∧ TksOk ks i todo ∧ TkIn x made done vs ∧ (∀ p ∈ made, ∀ a ∈ news, @LT.lt Nat _ a.1 p.1) ∧ ∀ p ∈ made ++ news, @Ne Nat p.1 f
theorem tokM0 (x : Array UInt8) (t : Tok) (f : Addr) (i : Int) (ti : Tok) : (fun z => if z = Str.ofString "at" then some (.int i ti) else if z = Str.ofString "found" then some (.ref f) else List.lookup z [(Str.ofString "octets", .bytes x t)]) = tokM x t f i ti none := by
  funext z
  unfold tokM
  by_cases h : z = Str.ofString "token"
  · subst h
    rw [if_neg (by decide +kernel), if_neg (by decide +kernel), if_neg (by decide +kernel), if_pos rfl]; exact lk_miss (by kernel_rfl) rfl
  · rw [if_neg h]
theorem tokM1 (x : Array UInt8) (t : Tok) (f : Addr) (i i' i'' : Int) (ti ti' ti'' : Tok) (tv : Option Value) (v : Value) : (fun z => if z = Str.ofString "at" then some (.int i'' ti'') else if z = Str.ofString "at" then some (.int i' ti') else if z = Str.ofString "token" then some v else tokM x t f i ti tv z) = tokM x t f i'' ti'' (some v) := by
  funext z
  unfold tokM
  by_cases h : z = Str.ofString "at"
  · rw [if_pos h, if_pos h]
  · by_cases h' : z = Str.ofString "token"
    · simp only [if_neg h, if_pos h']
    · simp only [if_neg h, if_neg h']
local macro_rules | `(tactic| k_all) => `(tactic| assumption)
theorem tokens_of_c (w : World) (x : Array UInt8) (ks : List Int) (t : Tok) (D : Int) (hb : KBw.bInts x = ks) (hd : DateL ks D) : Spc w 10 (.ref 130) [.bytes x t] (fun _ => True)
    (fun news v news' => ∃ (f : Addr) (vs : List Value) (cap : Nat) (made : List (Addr × Obj)), v = .ref f ∧ news' = (f, { cls := .type "list", data := .seq vs.toArray cap }) :: (made ++ news) ∧ TkIn x made (dTk D) vs ∧ (∀ p ∈ made, ∀ a ∈ news, @LT.lt Nat _ a.1 p.1) ∧ ∀ p ∈ made ++ news, @Ne Nat p.1 f) := by
  (try unfold Pur)
  unfold Spc
  k_fill
  intro mean mg mb dp un gd cn cs aF ccd cl outer A₀ base h₀ LF mF news sF QF EF B F X N T hk hdp hun hin hret
  refine wpAny_call ?_
  k_dflt cell_enter
  (with_reducible rename Fr _ _ _ (fun nzy => List.lookup nzy _) => F0)
  replace F0 := fr_eq (m' := fun nzy => List.lookup nzy ([(Str.ofString "octets", Value.bytes x t)] : List (Str × Value))) F0 (by kernel_rfl)
  have hT := hd.toks
  have hw0 := hd.w0
  have hl := hd.hl
  have hD := hd.hD
  k_with "exec While Compare cons nil" => (refine hold ?_)
  k_steps
  refine unhold ?_
  rename Fr _ _ _ _ => F1
  rename News _ _ _ _ => N1
  have hof : ∀ p ∈ news, @Ne Nat p.1 _ := fun p hp => Nat.ne_of_lt (‹∀ p : Addr × Obj, p ∈ news → p.1 < _› p hp)
  have F2 := fr_eq F1 (tokM0 x t _ _ _)
  refine While_inv2 (tokJ x ks t (dTk D) _ news) F2 N1 (n₀ := (dTk D).length) ⟨_, _, _, [], dTk D, [], _, [], rfl, rfl, rfl, rfl, hT, .nil, fun p hp => (nomatch hp), hof⟩ ?_ (by passes_own)
  clear F1 F2 N1 hof hT hw0
  rintro n m₁ nx h₁ tk₁ F1 N1 ⟨i, ti, tv, dn, todo, vs, cap, made, rfl, rfl, rfl, hts, hok, hin', hsub, hne⟩
  unfold tokM at F1
  have hvl : vs.length + todo.length = 11 := by
    have h1 := hin'.len
    have h2 := congrArg List.length hts
    rw [List.length_append] at h2
    rw [h1]; exact h2.symm
  have hsz : vs.toArray.size ≤ sizeLine := by rw [List.size_toArray, sizeLine_eq]; omega
  cases todo with
  | nil =>
    have hi : i = ks.length := hok
    k_steps
    rw [List.append_nil] at hts
    subst hts
    refine' hret _ _ _ _ ?e2 ?e3 ⟨_, _, _, _, rfl, rfl, hin', hsub, hne⟩
    case e2 => k_asm
    case e3 => k_asm
  | cons k r =>
    obtain ⟨hki, hlt, hkk, nx, hpw, hok⟩ := hok
    k_with "call builtin:list.append" => (k_dflt (refine' append_K ?k1 ?k2 ?k3 ?_ ?z; (case k1 => k_asm); (case k2 => k_asm); (case k3 => k_upd); (case z => assumption); k_whole); intro h' F' N'; (try k_sweep))
    k_steps
    rename Fr _ _ _ _ => F3
    rename News _ _ _ _ => N3
    refine ⟨_, _, _, _, r.length, rfl, fr_eq F3 (tokM1 x t _ i _ _ ti _ _ tv _), ?n4, Nat.lt_succ_self _, nx, _, _, dn ++ [k], r, vs ++ [.ref y9], cap + 1, (y9, tkObj x k t92 t93 t94) :: made, rfl, rfl, rfl, by rw [hts, List.append_assoc]; rfl, hok, (hin'.mono fun p hp => List.mem_cons_of_mem _ hp).snoc (List.Mem.head _), List.forall_mem_cons.mpr ⟨fun a ha => allLt_mem hl9.2 a (List.mem_append_right _ ha), hsub⟩, List.forall_mem_cons.mpr ⟨Nat.ne_of_gt hl9.1, hne⟩⟩
    rw [← List.push_toArray]
    intro p hp
    refine N3 p ?_
    rcases List.mem_cons.mp hp with rfl | hp
    · exact .tail _ (.tail _ (.head _))
    rcases List.mem_cons.mp hp with rfl | hp
    · exact .tail _ (.head _)
    · exact .tail _ (.tail _ (.tail _ hp))
theorem rows_41_19 : True := by
  k_with_none
  k_with "NZ LOOK" => ((repeat (first | exact if_hit | refine if_miss (by kernel_rfl) ?_ | exact lk_hit | refine lk_miss (by kernel_rfl) ?_ | assumption)); done)
  k_with "ite" => (k_closed; first | (with_reducible refine ite_neg Bool.false_ne_true ?_) | (with_reducible refine ite_pos rfl ?_) | (with_reducible refine ite_neg (by decide +kernel) ?_) | (with_reducible refine ite_pos (by decide +kernel) ?_))
  k_with "subscriptTail" => ((with_reducible show wpAny _ _ (subscriptTail (Expr.Attribute _ _ _) _ _ _) _ _ _); walk_at "last subscriptTail")
  k_with "NZ SUB" => (intro p9 hp9; (repeat (first | exact hp9 | exact List.mem_append_left _ hp9 | (refine (‹∀ p : Addr × Obj, p ∈ _ → p ∈ _› p9 ?_); exact hp9) | refine List.Mem.tail _ ?_)))
  k_with "eval Name" => (k_here; (with_reducible rename Fr _ _ _ _ => kF); with_reducible (refine' nameX_K kF ?nzX ?nzT ?nze ?_ ?nzk ?nza ?nzb; (case nzX => assumption); (case nzT => k_asm); (case nze => k_is); (case nzk => first | exact rfl | assumption); (case nza => kernel_rfl); (case nzb => kernel_rfl); k_whole))
  k_with "eval Name" => (k_here; (with_reducible rename Fr _ _ _ _ => kF); with_reducible (refine' nameX_L kF ?nzv ?_ ?nzk ?nza ?nzb; (case nza => kernel_rfl!); (case nzv => walk_at "NZ LOOK"); (case nzk => first | exact rfl | assumption); (case nzb => kernel_rfl); k_whole))
  k_with "callWith ref" => (k_here; with_reducible (refine' cw_some ?nzx ?nzk ?_ ?nzhe ?nzhp; (case nzx => assumption); (case nzk => k_is); (case nzhe => kernel_rfl); (case nzhp => kernel_rfl); k_whole))
  k_with "callWith ref" => (k_here; with_reducible (refine' cw_none ?nzx ?nzF ?nzk ?_; (case nzx => assumption); (case nzF => assumption); (case nzk => k_is); k_whole))
  k_with "CompEnd" => (k_dflt (refine' end_same ?a1 ?a2 ?a3 ?a4 ?_; (case a1 => k_asm); (case a2 => k_asm); (case a3 => assumption); (case a4 => lcg_src)))
  k_with "NZ TUP" => (k_dflt (refine' GSrc.tup ?a1 ?a2 ?a3 ?a4 ?a5 ?_; (case a1 => rfl); (case a2 => k_asm); (case a3 => k_asm); (case a4 => first | exact Or.inr ⟨_, by k_mem, rfl, _, rfl⟩ | exact Or.inl (by assumption)); (case a5 => first | exact Nat.le_of_ble_eq_true rfl | size_fits)); intro g')
  k_with "NZ TURN" => (refine ⟨_, _, rfl, by k_asm, by (first | k_asm | (refine' news_drop ?cbN ?cbS; (case cbN => assumption); (case cbS => kcj_all))), ?_⟩)
  k_with "NZ ACOMP" => (k_here; k_dflt (refine Assign_ListComp_G (by k_asm) (by rfl) (by with_unfolding_all rfl) (by rfl) (by decide) (by rfl) (by decide) (by rfl) (by rfl) (by rfl) ?_))
  k_with "NZ ECOMP" => (k_here; k_dflt (refine ListComp_G (by k_asm) (by rfl) (by decide) (by rfl) (by decide) (by rfl) ?_))
  k_with "compareOp In int" => (k_here; (with_reducible show wpAny _ _ (compareOp CmpOp.In (Value.int _ _) (Value.bytes _ _)) _ _ _); (refine By.int_in_bytes (by omega) (by omega) ?_))
  k_with "compareOp In bytes" => (k_here; (with_reducible show wpAny _ _ (compareOp CmpOp.In (Value.bytes _ _) (Value.bytes _ _)) _ _ _); k_dflt (refine' By.bytes_in_bytes ?k1 ?k2 ?k3 ?_; (case k1 => rfl); (case k2 => k_asm); (case k3 => k_asm)); intro h9 tk9 F9 N9; (try k_sweep))
  k_with "exec Assign cons ListComp" => ((with_reducible show wpAny _ _ (exec (Stmt.Assign _ (Expr.ListComp (Expr.Call (Expr.Name "int" _) [Expr.Name "cell" _] _ _) _ _ _) _) _) _ _ _); walk_at "NZ ACOMP")
  k_with "call ref" => (k_here; (with_reducible show wpAny _ _ (call (Value.ref 407) _) _ _ _); k_dflt (refine' spcl_use (law_box_c _ _ _ _ ?h1 ?h2) ?k1 ?k2 ?k3 ?k4 ?k5 ?kK ?kd ?ku ?ki ?kL ?_; (case k1 => k_asm); (case k2 => k_asm); (case k3 => k_asm); (case k4 => k_asm); (case k5 => k_asm); (case kK => first | exact rfl | assumption); (case kd => ktr_room); (case ku => ktr_units); (case ki => exact trivial)); (case kL => with_reducible assumption); (case h1 => with_reducible assumption); (case h2 => omega); intro v9 n9 h9 tk9 F9 N9 R9; (try dsimp only at R9); (obtain ⟨p9, c9, ys9, ks9, cap9, cap29, g9, st9, t91, t92, t93, e9, en9, hy9, hk9, hg90, hg91, hs90, hs91, hcp9, hl9, ho9⟩ := R9); (subst e9; subst en9); (try simp only [AllLt, and_true] at hl9); (try simp only [LCg.Off1, and_true] at ho9); (try dsimp only); (try k_sweep); (try k_fold))
  k_with "call ref" => (k_here; (with_reducible show wpAny _ _ (call (Value.ref 414) _) _ _ _); (try walk_at "NZ SPLIT"); k_dflt (refine' draw_use ?k1 ?k2 ?k3 ?k4 ?k5 ?kK ?kd ?ku ?h1 ?h2 ?h3 ?h4 ?h5 ?h6 ?h7 ?h8 ?h9 ?h10 ?h11 ?h12 ?h13 ?_; (case k1 => k_asm); (case k2 => k_asm); (case k3 => k_asm); (case k4 => k_asm); (case k5 => k_asm); (case kK => first | exact rfl | assumption); (case kd => ktr_room); (case ku => ktr_units)); (case h1 => intro o9; k_upd); (case h2 => k_dflt k_mem); (case h3 => k_ne); (case h4 => with_reducible assumption); (case h5 => with_reducible assumption); (case h6 => with_reducible first | assumption | decide); (case h7 => with_reducible assumption); (case h8 => with_reducible assumption); (case h9 => with_reducible assumption); (case h10 => omega); (case h11 => omega); (case h12 => decide); (case h13 => decide); intro k9 t9 g9 st9 cap9 t91 t92 t93 h9 tk9 F9 N9 hk90 hk91 hg90 hg91 hs90 hs91; (try dsimp only at N9); (try dsimp only); (try k_sweep); (try k_fold))
  k_with "eval Call Name" => (k_here; (with_reducible show wpAny _ _ (eval (Expr.Call (Expr.Name "is_atom_code" _) _ _ _) _) _ _ _); refine Call_ ?_)
  k_with "call ref" => (k_here; (with_reducible show wpAny _ _ (call (Value.ref 74) _) _ _ _); k_dflt (refine' pur_use (is_atom_code_c _ _ _ ?h1) ?k1 ?k2 ?k3 ?k4 ?k5 ?kK ?kd ?ku ?_; (case k1 => k_asm); (case k2 => k_asm); (case k3 => k_asm); (case k4 => k_asm); (case k5 => k_asm); (case kK => first | exact rfl | assumption); (case kd => ktr_room); (case ku => ktr_units)); (case h1 => (first | assumption | omega | ((try dsimp only); omega) | ((try dsimp only); (simp (disch := decide) only [Int.fdiv_eq_ediv_of_nonneg, Int.fmod_eq_emod_of_nonneg]); omega) | trivial | (refine ⟨?_, ?_, ?_, ?_, ?_, ?_, ?_, ?_, ?_, ?_, ?_, ?_, ?_, ?_⟩ <;> first | assumption | omega) | decide | (exact decide_eq_true (by omega)) | k_extra "pre")); intro v9 h9 tk9 F9 N9 R9; (try dsimp only at R9); (subst R9); (try dsimp only); (try k_sweep); (try k_fold))
  k_with "eval Call Name" => (k_here; (with_reducible show wpAny _ _ (eval (Expr.Call (Expr.Name "line_end" _) _ _ _) _) _ _ _); refine Call_ ?_)
  k_with "call ref" => (k_here; (with_reducible show wpAny _ _ (call (Value.ref 81) _) _ _ _); k_dflt (refine' pur_use (line_end_c _ _ _ _ _ _ ?h1 ?h2 ?h3 ?h4 ?h5 ?h6) ?k1 ?k2 ?k3 ?k4 ?k5 ?kK ?kd ?ku ?_; (case k1 => k_asm); (case k2 => k_asm); (case k3 => k_asm); (case k4 => k_asm); (case k5 => k_asm); (case kK => first | exact rfl | assumption); (case kd => ktr_room); (case ku => ktr_units)); (case h1 => (first | assumption | omega | ((try dsimp only); omega) | ((try dsimp only); (simp (disch := decide) only [Int.fdiv_eq_ediv_of_nonneg, Int.fmod_eq_emod_of_nonneg]); omega) | trivial | (refine ⟨?_, ?_, ?_, ?_, ?_, ?_, ?_, ?_, ?_, ?_, ?_, ?_, ?_, ?_⟩ <;> first | assumption | omega) | decide | (exact decide_eq_true (by omega)) | k_extra "pre")); (case h2 => (first | assumption | omega | ((try dsimp only); omega) | ((try dsimp only); (simp (disch := decide) only [Int.fdiv_eq_ediv_of_nonneg, Int.fmod_eq_emod_of_nonneg]); omega) | trivial | (refine ⟨?_, ?_, ?_, ?_, ?_, ?_, ?_, ?_, ?_, ?_, ?_, ?_, ?_, ?_⟩ <;> first | assumption | omega) | decide | (exact decide_eq_true (by omega)) | k_extra "pre")); (case h3 => (first | assumption | omega | ((try dsimp only); omega) | ((try dsimp only); (simp (disch := decide) only [Int.fdiv_eq_ediv_of_nonneg, Int.fmod_eq_emod_of_nonneg]); omega) | trivial | (refine ⟨?_, ?_, ?_, ?_, ?_, ?_, ?_, ?_, ?_, ?_, ?_, ?_, ?_, ?_⟩ <;> first | assumption | omega) | decide | (exact decide_eq_true (by omega)) | k_extra "pre")); (case h4 => (first | assumption | omega | ((try dsimp only); omega) | ((try dsimp only); (simp (disch := decide) only [Int.fdiv_eq_ediv_of_nonneg, Int.fmod_eq_emod_of_nonneg]); omega) | trivial | (refine ⟨?_, ?_, ?_, ?_, ?_, ?_, ?_, ?_, ?_, ?_, ?_, ?_, ?_, ?_⟩ <;> first | assumption | omega) | decide | (exact decide_eq_true (by omega)) | k_extra "pre")); (case h5 => (first | assumption | omega | ((try dsimp only); omega) | ((try dsimp only); (simp (disch := decide) only [Int.fdiv_eq_ediv_of_nonneg, Int.fmod_eq_emod_of_nonneg]); omega) | trivial | (refine ⟨?_, ?_, ?_, ?_, ?_, ?_, ?_, ?_, ?_, ?_, ?_, ?_, ?_, ?_⟩ <;> first | assumption | omega) | decide | (exact decide_eq_true (by omega)) | k_extra "pre")); (case h6 => (first | assumption | omega | ((try dsimp only); omega) | ((try dsimp only); (simp (disch := decide) only [Int.fdiv_eq_ediv_of_nonneg, Int.fmod_eq_emod_of_nonneg]); omega) | trivial | (refine ⟨?_, ?_, ?_, ?_, ?_, ?_, ?_, ?_, ?_, ?_, ?_, ?_, ?_, ?_⟩ <;> first | assumption | omega) | decide | (exact decide_eq_true (by omega)) | k_extra "pre")); intro v9 h9 tk9 F9 N9 R9; (try dsimp only at R9); (obtain ⟨t9, e9⟩ := R9); (subst e9); (try dsimp only); (try k_sweep); (try k_fold))
  k_with "eval Call Name" => (k_here; (with_reducible show wpAny _ _ (eval (Expr.Call (Expr.Name "past_white" _) _ _ _) _) _ _ _); refine Call_ ?_)
  k_with "call ref" => (k_here; (with_reducible show wpAny _ _ (call (Value.ref 123) _) _ _ _); k_dflt (refine' pur_use (past_white_c _ _ _ _ _ _ _ ?h1 ?h2) ?k1 ?k2 ?k3 ?k4 ?k5 ?kK ?kd ?ku ?_; (case k1 => k_asm); (case k2 => k_asm); (case k3 => k_asm); (case k4 => k_asm); (case k5 => k_asm); (case kK => first | exact rfl | assumption); (case kd => ktr_room); (case ku => ktr_units)); (case h1 => (first | assumption | omega | ((try dsimp only); omega) | ((try dsimp only); (simp (disch := decide) only [Int.fdiv_eq_ediv_of_nonneg, Int.fmod_eq_emod_of_nonneg]); omega) | trivial | (refine ⟨?_, ?_, ?_, ?_, ?_, ?_, ?_, ?_, ?_, ?_, ?_, ?_, ?_, ?_⟩ <;> first | assumption | omega) | decide | (exact decide_eq_true (by omega)) | k_extra "pre")); (case h2 => (first | assumption | omega | ((try dsimp only); omega) | ((try dsimp only); (simp (disch := decide) only [Int.fdiv_eq_ediv_of_nonneg, Int.fmod_eq_emod_of_nonneg]); omega) | trivial | (refine ⟨?_, ?_, ?_, ?_, ?_, ?_, ?_, ?_, ?_, ?_, ?_, ?_, ?_, ?_⟩ <;> first | assumption | omega) | decide | (exact decide_eq_true (by omega)) | k_extra "pre")); intro v9 h9 tk9 F9 N9 R9; (try dsimp only at R9); (obtain ⟨t9, e9⟩ := R9); (subst e9); (try dsimp only); (try k_sweep); (try k_fold))
  k_with "eval Call Name" => (k_here; (with_reducible show wpAny _ _ (eval (Expr.Call (Expr.Name "atom_at" _) _ _ _) _) _ _ _); refine Call_ ?_)
  k_with "call ref" => (k_here; (with_reducible show wpAny _ _ (call (Value.ref 109) _) _ _ _); k_dflt (refine' spc_use (atom_at_c _ _ _ _ _ _ _ ?h1 ?h2) ?k1 ?k2 ?k3 ?k4 ?k5 ?kK ?kd ?ku ?ki ?_; (case k1 => k_asm); (case k2 => k_asm); (case k3 => k_asm); (case k4 => k_asm); (case k5 => k_asm); (case kK => first | exact rfl | assumption); (case kd => ktr_room); (case ku => ktr_units); (case ki => exact trivial)); (case h1 => (first | assumption | omega | ((try dsimp only); omega) | ((try dsimp only); (simp (disch := decide) only [Int.fdiv_eq_ediv_of_nonneg, Int.fmod_eq_emod_of_nonneg]); omega) | trivial | (refine ⟨?_, ?_, ?_, ?_, ?_, ?_, ?_, ?_, ?_, ?_, ?_, ?_, ?_, ?_⟩ <;> first | assumption | omega) | decide | (exact decide_eq_true (by omega)) | k_extra "pre")); (case h2 => (first | assumption | omega | ((try dsimp only); omega) | ((try dsimp only); (simp (disch := decide) only [Int.fdiv_eq_ediv_of_nonneg, Int.fmod_eq_emod_of_nonneg]); omega) | trivial | (refine ⟨?_, ?_, ?_, ?_, ?_, ?_, ?_, ?_, ?_, ?_, ?_, ?_, ?_, ?_⟩ <;> first | assumption | omega) | decide | (exact decide_eq_true (by omega)) | k_extra "pre")); intro v9 n9 h9 tk9 F9 N9 R9; (try dsimp only at R9); (obtain ⟨x9, t91, t92, e9, en9, hl9⟩ := R9); (subst e9; subst en9; (try simp only [AllLt, and_true] at hl9)); (try dsimp only); (try k_sweep); (try k_fold))
  k_with "eval Call Name" => (k_here; (with_reducible show wpAny _ _ (eval (Expr.Call (Expr.Name "token_at" _) _ _ _) _) _ _ _); refine Call_ ?_)
  k_with "call ref" => (k_here; (with_reducible show wpAny _ _ (call (Value.ref 116) _) _ _ _); k_dflt (refine' spc_use (token_a_c _ _ _ _ _ _ _ ?h1 ?h2) ?k1 ?k2 ?k3 ?k4 ?k5 ?kK ?kd ?ku ?ki ?_; (case k1 => k_asm); (case k2 => k_asm); (case k3 => k_asm); (case k4 => k_asm); (case k5 => k_asm); (case kK => first | exact rfl | assumption); (case kd => ktr_room); (case ku => ktr_units); (case ki => exact trivial)); (case h1 => (first | assumption | omega | ((try dsimp only); omega) | ((try dsimp only); (simp (disch := decide) only [Int.fdiv_eq_ediv_of_nonneg, Int.fmod_eq_emod_of_nonneg]); omega) | trivial | (refine ⟨?_, ?_, ?_, ?_, ?_, ?_, ?_, ?_, ?_, ?_, ?_, ?_, ?_, ?_⟩ <;> first | assumption | omega) | decide | (exact decide_eq_true (by omega)) | k_extra "pre")); (case h2 => (first | assumption | omega | ((try dsimp only); omega) | ((try dsimp only); (simp (disch := decide) only [Int.fdiv_eq_ediv_of_nonneg, Int.fmod_eq_emod_of_nonneg]); omega) | trivial | (refine ⟨?_, ?_, ?_, ?_, ?_, ?_, ?_, ?_, ?_, ?_, ?_, ?_, ?_, ?_⟩ <;> first | assumption | omega) | decide | (exact decide_eq_true (by omega)) | k_extra "pre")); intro v9 n9 h9 tk9 F9 N9 R9; (try dsimp only at R9); (obtain ⟨x9, y9, t91, t92, t93, t94, e9, en9, hl9, hm9⟩ := R9); (subst e9; subst en9; (try simp only [AllLt, and_true] at hl9); (replace hm9 := ltN hm9)); (try dsimp only); (try k_sweep); (try k_fold))
  k_with "eval Call Name" => (k_here; (with_reducible show wpAny _ _ (eval (Expr.Call (Expr.Name "token_at" _) _ _ _) _) _ _ _); refine Call_ ?_)
  k_with "call ref" => (k_here; (with_reducible show wpAny _ _ (call (Value.ref 116) _) _ _ _); k_dflt (refine' spc_use (token_s_c _ _ _ _ _ _ _ _ ?h1 ?h2) ?k1 ?k2 ?k3 ?k4 ?k5 ?kK ?kd ?ku ?ki ?_; (case k1 => k_asm); (case k2 => k_asm); (case k3 => k_asm); (case k4 => k_asm); (case k5 => k_asm); (case kK => first | exact rfl | assumption); (case kd => ktr_room); (case ku => ktr_units); (case ki => exact trivial)); (case h1 => (first | assumption | omega | ((try dsimp only); omega) | ((try dsimp only); (simp (disch := decide) only [Int.fdiv_eq_ediv_of_nonneg, Int.fmod_eq_emod_of_nonneg]); omega) | trivial | (refine ⟨?_, ?_, ?_, ?_, ?_, ?_, ?_, ?_, ?_, ?_, ?_, ?_, ?_, ?_⟩ <;> first | assumption | omega) | decide | (exact decide_eq_true (by omega)) | k_extra "pre")); (case h2 => (first | assumption | omega | ((try dsimp only); omega) | ((try dsimp only); (simp (disch := decide) only [Int.fdiv_eq_ediv_of_nonneg, Int.fmod_eq_emod_of_nonneg]); omega) | trivial | (refine ⟨?_, ?_, ?_, ?_, ?_, ?_, ?_, ?_, ?_, ?_, ?_, ?_, ?_, ?_⟩ <;> first | assumption | omega) | decide | (exact decide_eq_true (by omega)) | k_extra "pre")); intro v9 n9 h9 tk9 F9 N9 R9; (try dsimp only at R9); (obtain ⟨x9, y9, t91, t92, t93, t94, e9, en9, hl9, hm9⟩ := R9); (subst e9; subst en9; (try simp only [AllLt, and_true] at hl9); (replace hm9 := ltN hm9)); (try dsimp only); (try k_sweep); (try k_fold))
  k_with "eval Call Name" => (k_here; (with_reducible show wpAny _ _ (eval (Expr.Call (Expr.Name "token_at" _) _ _ _) _) _ _ _); refine Call_ ?_)
  k_with "call ref" => (k_here; (with_reducible show wpAny _ _ (call (Value.ref 116) _) _ _ _); k_dflt (refine' spc_use (token_c _ _ _ _ _ _ _ ?h1 ?h2 ?h3) ?k1 ?k2 ?k3 ?k4 ?k5 ?kK ?kd ?ku ?ki ?_; (case k1 => k_asm); (case k2 => k_asm); (case k3 => k_asm); (case k4 => k_asm); (case k5 => k_asm); (case kK => first | exact rfl | assumption); (case kd => ktr_room); (case ku => ktr_units); (case ki => exact trivial)); (case h1 => (first | assumption | omega | ((try dsimp only); omega) | ((try dsimp only); (simp (disch := decide) only [Int.fdiv_eq_ediv_of_nonneg, Int.fmod_eq_emod_of_nonneg]); omega) | trivial | (refine ⟨?_, ?_, ?_, ?_, ?_, ?_, ?_, ?_, ?_, ?_, ?_, ?_, ?_, ?_⟩ <;> first | assumption | omega) | decide | (exact decide_eq_true (by omega)) | k_extra "pre")); (case h2 => (first | assumption | omega | ((try dsimp only); omega) | ((try dsimp only); (simp (disch := decide) only [Int.fdiv_eq_ediv_of_nonneg, Int.fmod_eq_emod_of_nonneg]); omega) | trivial | (refine ⟨?_, ?_, ?_, ?_, ?_, ?_, ?_, ?_, ?_, ?_, ?_, ?_, ?_, ?_⟩ <;> first | assumption | omega) | decide | (exact decide_eq_true (by omega)) | k_extra "pre")); (case h3 => (first | assumption | omega | ((try dsimp only); omega) | ((try dsimp only); (simp (disch := decide) only [Int.fdiv_eq_ediv_of_nonneg, Int.fmod_eq_emod_of_nonneg]); omega) | trivial | (refine ⟨?_, ?_, ?_, ?_, ?_, ?_, ?_, ?_, ?_, ?_, ?_, ?_, ?_, ?_⟩ <;> first | assumption | omega) | decide | (exact decide_eq_true (by omega)) | k_extra "pre")); intro v9 n9 h9 tk9 F9 N9 R9; (try dsimp only at R9); (obtain ⟨x9, y9, t91, t92, t93, t94, e9, en9, hl9, hm9⟩ := R9); (subst e9; subst en9; (try simp only [AllLt, and_true] at hl9); (replace hm9 := ltN hm9)); (try dsimp only); (try k_sweep); (try k_fold))
  trivial
theorem rows_41_20 : True := by
  k_with "eval Call Name" => (k_here; (with_reducible show wpAny _ _ (eval (Expr.Call (Expr.Name "tokens_of" _) _ _ _) _) _ _ _); refine Call_ ?_)
  k_with "call ref" => (k_here; (with_reducible show wpAny _ _ (call (Value.ref 130) _) _ _ _); k_dflt (refine' spc_use (tokens_of_c _ _ _ _ _ ?h1 ?h2) ?k1 ?k2 ?k3 ?k4 ?k5 ?kK ?kd ?ku ?ki ?_; (case k1 => k_asm); (case k2 => k_asm); (case k3 => k_asm); (case k4 => k_asm); (case k5 => k_asm); (case kK => first | exact rfl | assumption); (case kd => ktr_room); (case ku => ktr_units); (case ki => exact trivial)); (case h1 => (first | assumption | omega | ((try dsimp only); omega) | ((try dsimp only); (simp (disch := decide) only [Int.fdiv_eq_ediv_of_nonneg, Int.fmod_eq_emod_of_nonneg]); omega) | trivial | (refine ⟨?_, ?_, ?_, ?_, ?_, ?_, ?_, ?_, ?_, ?_, ?_, ?_, ?_, ?_⟩ <;> first | assumption | omega) | decide | (exact decide_eq_true (by omega)) | k_extra "pre")); (case h2 => (first | assumption | omega | ((try dsimp only); omega) | ((try dsimp only); (simp (disch := decide) only [Int.fdiv_eq_ediv_of_nonneg, Int.fmod_eq_emod_of_nonneg]); omega) | trivial | (refine ⟨?_, ?_, ?_, ?_, ?_, ?_, ?_, ?_, ?_, ?_, ?_, ?_, ?_, ?_⟩ <;> first | assumption | omega) | decide | (exact decide_eq_true (by omega)) | k_extra "pre")); intro v9 n9 h9 tk9 F9 N9 R9; (try dsimp only at R9); (obtain ⟨f9, vs9, cap9, made9, e9, en9, hT9, hsub9, hne9⟩ := R9); (subst e9; subst en9); (try dsimp only); (try k_sweep); (try k_fold))
  trivial

def lowC (c : Int) : Int := if 65 ≤ c ∧ c ≤ 90 then c + 32 else c
theorem lower_code_c (w : World) (c : Int) (t : Tok) : Pur w 1 (.ref 61) [.int c t] (fun v => ∃ t, v = .int (lowC c) t) := by
  (try unfold Pur)
  unfold Spc
  k_fill
  intro mean mg mb dp un gd cn cs aF ccd cl outer A₀ base h₀ LF mF news sF QF EF B F X N T hk hdp hun hin hret
  refine wpAny_call ?_
  k_dflt cell_enter
  (with_reducible rename Fr _ _ _ (fun nzy => List.lookup nzy _) => F0)
  replace F0 := fr_eq (m' := fun nzy => List.lookup nzy ([(Str.ofString "code", Value.int c t)] : List (Str × Value))) F0 (by kernel_rfl)
  k_steps
  all_goals (refine' hret _ _ _ _ ?e2 ?e3 (⟨rfl, ktn_int ?_⟩); (case e2 => k_asm); (case e3 => (first | k_asm | (refine' news_drop ?cbN ?cbS; (case cbN => assumption); (case cbS => kcj_all)))))
  all_goals (unfold lowC; first | rw [if_pos (by omega)] | rw [if_neg (by omega)])
theorem rows_30_21 : True := by
  k_with "eval Call Name" => (k_here; (with_reducible show wpAny _ _ (eval (Expr.Call (Expr.Name "lower_code" _) _ _ _) _) _ _ _); refine Call_ ?_)
  k_with "call ref" => (k_here; (with_reducible show wpAny _ _ (call (Value.ref 61) _) _ _ _); k_dflt (refine' pur_use (lower_code_c _ _ _) ?k1 ?k2 ?k3 ?k4 ?k5 ?kK ?kd ?ku ?_; (case k1 => k_asm); (case k2 => k_asm); (case k3 => k_asm); (case k4 => k_asm); (case k5 => k_asm); (case kK => first | exact rfl | assumption); (case kd => ktr_room); (case ku => ktr_units)); intro v9 h9 tk9 F9 N9 R9; (try dsimp only at R9); (obtain ⟨t9, e9⟩ := R9); (subst e9); (try dsimp only); (try k_sweep); (try k_fold))
  k_with "eval ListComp" => ((with_reducible show wpAny _ _ (eval (Expr.ListComp (Expr.Call (Expr.Name "chr" _) [Expr.Call (Expr.Name "lower_code" _) _ _ _] _ _) _ _ _) _) _ _ _); walk_at "NZ ECOMP")
  trivial
theorem each_strs {α : Type} (g : α → Str) : ∀ {ds : List α} {vs : List Value}, Each (fun c v => ∃ t, v = .str (g c) t) ds vs → StrsAre vs (ds.map g)
  | _, _, .nil => .nil
  | _, _, .cons ⟨t, e⟩ r => by subst e; exact .cons _ t (each_strs g r)
theorem join_signs (f : Nat → Nat) : ∀ l : List Nat, (Txt.join (Str.ofString "") (l.map fun c => (⟨#[f c]⟩ : Str))).cps.toList = l.map f := by
  intro l
  unfold Txt.join
  rw [StrLaws.glued_eq_join]
  induction l with
  | nil => rfl
  | cons a l ih =>
    cases l with
    | nil => rfl
    | cons b l =>
      show (((⟨#[f a]⟩ : Str) ++ Str.ofString "") ++ Str.join (Str.ofString "") ((b :: l).map fun c => (⟨#[f c]⟩ : Str))).cps.toList = _
      have e0 : (Str.ofString "").cps.toList = [] := by decide +kernel
      rw [Str.cps_append, Array.toList_append, ih, Str.cps_append, Array.toList_append, e0]
      rfl
theorem sum_ones (f : Nat → Nat) : ∀ l : List Nat, ((l.map fun c => (⟨#[f c]⟩ : Str)).map (·.length)).sum = l.length
  | [] => rfl
  | a :: l => by
    have := sum_ones f l
    simp only [List.map_cons, List.sum_cons, List.length_cons]
    rw [this]
    show 1 + l.length = l.length + 1
    omega
def lowN (c : Nat) : Nat := (lowC c).toNat
def lowT (x : Str) : Str := ⟨(x.cps.toList.map lowN).toArray⟩
theorem lower_text_c (w : World) (x : Str) (t : Tok) (h1 : x.length ≤ 100) (h2 : ∀ c ∈ x.cps.toList, c < 128) : Pur w 4 (.ref 66) [.str x t] (fun v => ∃ t, v = .str (lowT x) t ∧ (lowT x).length = x.length) := by
  (try unfold Pur)
  unfold Spc
  k_fill
  intro mean mg mb dp un gd cn cs aF ccd cl outer A₀ base h₀ LF mF news sF QF EF B F X N T hk hdp hun hin hret
  refine wpAny_call ?_
  k_dflt cell_enter
  (with_reducible rename Fr _ _ _ (fun nzy => List.lookup nzy _) => F0)
  replace F0 := fr_eq (m' := fun nzy => List.lookup nzy ([(Str.ofString "text", Value.str x t)] : List (Str × Value))) F0 (by kernel_rfl)
  k_steps
  k_dflt (refine' GSrc.str ?a1 ?a2 ?a3 ?a4 ?a5; (case a1 => rfl); (case a2 => k_asm); (case a3 => k_asm); (case a4 => (have := h1; unfold Str.length at this; rw [sizeLine_eq]; omega)))
  intro g'
  refine rest_gen x.cps.toList (fun c v => ∃ t, v = .str ⟨#[c]⟩ t) (fun c v => ∃ t, v = .str ⟨#[lowN c]⟩ t) trivial (by simp) ?_ ?_ ?_
  · intro i v hv
    obtain ⟨c, u, hc, rfl⟩ := hv
    exact ⟨c, by simpa using hc, u, rfl⟩
  · intro c v I oI C oC D m₂ ys h tk E' hd hv hC hx F N off ne
    obtain ⟨t, rfl⟩ := hv
    k_fold
    have hc := h2 c hd
    have hb1 : 0 ≤ lowC c := by unfold lowC; split <;> omega
    have hb2 : lowC c < 1000 := by unfold lowC; split <;> omega
    k_steps
    all_goals first | k_asm | trace_state
  · intro ys hy
    have hS := each_strs _ hy
    k_steps
    refine join_listW (News.isList (by k_asm) (by k_mem)) (by simpa using hS) (by decide) ?_ ?_
    · have := h1
      unfold Str.length at this
      rw [sum_ones, List.length_map, Array.length_toList]
      omega
    intro t' k'
    k_steps
    have e : Txt.join (Str.ofString "") (x.cps.toList.map fun c => (⟨#[lowN c]⟩ : Str)) = lowT x := by
      have e := join_signs lowN x.cps.toList
      refine Str.ext' ?_
      rw [← Array.toList_inj, e]
      rfl
    rw [e]
    all_goals (refine' hret _ _ _ _ ?e2 ?e3 (⟨rfl, _, rfl, ?_⟩); (case e2 => k_asm); (case e3 => (first | k_asm | (refine' news_drop ?cbN ?cbS; (case cbN => assumption); (case cbS => kcj_all)))))
    simp [Str.length, lowT]
theorem rows_30_22 : True := by
  k_with "eval Call Name" => (k_here; (with_reducible show wpAny _ _ (eval (Expr.Call (Expr.Name "lower_text" _) _ _ _) _) _ _ _); refine Call_ ?_)
  k_with "call ref" => (k_here; (with_reducible show wpAny _ _ (call (Value.ref 66) _) _ _ _); k_dflt (refine' pur_use (lower_text_c _ _ _ ?h1 ?h2) ?k1 ?k2 ?k3 ?k4 ?k5 ?kK ?kd ?ku ?_; (case k1 => k_asm); (case k2 => k_asm); (case k3 => k_asm); (case k4 => k_asm); (case k5 => k_asm); (case kK => first | exact rfl | assumption); (case kd => ktr_room); (case ku => ktr_units)); (case h1 => (first | assumption | omega | ((try dsimp only); omega) | ((try dsimp only); (simp (disch := decide) only [Int.fdiv_eq_ediv_of_nonneg, Int.fmod_eq_emod_of_nonneg]); omega) | trivial | (refine ⟨?_, ?_, ?_, ?_, ?_, ?_, ?_, ?_, ?_, ?_, ?_, ?_, ?_, ?_⟩ <;> first | assumption | omega) | decide | (exact decide_eq_true (by omega)) | k_extra "pre")); (case h2 => (first | assumption | omega | ((try dsimp only); omega) | ((try dsimp only); (simp (disch := decide) only [Int.fdiv_eq_ediv_of_nonneg, Int.fmod_eq_emod_of_nonneg]); omega) | trivial | (refine ⟨?_, ?_, ?_, ?_, ?_, ?_, ?_, ?_, ?_, ?_, ?_, ?_, ?_, ?_⟩ <;> first | assumption | omega) | decide | (exact decide_eq_true (by omega)) | k_extra "pre")); intro v9 h9 tk9 F9 N9 R9; (try dsimp only at R9); (obtain ⟨t9, e9, hl9⟩ := R9); (subst e9); (try dsimp only); (try k_sweep); (try k_fold))
  trivial

theorem off1_ne {D : Addr} : ∀ {l : List (Addr × Obj)}, LCg.Off1 D l → ∀ p ∈ l, @Ne Nat p.1 D
  | [], _, _, h => nomatch h
  | _ :: _, x, p, h => by
    rcases List.mem_cons.mp h with rfl | h
    · exact x.1
    · exact off1_ne x.2 p h
theorem ne_mem {l : List (Addr × Obj)} {d a : Addr} {o : Obj} (h : ∀ p ∈ l, @Ne Nat p.1 d) (hm : (a, o) ∈ l) : @Ne Nat d a := Ne.symm (h _ hm)
local macro_rules | `(tactic| k_ne) => `(tactic| (k_dflt (refine ne_mem (by assumption) (by k_mem))))
section
variable {prog : Program} {w : World} {A : Around} {E : Value → Shared → Prop} {s : Shared} {h₀ : Heap} {L : Addr} {m : Str → Option Value} {env : Env}
/-- The turns of a comprehension with a test, which takes every item as it is. -/
theorem rest_all {ct elt : Expr} {x : Str} {scope : Scope} {cl : List (Str × Addr)} {Fin : List Value → List (Addr × Obj) → Prop} {news : List (Addr × Obj)} {S : List (Addr × Obj) → Prop} {vs : List Value} {P : Nat → Value → Prop} {n : Nat} (hn : n = vs.length) (hP : ∀ i v, P i v → vs[i]? = some v) (hS : S news)
    (turn : ∀ v I oI C oC D m₂ ys h tk (E' : Value → Shared → Prop), v ∈ vs → LCg.NsObj oC m₂ → m₂ x = some v → Fr h₀ L h m → News h₀ L h ((I, oI) :: (C, oC) :: (D, LCg.lst ys) :: news) → LCg.Off3 I C D news → ((@Ne Nat I C) ∧ (@Ne Nat I D) ∧ (@Ne Nat C D)) →
      wpAny (model prog w) A (isTrue ct (compEnvC scope cl C env) (eval ct (compEnvC scope cl C env))) (fun ok s' => ok = true ∧ wpAny (model prog w) A (eval elt (compEnvC scope cl C env)) (fun r s₂ => ∃ h' tk', s₂ = { s with heap := h', toks := tk' } ∧ Fr h₀ L h' m ∧ News h₀ L h' ((I, oI) :: (C, oC) :: (D, LCg.lst ys) :: news) ∧ r = v) E' s') E' { s with heap := h, toks := tk })
    (fin : Fin vs news) : LCt.CompRestT prog w A h₀ L m env ct elt x scope cl s S P Fin n 0 [] news := by
  subst hn
  have key : ∀ (j i : Nat), i + j = vs.length → LCt.CompRestT prog w A h₀ L m env ct elt x scope cl s S P Fin j i (vs.take i) news := by
    intro j
    induction j with
    | zero =>
      intro i hi
      rw [List.take_of_length_le (by omega)]
      exact LCt.CompRestT.zero fin
    | succ j ih =>
      intro i hi
      refine LCt.CompRestT.succ ?_
      intro v I oI C oC D m₂ h tk E' hv hC hx F N off ne
      have hd := hP i v hv
      refine wpAny_mono (turn v I oI C oC D m₂ _ h tk E' (List.mem_of_getElem? hd) hC hx F N off ne) (fun ok s' hq => ?_) fun _ _ e => e
      obtain ⟨hok, hq⟩ := hq
      rw [if_pos hok]
      refine wpAny_mono hq (fun r s₂ hq => ?_) fun _ _ e => e
      obtain ⟨h', tk', rfl, F', N', rfl⟩ := hq
      refine ⟨h', tk', news, rfl, F', N', off, hS, ?_⟩
      have := ih (i + 1) (by omega)
      rw [List.take_add_one, hd] at this
      exact this
  exact key vs.length 0 (by omega)
end
theorem TkIn.at {x : Array UInt8} {rest : List (Addr × Obj)} {ts : List Tk} {vs : List Value} (h : TkIn x rest ts vs) : ∀ v ∈ vs, ∃ k q t1 t2 t3, v = .ref q ∧ (q, tkObj x k t1 t2 t3) ∈ rest := by
  induction h with
  | nil => intro v h; cases h
  | cons hm _ ih =>
    intro v h
    rcases List.mem_cons.mp h with rfl | h
    · exact ⟨_, _, _, _, _, rfl, hm⟩
    · exact ih v h
theorem kind_ne (k : Tk) : (k.kind != Str.ofString "comment") = true := by cases k <;> (show (Str.ofString _ != _) = true; decide +kernel)
theorem without_comments_c (w : World) (r : Addr) (x : Array UInt8) (D : Int) (vs : List Value) (cap : Nat) : Spc w 4 (.ref 135) [.ref r] (fun news => ((r, { cls := .type "list", data := .seq vs.toArray cap }) : Addr × Obj) ∈ news ∧ TkIn x news (dTk D) vs)
    (fun news v news' => ∃ d : Addr, v = .ref d ∧ news' = (d, { cls := .type "list", data := .seq vs.toArray vs.length }) :: news ∧ ∀ p ∈ news, @Ne Nat p.1 d) := by
  (try unfold Pur)
  unfold Spc
  k_fill
  intro mean mg mb dp un gd cn cs aF ccd cl outer A₀ base h₀ LF mF news sF QF EF B F X N T hk hdp hun hin hret
  refine wpAny_call ?_
  k_dflt cell_enter
  (with_reducible rename Fr _ _ _ (fun nzy => List.lookup nzy _) => F0)
  replace F0 := fr_eq (m' := fun nzy => List.lookup nzy ([(Str.ofString "tokens", Value.ref r)] : List (Str × Value))) F0 (by kernel_rfl)
  obtain ⟨g0, g1⟩ := hin
  have hl : vs.length = 11 := g1.len
  have hs : vs.toArray.size ≤ sizeLine := by rw [List.size_toArray, hl]; exact Nat.le_of_ble_eq_true rfl
  k_with "eval ListComp" => (k_dflt (refine LCt.ListComp_T (F₀ := by k_asm) (by with_unfolding_all rfl) (by decide) (by rfl) (by decide) (by rfl) ?_))
  k_with "CompSrcT" => (k_dflt (refine LCt.CompSrcT.ledger (by rfl) (by k_asm) (by k_asm) (by k_mem) (by assumption) ?_; intro g'; refine hold ?_))
  k_steps
  refine unhold ?_
  refine rest_all (vs := vs) (by simp) (fun i v h => by simpa using h) (.inr ⟨_, g0, rfl, _, rfl⟩) ?_ ?_
  · intro v I oI C oC D m₂ ys h tk E' hv hC hx F N off ne
    obtain ⟨k, q, t1, t2, t3, rfl, hm⟩ := g1.at v hv
    k_fold
    have hk := kind_ne k
    k_steps
    all_goals first | k_asm | trace_state
  · k_steps
    refine' hret _ _ _ _ ?e2 ?e3 ⟨_, rfl, rfl, ?e4⟩
    case e2 => k_asm
    case e3 => k_asm
    case e4 => exact off1_ne (by assumption)
theorem rows_42_23 : True := by
  k_with_none
  k_with "NZ LOOK" => ((repeat (first | exact if_hit | refine if_miss (by kernel_rfl) ?_ | exact lk_hit | refine lk_miss (by kernel_rfl) ?_ | assumption)); done)
  k_with "ite" => (k_closed; first | (with_reducible refine ite_neg Bool.false_ne_true ?_) | (with_reducible refine ite_pos rfl ?_) | (with_reducible refine ite_neg (by decide +kernel) ?_) | (with_reducible refine ite_pos (by decide +kernel) ?_))
  k_with "subscriptTail" => ((with_reducible show wpAny _ _ (subscriptTail (Expr.Attribute _ _ _) _ _ _) _ _ _); walk_at "last subscriptTail")
  k_with "NZ SUB" => (intro p9 hp9; (repeat (first | exact hp9 | exact List.mem_append_left _ hp9 | (refine (‹∀ p : Addr × Obj, p ∈ _ → p ∈ _› p9 ?_); exact hp9) | refine List.Mem.tail _ ?_)))
  k_with "eval Name" => (k_here; (with_reducible rename Fr _ _ _ _ => kF); with_reducible (refine' nameX_K kF ?nzX ?nzT ?nze ?_ ?nzk ?nza ?nzb; (case nzX => assumption); (case nzT => k_asm); (case nze => k_is); (case nzk => first | exact rfl | assumption); (case nza => kernel_rfl); (case nzb => kernel_rfl); k_whole))
  k_with "eval Name" => (k_here; (with_reducible rename Fr _ _ _ _ => kF); with_reducible (refine' nameX_L kF ?nzv ?_ ?nzk ?nza ?nzb; (case nza => kernel_rfl!); (case nzv => walk_at "NZ LOOK"); (case nzk => first | exact rfl | assumption); (case nzb => kernel_rfl); k_whole))
  k_with "callWith ref" => (k_here; with_reducible (refine' cw_some ?nzx ?nzk ?_ ?nzhe ?nzhp; (case nzx => assumption); (case nzk => k_is); (case nzhe => kernel_rfl); (case nzhp => kernel_rfl); k_whole))
  k_with "callWith ref" => (k_here; with_reducible (refine' cw_none ?nzx ?nzF ?nzk ?_; (case nzx => assumption); (case nzF => assumption); (case nzk => k_is); k_whole))
  k_with "CompEnd" => (k_dflt (refine' end_same ?a1 ?a2 ?a3 ?a4 ?_; (case a1 => k_asm); (case a2 => k_asm); (case a3 => assumption); (case a4 => lcg_src)))
  k_with "NZ TUP" => (k_dflt (refine' GSrc.tup ?a1 ?a2 ?a3 ?a4 ?a5 ?_; (case a1 => rfl); (case a2 => k_asm); (case a3 => k_asm); (case a4 => first | exact Or.inr ⟨_, by k_mem, rfl, _, rfl⟩ | exact Or.inl (by assumption)); (case a5 => first | exact Nat.le_of_ble_eq_true rfl | size_fits)); intro g')
  k_with "NZ TURN" => (refine ⟨_, _, rfl, by k_asm, by (first | k_asm | (refine' news_drop ?cbN ?cbS; (case cbN => assumption); (case cbS => kcj_all))), ?_⟩)
  k_with "NZ ACOMP" => (k_here; k_dflt (refine Assign_ListComp_G (by k_asm) (by rfl) (by with_unfolding_all rfl) (by rfl) (by decide) (by rfl) (by decide) (by rfl) (by rfl) (by rfl) ?_))
  k_with "NZ ECOMP" => (k_here; k_dflt (refine ListComp_G (by k_asm) (by rfl) (by decide) (by rfl) (by decide) (by rfl) ?_))
  k_with "compareOp In int" => (k_here; (with_reducible show wpAny _ _ (compareOp CmpOp.In (Value.int _ _) (Value.bytes _ _)) _ _ _); (refine By.int_in_bytes (by omega) (by omega) ?_))
  k_with "compareOp In bytes" => (k_here; (with_reducible show wpAny _ _ (compareOp CmpOp.In (Value.bytes _ _) (Value.bytes _ _)) _ _ _); k_dflt (refine' By.bytes_in_bytes ?k1 ?k2 ?k3 ?_; (case k1 => rfl); (case k2 => k_asm); (case k3 => k_asm)); intro h9 tk9 F9 N9; (try k_sweep))
  k_with "exec Assign cons ListComp" => ((with_reducible show wpAny _ _ (exec (Stmt.Assign _ (Expr.ListComp (Expr.Call (Expr.Name "int" _) [Expr.Name "cell" _] _ _) _ _ _) _) _) _ _ _); walk_at "NZ ACOMP")
  k_with "call ref" => (k_here; (with_reducible show wpAny _ _ (call (Value.ref 407) _) _ _ _); k_dflt (refine' spcl_use (law_box_c _ _ _ _ ?h1 ?h2) ?k1 ?k2 ?k3 ?k4 ?k5 ?kK ?kd ?ku ?ki ?kL ?_; (case k1 => k_asm); (case k2 => k_asm); (case k3 => k_asm); (case k4 => k_asm); (case k5 => k_asm); (case kK => first | exact rfl | assumption); (case kd => ktr_room); (case ku => ktr_units); (case ki => exact trivial)); (case kL => with_reducible assumption); (case h1 => with_reducible assumption); (case h2 => omega); intro v9 n9 h9 tk9 F9 N9 R9; (try dsimp only at R9); (obtain ⟨p9, c9, ys9, ks9, cap9, cap29, g9, st9, t91, t92, t93, e9, en9, hy9, hk9, hg90, hg91, hs90, hs91, hcp9, hl9, ho9⟩ := R9); (subst e9; subst en9); (try simp only [AllLt, and_true] at hl9); (try simp only [LCg.Off1, and_true] at ho9); (try dsimp only); (try k_sweep); (try k_fold))
  k_with "call ref" => (k_here; (with_reducible show wpAny _ _ (call (Value.ref 414) _) _ _ _); (try walk_at "NZ SPLIT"); k_dflt (refine' draw_use ?k1 ?k2 ?k3 ?k4 ?k5 ?kK ?kd ?ku ?h1 ?h2 ?h3 ?h4 ?h5 ?h6 ?h7 ?h8 ?h9 ?h10 ?h11 ?h12 ?h13 ?_; (case k1 => k_asm); (case k2 => k_asm); (case k3 => k_asm); (case k4 => k_asm); (case k5 => k_asm); (case kK => first | exact rfl | assumption); (case kd => ktr_room); (case ku => ktr_units)); (case h1 => intro o9; k_upd); (case h2 => k_dflt k_mem); (case h3 => k_ne); (case h4 => with_reducible assumption); (case h5 => with_reducible assumption); (case h6 => with_reducible first | assumption | decide); (case h7 => with_reducible assumption); (case h8 => with_reducible assumption); (case h9 => with_reducible assumption); (case h10 => omega); (case h11 => omega); (case h12 => decide); (case h13 => decide); intro k9 t9 g9 st9 cap9 t91 t92 t93 h9 tk9 F9 N9 hk90 hk91 hg90 hg91 hs90 hs91; (try dsimp only at N9); (try dsimp only); (try k_sweep); (try k_fold))
  k_with "eval Call Name" => (k_here; (with_reducible show wpAny _ _ (eval (Expr.Call (Expr.Name "is_atom_code" _) _ _ _) _) _ _ _); refine Call_ ?_)
  k_with "call ref" => (k_here; (with_reducible show wpAny _ _ (call (Value.ref 74) _) _ _ _); k_dflt (refine' pur_use (is_atom_code_c _ _ _ ?h1) ?k1 ?k2 ?k3 ?k4 ?k5 ?kK ?kd ?ku ?_; (case k1 => k_asm); (case k2 => k_asm); (case k3 => k_asm); (case k4 => k_asm); (case k5 => k_asm); (case kK => first | exact rfl | assumption); (case kd => ktr_room); (case ku => ktr_units)); (case h1 => (first | assumption | omega | ((try dsimp only); omega) | ((try dsimp only); (simp (disch := decide) only [Int.fdiv_eq_ediv_of_nonneg, Int.fmod_eq_emod_of_nonneg]); omega) | trivial | (refine ⟨?_, ?_, ?_, ?_, ?_, ?_, ?_, ?_, ?_, ?_, ?_, ?_, ?_, ?_⟩ <;> first | assumption | omega) | decide | (exact decide_eq_true (by omega)) | k_extra "pre")); intro v9 h9 tk9 F9 N9 R9; (try dsimp only at R9); (subst R9); (try dsimp only); (try k_sweep); (try k_fold))
  k_with "eval Call Name" => (k_here; (with_reducible show wpAny _ _ (eval (Expr.Call (Expr.Name "line_end" _) _ _ _) _) _ _ _); refine Call_ ?_)
  k_with "call ref" => (k_here; (with_reducible show wpAny _ _ (call (Value.ref 81) _) _ _ _); k_dflt (refine' pur_use (line_end_c _ _ _ _ _ _ ?h1 ?h2 ?h3 ?h4 ?h5 ?h6) ?k1 ?k2 ?k3 ?k4 ?k5 ?kK ?kd ?ku ?_; (case k1 => k_asm); (case k2 => k_asm); (case k3 => k_asm); (case k4 => k_asm); (case k5 => k_asm); (case kK => first | exact rfl | assumption); (case kd => ktr_room); (case ku => ktr_units)); (case h1 => (first | assumption | omega | ((try dsimp only); omega) | ((try dsimp only); (simp (disch := decide) only [Int.fdiv_eq_ediv_of_nonneg, Int.fmod_eq_emod_of_nonneg]); omega) | trivial | (refine ⟨?_, ?_, ?_, ?_, ?_, ?_, ?_, ?_, ?_, ?_, ?_, ?_, ?_, ?_⟩ <;> first | assumption | omega) | decide | (exact decide_eq_true (by omega)) | k_extra "pre")); (case h2 => (first | assumption | omega | ((try dsimp only); omega) | ((try dsimp only); (simp (disch := decide) only [Int.fdiv_eq_ediv_of_nonneg, Int.fmod_eq_emod_of_nonneg]); omega) | trivial | (refine ⟨?_, ?_, ?_, ?_, ?_, ?_, ?_, ?_, ?_, ?_, ?_, ?_, ?_, ?_⟩ <;> first | assumption | omega) | decide | (exact decide_eq_true (by omega)) | k_extra "pre")); (case h3 => (first | assumption | omega | ((try dsimp only); omega) | ((try dsimp only); (simp (disch := decide) only [Int.fdiv_eq_ediv_of_nonneg, Int.fmod_eq_emod_of_nonneg]); omega) | trivial | (refine ⟨?_, ?_, ?_, ?_, ?_, ?_, ?_, ?_, ?_, ?_, ?_, ?_, ?_, ?_⟩ <;> first | assumption | omega) | decide | (exact decide_eq_true (by omega)) | k_extra "pre")); (case h4 => (first | assumption | omega | ((try dsimp only); omega) | ((try dsimp only); (simp (disch := decide) only [Int.fdiv_eq_ediv_of_nonneg, Int.fmod_eq_emod_of_nonneg]); omega) | trivial | (refine ⟨?_, ?_, ?_, ?_, ?_, ?_, ?_, ?_, ?_, ?_, ?_, ?_, ?_, ?_⟩ <;> first | assumption | omega) | decide | (exact decide_eq_true (by omega)) | k_extra "pre")); (case h5 => (first | assumption | omega | ((try dsimp only); omega) | ((try dsimp only); (simp (disch := decide) only [Int.fdiv_eq_ediv_of_nonneg, Int.fmod_eq_emod_of_nonneg]); omega) | trivial | (refine ⟨?_, ?_, ?_, ?_, ?_, ?_, ?_, ?_, ?_, ?_, ?_, ?_, ?_, ?_⟩ <;> first | assumption | omega) | decide | (exact decide_eq_true (by omega)) | k_extra "pre")); (case h6 => (first | assumption | omega | ((try dsimp only); omega) | ((try dsimp only); (simp (disch := decide) only [Int.fdiv_eq_ediv_of_nonneg, Int.fmod_eq_emod_of_nonneg]); omega) | trivial | (refine ⟨?_, ?_, ?_, ?_, ?_, ?_, ?_, ?_, ?_, ?_, ?_, ?_, ?_, ?_⟩ <;> first | assumption | omega) | decide | (exact decide_eq_true (by omega)) | k_extra "pre")); intro v9 h9 tk9 F9 N9 R9; (try dsimp only at R9); (obtain ⟨t9, e9⟩ := R9); (subst e9); (try dsimp only); (try k_sweep); (try k_fold))
  k_with "eval Call Name" => (k_here; (with_reducible show wpAny _ _ (eval (Expr.Call (Expr.Name "past_white" _) _ _ _) _) _ _ _); refine Call_ ?_)
  k_with "call ref" => (k_here; (with_reducible show wpAny _ _ (call (Value.ref 123) _) _ _ _); k_dflt (refine' pur_use (past_white_c _ _ _ _ _ _ _ ?h1 ?h2) ?k1 ?k2 ?k3 ?k4 ?k5 ?kK ?kd ?ku ?_; (case k1 => k_asm); (case k2 => k_asm); (case k3 => k_asm); (case k4 => k_asm); (case k5 => k_asm); (case kK => first | exact rfl | assumption); (case kd => ktr_room); (case ku => ktr_units)); (case h1 => (first | assumption | omega | ((try dsimp only); omega) | ((try dsimp only); (simp (disch := decide) only [Int.fdiv_eq_ediv_of_nonneg, Int.fmod_eq_emod_of_nonneg]); omega) | trivial | (refine ⟨?_, ?_, ?_, ?_, ?_, ?_, ?_, ?_, ?_, ?_, ?_, ?_, ?_, ?_⟩ <;> first | assumption | omega) | decide | (exact decide_eq_true (by omega)) | k_extra "pre")); (case h2 => (first | assumption | omega | ((try dsimp only); omega) | ((try dsimp only); (simp (disch := decide) only [Int.fdiv_eq_ediv_of_nonneg, Int.fmod_eq_emod_of_nonneg]); omega) | trivial | (refine ⟨?_, ?_, ?_, ?_, ?_, ?_, ?_, ?_, ?_, ?_, ?_, ?_, ?_, ?_⟩ <;> first | assumption | omega) | decide | (exact decide_eq_true (by omega)) | k_extra "pre")); intro v9 h9 tk9 F9 N9 R9; (try dsimp only at R9); (obtain ⟨t9, e9⟩ := R9); (subst e9); (try dsimp only); (try k_sweep); (try k_fold))
  k_with "eval Call Name" => (k_here; (with_reducible show wpAny _ _ (eval (Expr.Call (Expr.Name "atom_at" _) _ _ _) _) _ _ _); refine Call_ ?_)
  k_with "call ref" => (k_here; (with_reducible show wpAny _ _ (call (Value.ref 109) _) _ _ _); k_dflt (refine' spc_use (atom_at_c _ _ _ _ _ _ _ ?h1 ?h2) ?k1 ?k2 ?k3 ?k4 ?k5 ?kK ?kd ?ku ?ki ?_; (case k1 => k_asm); (case k2 => k_asm); (case k3 => k_asm); (case k4 => k_asm); (case k5 => k_asm); (case kK => first | exact rfl | assumption); (case kd => ktr_room); (case ku => ktr_units); (case ki => exact trivial)); (case h1 => (first | assumption | omega | ((try dsimp only); omega) | ((try dsimp only); (simp (disch := decide) only [Int.fdiv_eq_ediv_of_nonneg, Int.fmod_eq_emod_of_nonneg]); omega) | trivial | (refine ⟨?_, ?_, ?_, ?_, ?_, ?_, ?_, ?_, ?_, ?_, ?_, ?_, ?_, ?_⟩ <;> first | assumption | omega) | decide | (exact decide_eq_true (by omega)) | k_extra "pre")); (case h2 => (first | assumption | omega | ((try dsimp only); omega) | ((try dsimp only); (simp (disch := decide) only [Int.fdiv_eq_ediv_of_nonneg, Int.fmod_eq_emod_of_nonneg]); omega) | trivial | (refine ⟨?_, ?_, ?_, ?_, ?_, ?_, ?_, ?_, ?_, ?_, ?_, ?_, ?_, ?_⟩ <;> first | assumption | omega) | decide | (exact decide_eq_true (by omega)) | k_extra "pre")); intro v9 n9 h9 tk9 F9 N9 R9; (try dsimp only at R9); (obtain ⟨x9, t91, t92, e9, en9, hl9⟩ := R9); (subst e9; subst en9; (try simp only [AllLt, and_true] at hl9)); (try dsimp only); (try k_sweep); (try k_fold))
  k_with "eval Call Name" => (k_here; (with_reducible show wpAny _ _ (eval (Expr.Call (Expr.Name "token_at" _) _ _ _) _) _ _ _); refine Call_ ?_)
  k_with "call ref" => (k_here; (with_reducible show wpAny _ _ (call (Value.ref 116) _) _ _ _); k_dflt (refine' spc_use (token_a_c _ _ _ _ _ _ _ ?h1 ?h2) ?k1 ?k2 ?k3 ?k4 ?k5 ?kK ?kd ?ku ?ki ?_; (case k1 => k_asm); (case k2 => k_asm); (case k3 => k_asm); (case k4 => k_asm); (case k5 => k_asm); (case kK => first | exact rfl | assumption); (case kd => ktr_room); (case ku => ktr_units); (case ki => exact trivial)); (case h1 => (first | assumption | omega | ((try dsimp only); omega) | ((try dsimp only); (simp (disch := decide) only [Int.fdiv_eq_ediv_of_nonneg, Int.fmod_eq_emod_of_nonneg]); omega) | trivial | (refine ⟨?_, ?_, ?_, ?_, ?_, ?_, ?_, ?_, ?_, ?_, ?_, ?_, ?_, ?_⟩ <;> first | assumption | omega) | decide | (exact decide_eq_true (by omega)) | k_extra "pre")); (case h2 => (first | assumption | omega | ((try dsimp only); omega) | ((try dsimp only); (simp (disch := decide) only [Int.fdiv_eq_ediv_of_nonneg, Int.fmod_eq_emod_of_nonneg]); omega) | trivial | (refine ⟨?_, ?_, ?_, ?_, ?_, ?_, ?_, ?_, ?_, ?_, ?_, ?_, ?_, ?_⟩ <;> first | assumption | omega) | decide | (exact decide_eq_true (by omega)) | k_extra "pre")); intro v9 n9 h9 tk9 F9 N9 R9; (try dsimp only at R9); (obtain ⟨x9, y9, t91, t92, t93, t94, e9, en9, hl9, hm9⟩ := R9); (subst e9; subst en9; (try simp only [AllLt, and_true] at hl9); (replace hm9 := ltN hm9)); (try dsimp only); (try k_sweep); (try k_fold))
  k_with "eval Call Name" => (k_here; (with_reducible show wpAny _ _ (eval (Expr.Call (Expr.Name "token_at" _) _ _ _) _) _ _ _); refine Call_ ?_)
  k_with "call ref" => (k_here; (with_reducible show wpAny _ _ (call (Value.ref 116) _) _ _ _); k_dflt (refine' spc_use (token_s_c _ _ _ _ _ _ _ _ ?h1 ?h2) ?k1 ?k2 ?k3 ?k4 ?k5 ?kK ?kd ?ku ?ki ?_; (case k1 => k_asm); (case k2 => k_asm); (case k3 => k_asm); (case k4 => k_asm); (case k5 => k_asm); (case kK => first | exact rfl | assumption); (case kd => ktr_room); (case ku => ktr_units); (case ki => exact trivial)); (case h1 => (first | assumption | omega | ((try dsimp only); omega) | ((try dsimp only); (simp (disch := decide) only [Int.fdiv_eq_ediv_of_nonneg, Int.fmod_eq_emod_of_nonneg]); omega) | trivial | (refine ⟨?_, ?_, ?_, ?_, ?_, ?_, ?_, ?_, ?_, ?_, ?_, ?_, ?_, ?_⟩ <;> first | assumption | omega) | decide | (exact decide_eq_true (by omega)) | k_extra "pre")); (case h2 => (first | assumption | omega | ((try dsimp only); omega) | ((try dsimp only); (simp (disch := decide) only [Int.fdiv_eq_ediv_of_nonneg, Int.fmod_eq_emod_of_nonneg]); omega) | trivial | (refine ⟨?_, ?_, ?_, ?_, ?_, ?_, ?_, ?_, ?_, ?_, ?_, ?_, ?_, ?_⟩ <;> first | assumption | omega) | decide | (exact decide_eq_true (by omega)) | k_extra "pre")); intro v9 n9 h9 tk9 F9 N9 R9; (try dsimp only at R9); (obtain ⟨x9, y9, t91, t92, t93, t94, e9, en9, hl9, hm9⟩ := R9); (subst e9; subst en9; (try simp only [AllLt, and_true] at hl9); (replace hm9 := ltN hm9)); (try dsimp only); (try k_sweep); (try k_fold))
  k_with "eval Call Name" => (k_here; (with_reducible show wpAny _ _ (eval (Expr.Call (Expr.Name "token_at" _) _ _ _) _) _ _ _); refine Call_ ?_)
  k_with "call ref" => (k_here; (with_reducible show wpAny _ _ (call (Value.ref 116) _) _ _ _); k_dflt (refine' spc_use (token_c _ _ _ _ _ _ _ ?h1 ?h2 ?h3) ?k1 ?k2 ?k3 ?k4 ?k5 ?kK ?kd ?ku ?ki ?_; (case k1 => k_asm); (case k2 => k_asm); (case k3 => k_asm); (case k4 => k_asm); (case k5 => k_asm); (case kK => first | exact rfl | assumption); (case kd => ktr_room); (case ku => ktr_units); (case ki => exact trivial)); (case h1 => (first | assumption | omega | ((try dsimp only); omega) | ((try dsimp only); (simp (disch := decide) only [Int.fdiv_eq_ediv_of_nonneg, Int.fmod_eq_emod_of_nonneg]); omega) | trivial | (refine ⟨?_, ?_, ?_, ?_, ?_, ?_, ?_, ?_, ?_, ?_, ?_, ?_, ?_, ?_⟩ <;> first | assumption | omega) | decide | (exact decide_eq_true (by omega)) | k_extra "pre")); (case h2 => (first | assumption | omega | ((try dsimp only); omega) | ((try dsimp only); (simp (disch := decide) only [Int.fdiv_eq_ediv_of_nonneg, Int.fmod_eq_emod_of_nonneg]); omega) | trivial | (refine ⟨?_, ?_, ?_, ?_, ?_, ?_, ?_, ?_, ?_, ?_, ?_, ?_, ?_, ?_⟩ <;> first | assumption | omega) | decide | (exact decide_eq_true (by omega)) | k_extra "pre")); (case h3 => (first | assumption | omega | ((try dsimp only); omega) | ((try dsimp only); (simp (disch := decide) only [Int.fdiv_eq_ediv_of_nonneg, Int.fmod_eq_emod_of_nonneg]); omega) | trivial | (refine ⟨?_, ?_, ?_, ?_, ?_, ?_, ?_, ?_, ?_, ?_, ?_, ?_, ?_, ?_⟩ <;> first | assumption | omega) | decide | (exact decide_eq_true (by omega)) | k_extra "pre")); intro v9 n9 h9 tk9 F9 N9 R9; (try dsimp only at R9); (obtain ⟨x9, y9, t91, t92, t93, t94, e9, en9, hl9, hm9⟩ := R9); (subst e9; subst en9; (try simp only [AllLt, and_true] at hl9); (replace hm9 := ltN hm9)); (try dsimp only); (try k_sweep); (try k_fold))
  k_with "eval Call Name" => (k_here; (with_reducible show wpAny _ _ (eval (Expr.Call (Expr.Name "tokens_of" _) _ _ _) _) _ _ _); refine Call_ ?_)
  k_with "call ref" => (k_here; (with_reducible show wpAny _ _ (call (Value.ref 130) _) _ _ _); k_dflt (refine' spc_use (tokens_of_c _ _ _ _ _ ?h1 ?h2) ?k1 ?k2 ?k3 ?k4 ?k5 ?kK ?kd ?ku ?ki ?_; (case k1 => k_asm); (case k2 => k_asm); (case k3 => k_asm); (case k4 => k_asm); (case k5 => k_asm); (case kK => first | exact rfl | assumption); (case kd => ktr_room); (case ku => ktr_units); (case ki => exact trivial)); (case h1 => (first | assumption | omega | ((try dsimp only); omega) | ((try dsimp only); (simp (disch := decide) only [Int.fdiv_eq_ediv_of_nonneg, Int.fmod_eq_emod_of_nonneg]); omega) | trivial | (refine ⟨?_, ?_, ?_, ?_, ?_, ?_, ?_, ?_, ?_, ?_, ?_, ?_, ?_, ?_⟩ <;> first | assumption | omega) | decide | (exact decide_eq_true (by omega)) | k_extra "pre")); (case h2 => (first | assumption | omega | ((try dsimp only); omega) | ((try dsimp only); (simp (disch := decide) only [Int.fdiv_eq_ediv_of_nonneg, Int.fmod_eq_emod_of_nonneg]); omega) | trivial | (refine ⟨?_, ?_, ?_, ?_, ?_, ?_, ?_, ?_, ?_, ?_, ?_, ?_, ?_, ?_⟩ <;> first | assumption | omega) | decide | (exact decide_eq_true (by omega)) | k_extra "pre")); intro v9 n9 h9 tk9 F9 N9 R9; (try dsimp only at R9); (obtain ⟨f9, vs9, cap9, made9, e9, en9, hT9, hsub9, hne9⟩ := R9); (subst e9; subst en9); (try dsimp only); (try k_sweep); (try k_fold))
  k_with "eval Call Name" => (k_here; (with_reducible show wpAny _ _ (eval (Expr.Call (Expr.Name "lower_code" _) _ _ _) _) _ _ _); refine Call_ ?_)
  k_with "call ref" => (k_here; (with_reducible show wpAny _ _ (call (Value.ref 61) _) _ _ _); k_dflt (refine' pur_use (lower_code_c _ _ _) ?k1 ?k2 ?k3 ?k4 ?k5 ?kK ?kd ?ku ?_; (case k1 => k_asm); (case k2 => k_asm); (case k3 => k_asm); (case k4 => k_asm); (case k5 => k_asm); (case kK => first | exact rfl | assumption); (case kd => ktr_room); (case ku => ktr_units)); intro v9 h9 tk9 F9 N9 R9; (try dsimp only at R9); (obtain ⟨t9, e9⟩ := R9); (subst e9); (try dsimp only); (try k_sweep); (try k_fold))
  k_with "eval ListComp" => ((with_reducible show wpAny _ _ (eval (Expr.ListComp (Expr.Call (Expr.Name "chr" _) [Expr.Call (Expr.Name "lower_code" _) _ _ _] _ _) _ _ _) _) _ _ _); walk_at "NZ ECOMP")
  k_with "eval Call Name" => (k_here; (with_reducible show wpAny _ _ (eval (Expr.Call (Expr.Name "lower_text" _) _ _ _) _) _ _ _); refine Call_ ?_)
  k_with "call ref" => (k_here; (with_reducible show wpAny _ _ (call (Value.ref 66) _) _ _ _); k_dflt (refine' pur_use (lower_text_c _ _ _ ?h1 ?h2) ?k1 ?k2 ?k3 ?k4 ?k5 ?kK ?kd ?ku ?_; (case k1 => k_asm); (case k2 => k_asm); (case k3 => k_asm); (case k4 => k_asm); (case k5 => k_asm); (case kK => first | exact rfl | assumption); (case kd => ktr_room); (case ku => ktr_units)); (case h1 => (first | assumption | omega | ((try dsimp only); omega) | ((try dsimp only); (simp (disch := decide) only [Int.fdiv_eq_ediv_of_nonneg, Int.fmod_eq_emod_of_nonneg]); omega) | trivial | (refine ⟨?_, ?_, ?_, ?_, ?_, ?_, ?_, ?_, ?_, ?_, ?_, ?_, ?_, ?_⟩ <;> first | assumption | omega) | decide | (exact decide_eq_true (by omega)) | k_extra "pre")); (case h2 => (first | assumption | omega | ((try dsimp only); omega) | ((try dsimp only); (simp (disch := decide) only [Int.fdiv_eq_ediv_of_nonneg, Int.fmod_eq_emod_of_nonneg]); omega) | trivial | (refine ⟨?_, ?_, ?_, ?_, ?_, ?_, ?_, ?_, ?_, ?_, ?_, ?_, ?_, ?_⟩ <;> first | assumption | omega) | decide | (exact decide_eq_true (by omega)) | k_extra "pre")); intro v9 h9 tk9 F9 N9 R9; (try dsimp only at R9); (obtain ⟨t9, e9, hl9⟩ := R9); (subst e9); (try dsimp only); (try k_sweep); (try k_fold))
  trivial
theorem rows_42_24 : True := by
  k_with "eval Call Name" => (k_here; (with_reducible show wpAny _ _ (eval (Expr.Call (Expr.Name "without_comments" _) _ _ _) _) _ _ _); refine Call_ ?_)
  k_with "call ref" => (k_here; (with_reducible show wpAny _ _ (call (Value.ref 135) _) _ _ _); k_dflt (refine' spc_use (without_comments_c _ _ _ _ _ _) ?k1 ?k2 ?k3 ?k4 ?k5 ?kK ?kd ?ku ?ki ?_; (case k1 => k_asm); (case k2 => k_asm); (case k3 => k_asm); (case k4 => k_asm); (case k5 => k_asm); (case kK => first | exact rfl | assumption); (case kd => ktr_room); (case ku => ktr_units); (case ki => exact ⟨by k_mem, TkIn.mono (by assumption) (by walk_at "NZ SUB")⟩)); intro v9 n9 h9 tk9 F9 N9 R9; (try dsimp only at R9); (obtain ⟨d9, e9, en9, hd9⟩ := R9); (subst e9; subst en9); (try dsimp only); (try k_sweep); (try k_fold))
  trivial
abbrev rdObj (w : World) (k1 k2 k3 : Tok) (dl : Addr) (at' n : Int) (t1 t2 : Tok) : Obj :=
  dictOf [{ hash := PyData.keyHash w.params (Str.ofString "tokens"), key := Value.str (Str.ofString "tokens") k1, val := Value.ref dl }, { hash := PyData.keyHash w.params (Str.ofString "at"), key := Value.str (Str.ofString "at") k2, val := Value.int at' t1 }, { hash := PyData.keyHash w.params (Str.ofString "length"), key := Value.str (Str.ofString "length") k3, val := Value.int n t2 }] 3
/-- What stands round a reader: its list, its tokens, all off the reader's own dict. -/
structure Rdr (x : Array UInt8) (D : Int) (rest : List (Addr × Obj)) (vs : List Value) (rx dx dl : Addr) : Prop where
  ne : ∀ p ∈ rest, @Ne Nat p.1 dx
  lt : @LT.lt Nat _ dx rx
  gl : ((dl, { cls := .type "list", data := .seq vs.toArray vs.length }) : Addr × Obj) ∈ rest
  tk : TkIn x rest (dTk D) vs
theorem TkIn.get {x : Array UInt8} {rest : List (Addr × Obj)} {ts : List Tk} {vs : List Value} (h : TkIn x rest ts vs) : ∀ (n : Nat) (k : Tk), ts[n]? = some k → ∃ q t1 t2 t3, vs[n]? = some (.ref q) ∧ (q, tkObj x k t1 t2 t3) ∈ rest := by
  induction h with
  | nil => intro n k h; simp at h
  | cons hm _ ih =>
    intro n k h
    cases n with
    | zero =>
      simp only [List.getElem?_cons_zero, Option.some.injEq] at h
      subst h
      exact ⟨_, _, _, _, rfl, hm⟩
    | succ n =>
      simp only [List.getElem?_cons_succ] at h ⊢
      exact ih n k h
theorem Rdr.size {x : Array UInt8} {D : Int} {rest : List (Addr × Obj)} {vs : List Value} {rx dx dl : Addr} (h : Rdr x D rest vs rx dx dl) : vs.toArray.size = 11 := List.size_toArray.trans h.tk.len
theorem Rdr.at {x : Array UInt8} {D : Int} {rest : List (Addr × Obj)} {vs : List Value} {rx dx dl : Addr} (h : Rdr x D rest vs rx dx dl) {i : Int} {k : Tk} (hk : (dTk D)[i.toNat]? = some k) : vs.toArray.size = 11 ∧ ∃ q t1 t2 t3, vs.toArray[i.toNat]? = some (.ref q) ∧ (q, tkObj x k t1 t2 t3) ∈ rest := by
  refine ⟨List.size_toArray.trans h.tk.len, ?_⟩
  obtain ⟨q, t1, t2, t3, a, b⟩ := h.tk.get _ _ hk
  exact ⟨q, t1, t2, t3, by simpa using a, b⟩
/-- What a reader leaves: the reader's object, its dict, and the rest, in which its tokens stand. -/
theorem reader_c (w : World) (x : Array UInt8) (ks : List Int) (t : Tok) (D : Int) (hb : KBw.bInts x = ks) (hd : DateL ks D) : Spc w 14 (.ref 339) [.bytes x t] (fun _ => True)
    (fun news v news' => ∃ (rx dx dl : Addr) (vs : List Value) (rest : List (Addr × Obj)) (k1 k2 k3 u1 u2 : Tok), v = .ref rx ∧ news' = (rx, instObj 339 dx) :: (dx, rdObj w k1 k2 k3 dl 0 (ks.length : Int) u1 u2) :: rest ∧ (∀ p ∈ news, p ∈ rest) ∧ Rdr x D rest vs rx dx dl) := by
  (try unfold Pur)
  unfold Spc
  k_fill
  intro mean mg mb dp un gd cn cs aF ccd cl outer A₀ base h₀ LF mF news sF QF EF B F X N T hk hdp hun hin hret
  k_dflt (refine' call_cls ?k1 ?k2 ?k3 ?k4 ?k5 ?k6 ?_; (case k1 => k_asm); (case k2 => k_asm); (case k3 => k_asm); (case k4 => k_is); (case k5 => k_is); (case k6 => k_is); k_whole; intro x' d' h' F' N' l1 l2; (try k_lt l1); (try k_lt2 l2); (try k_sweep); cell_enter)
  (with_reducible rename Fr _ _ _ (fun nzy => List.lookup nzy _) => F0)
  replace F0 := fr_eq (m' := fun nzy => List.lookup nzy ([(Str.ofString "octets", Value.bytes x t), (Str.ofString "self", Value.ref x')] : List (Str × Value))) F0 (by kernel_rfl)
  have hl := hd.hl
  have hD := hd.hD
  k_with "setAttr ref" => ((with_reducible rename TkIn _ made9 _ _ => hT9); refine hold ?_)
  k_steps
  refine unhold ?_
  rename News _ _ _ _ => N2
  have N3 := news_drop (news := (x', instObj 339 d') :: (d', dictOf [] 0) :: (d9, ({ cls := Value.type "list", data := Data.seq vs9.toArray vs9.length } : Obj)) :: (made9 ++ news)) N2 (fun p hp => by
    simp only [List.mem_cons, List.mem_append] at hp ⊢
    rcases hp with h | h | h | h | h <;> simp [h])
  have q1 : @Ne Nat d' d9 := hd9 (d', dictOf [] 0) (.tail _ (List.mem_append_right _ (.tail _ (.head _))))
  have r1 : ∀ p ∈ (d9, ({ cls := Value.type "list", data := Data.seq vs9.toArray vs9.length } : Obj)) :: (made9 ++ news), @Ne Nat p.1 d' := by
    intro p hp
    rcases List.mem_cons.mp hp with rfl | hp
    · exact Ne.symm q1
    rcases List.mem_append.mp hp with hp | hp
    · exact Nat.ne_of_gt (hsub9 p hp (d', dictOf [] 0) (.tail _ (.head _)))
    · exact Nat.ne_of_lt (l1 p hp)
  have r3 : ∀ p ∈ news, p ∈ (d9, ({ cls := Value.type "list", data := Data.seq vs9.toArray vs9.length } : Obj)) :: (made9 ++ news) := fun p hp => .tail _ (List.mem_append_right _ hp)
  have r5 : TkIn x ((d9, ({ cls := Value.type "list", data := Data.seq vs9.toArray vs9.length } : Obj)) :: (made9 ++ news)) (dTk D) vs9 := hT9.mono fun p hp => .tail _ (List.mem_append_left _ hp)
  have r4 : (d9, ({ cls := Value.type "list", data := Data.seq vs9.toArray vs9.length } : Obj)) ∈ (d9, ({ cls := Value.type "list", data := Data.seq vs9.toArray vs9.length } : Obj)) :: (made9 ++ news) := .head _
  generalize (d9, ({ cls := Value.type "list", data := Data.seq vs9.toArray vs9.length } : Obj)) :: (made9 ++ news) = rest at N3 r1 r3 r4 r5
  clear N2 hd9 hne9 hsub9 hT9 q1
  k_steps
  refine' hret _ _ _ _ ?e2 ?e3 ⟨_, _, _, _, _, _, _, _, _, _, rfl, rfl, r3, r1, l2, r4, r5⟩
  case e2 => k_asm
  case e3 => k_asm
theorem rows_42_25 : True := by
  k_with_none
  k_with "NZ LOOK" => ((repeat (first | exact if_hit | refine if_miss (by kernel_rfl) ?_ | exact lk_hit | refine lk_miss (by kernel_rfl) ?_ | assumption)); done)
  k_with "ite" => (k_closed; first | (with_reducible refine ite_neg Bool.false_ne_true ?_) | (with_reducible refine ite_pos rfl ?_) | (with_reducible refine ite_neg (by decide +kernel) ?_) | (with_reducible refine ite_pos (by decide +kernel) ?_))
  k_with "subscriptTail" => ((with_reducible show wpAny _ _ (subscriptTail (Expr.Attribute _ _ _) _ _ _) _ _ _); walk_at "last subscriptTail")
  k_with "NZ SUB" => (intro p9 hp9; (repeat (first | exact hp9 | exact List.mem_append_left _ hp9 | (refine (‹∀ p : Addr × Obj, p ∈ _ → p ∈ _› p9 ?_); exact hp9) | refine List.Mem.tail _ ?_)))
  k_with "eval Name" => (k_here; (with_reducible rename Fr _ _ _ _ => kF); with_reducible (refine' nameX_K kF ?nzX ?nzT ?nze ?_ ?nzk ?nza ?nzb; (case nzX => assumption); (case nzT => k_asm); (case nze => k_is); (case nzk => first | exact rfl | assumption); (case nza => kernel_rfl); (case nzb => kernel_rfl); k_whole))
  k_with "eval Name" => (k_here; (with_reducible rename Fr _ _ _ _ => kF); with_reducible (refine' nameX_L kF ?nzv ?_ ?nzk ?nza ?nzb; (case nza => kernel_rfl!); (case nzv => walk_at "NZ LOOK"); (case nzk => first | exact rfl | assumption); (case nzb => kernel_rfl); k_whole))
  k_with "callWith ref" => (k_here; with_reducible (refine' cw_some ?nzx ?nzk ?_ ?nzhe ?nzhp; (case nzx => assumption); (case nzk => k_is); (case nzhe => kernel_rfl); (case nzhp => kernel_rfl); k_whole))
  k_with "callWith ref" => (k_here; with_reducible (refine' cw_none ?nzx ?nzF ?nzk ?_; (case nzx => assumption); (case nzF => assumption); (case nzk => k_is); k_whole))
  k_with "CompEnd" => (k_dflt (refine' end_same ?a1 ?a2 ?a3 ?a4 ?_; (case a1 => k_asm); (case a2 => k_asm); (case a3 => assumption); (case a4 => lcg_src)))
  k_with "NZ TUP" => (k_dflt (refine' GSrc.tup ?a1 ?a2 ?a3 ?a4 ?a5 ?_; (case a1 => rfl); (case a2 => k_asm); (case a3 => k_asm); (case a4 => first | exact Or.inr ⟨_, by k_mem, rfl, _, rfl⟩ | exact Or.inl (by assumption)); (case a5 => first | exact Nat.le_of_ble_eq_true rfl | size_fits)); intro g')
  k_with "NZ TURN" => (refine ⟨_, _, rfl, by k_asm, by (first | k_asm | (refine' news_drop ?cbN ?cbS; (case cbN => assumption); (case cbS => kcj_all))), ?_⟩)
  k_with "NZ ACOMP" => (k_here; k_dflt (refine Assign_ListComp_G (by k_asm) (by rfl) (by with_unfolding_all rfl) (by rfl) (by decide) (by rfl) (by decide) (by rfl) (by rfl) (by rfl) ?_))
  k_with "NZ ECOMP" => (k_here; k_dflt (refine ListComp_G (by k_asm) (by rfl) (by decide) (by rfl) (by decide) (by rfl) ?_))
  k_with "compareOp In int" => (k_here; (with_reducible show wpAny _ _ (compareOp CmpOp.In (Value.int _ _) (Value.bytes _ _)) _ _ _); (refine By.int_in_bytes (by omega) (by omega) ?_))
  k_with "compareOp In bytes" => (k_here; (with_reducible show wpAny _ _ (compareOp CmpOp.In (Value.bytes _ _) (Value.bytes _ _)) _ _ _); k_dflt (refine' By.bytes_in_bytes ?k1 ?k2 ?k3 ?_; (case k1 => rfl); (case k2 => k_asm); (case k3 => k_asm)); intro h9 tk9 F9 N9; (try k_sweep))
  k_with "exec Assign cons ListComp" => ((with_reducible show wpAny _ _ (exec (Stmt.Assign _ (Expr.ListComp (Expr.Call (Expr.Name "int" _) [Expr.Name "cell" _] _ _) _ _ _) _) _) _ _ _); walk_at "NZ ACOMP")
  k_with "call ref" => (k_here; (with_reducible show wpAny _ _ (call (Value.ref 407) _) _ _ _); k_dflt (refine' spcl_use (law_box_c _ _ _ _ ?h1 ?h2) ?k1 ?k2 ?k3 ?k4 ?k5 ?kK ?kd ?ku ?ki ?kL ?_; (case k1 => k_asm); (case k2 => k_asm); (case k3 => k_asm); (case k4 => k_asm); (case k5 => k_asm); (case kK => first | exact rfl | assumption); (case kd => ktr_room); (case ku => ktr_units); (case ki => exact trivial)); (case kL => with_reducible assumption); (case h1 => with_reducible assumption); (case h2 => omega); intro v9 n9 h9 tk9 F9 N9 R9; (try dsimp only at R9); (obtain ⟨p9, c9, ys9, ks9, cap9, cap29, g9, st9, t91, t92, t93, e9, en9, hy9, hk9, hg90, hg91, hs90, hs91, hcp9, hl9, ho9⟩ := R9); (subst e9; subst en9); (try simp only [AllLt, and_true] at hl9); (try simp only [LCg.Off1, and_true] at ho9); (try dsimp only); (try k_sweep); (try k_fold))
  k_with "call ref" => (k_here; (with_reducible show wpAny _ _ (call (Value.ref 414) _) _ _ _); (try walk_at "NZ SPLIT"); k_dflt (refine' draw_use ?k1 ?k2 ?k3 ?k4 ?k5 ?kK ?kd ?ku ?h1 ?h2 ?h3 ?h4 ?h5 ?h6 ?h7 ?h8 ?h9 ?h10 ?h11 ?h12 ?h13 ?_; (case k1 => k_asm); (case k2 => k_asm); (case k3 => k_asm); (case k4 => k_asm); (case k5 => k_asm); (case kK => first | exact rfl | assumption); (case kd => ktr_room); (case ku => ktr_units)); (case h1 => intro o9; k_upd); (case h2 => k_dflt k_mem); (case h3 => k_ne); (case h4 => with_reducible assumption); (case h5 => with_reducible assumption); (case h6 => with_reducible first | assumption | decide); (case h7 => with_reducible assumption); (case h8 => with_reducible assumption); (case h9 => with_reducible assumption); (case h10 => omega); (case h11 => omega); (case h12 => decide); (case h13 => decide); intro k9 t9 g9 st9 cap9 t91 t92 t93 h9 tk9 F9 N9 hk90 hk91 hg90 hg91 hs90 hs91; (try dsimp only at N9); (try dsimp only); (try k_sweep); (try k_fold))
  k_with "eval Call Name" => (k_here; (with_reducible show wpAny _ _ (eval (Expr.Call (Expr.Name "is_atom_code" _) _ _ _) _) _ _ _); refine Call_ ?_)
  k_with "call ref" => (k_here; (with_reducible show wpAny _ _ (call (Value.ref 74) _) _ _ _); k_dflt (refine' pur_use (is_atom_code_c _ _ _ ?h1) ?k1 ?k2 ?k3 ?k4 ?k5 ?kK ?kd ?ku ?_; (case k1 => k_asm); (case k2 => k_asm); (case k3 => k_asm); (case k4 => k_asm); (case k5 => k_asm); (case kK => first | exact rfl | assumption); (case kd => ktr_room); (case ku => ktr_units)); (case h1 => (first | assumption | omega | ((try dsimp only); omega) | ((try dsimp only); (simp (disch := decide) only [Int.fdiv_eq_ediv_of_nonneg, Int.fmod_eq_emod_of_nonneg]); omega) | trivial | (refine ⟨?_, ?_, ?_, ?_, ?_, ?_, ?_, ?_, ?_, ?_, ?_, ?_, ?_, ?_⟩ <;> first | assumption | omega) | decide | (exact decide_eq_true (by omega)) | k_extra "pre")); intro v9 h9 tk9 F9 N9 R9; (try dsimp only at R9); (subst R9); (try dsimp only); (try k_sweep); (try k_fold))
  k_with "eval Call Name" => (k_here; (with_reducible show wpAny _ _ (eval (Expr.Call (Expr.Name "line_end" _) _ _ _) _) _ _ _); refine Call_ ?_)
  k_with "call ref" => (k_here; (with_reducible show wpAny _ _ (call (Value.ref 81) _) _ _ _); k_dflt (refine' pur_use (line_end_c _ _ _ _ _ _ ?h1 ?h2 ?h3 ?h4 ?h5 ?h6) ?k1 ?k2 ?k3 ?k4 ?k5 ?kK ?kd ?ku ?_; (case k1 => k_asm); (case k2 => k_asm); (case k3 => k_asm); (case k4 => k_asm); (case k5 => k_asm); (case kK => first | exact rfl | assumption); (case kd => ktr_room); (case ku => ktr_units)); (case h1 => (first | assumption | omega | ((try dsimp only); omega) | ((try dsimp only); (simp (disch := decide) only [Int.fdiv_eq_ediv_of_nonneg, Int.fmod_eq_emod_of_nonneg]); omega) | trivial | (refine ⟨?_, ?_, ?_, ?_, ?_, ?_, ?_, ?_, ?_, ?_, ?_, ?_, ?_, ?_⟩ <;> first | assumption | omega) | decide | (exact decide_eq_true (by omega)) | k_extra "pre")); (case h2 => (first | assumption | omega | ((try dsimp only); omega) | ((try dsimp only); (simp (disch := decide) only [Int.fdiv_eq_ediv_of_nonneg, Int.fmod_eq_emod_of_nonneg]); omega) | trivial | (refine ⟨?_, ?_, ?_, ?_, ?_, ?_, ?_, ?_, ?_, ?_, ?_, ?_, ?_, ?_⟩ <;> first | assumption | omega) | decide | (exact decide_eq_true (by omega)) | k_extra "pre")); (case h3 => (first | assumption | omega | ((try dsimp only); omega) | ((try dsimp only); (simp (disch := decide) only [Int.fdiv_eq_ediv_of_nonneg, Int.fmod_eq_emod_of_nonneg]); omega) | trivial | (refine ⟨?_, ?_, ?_, ?_, ?_, ?_, ?_, ?_, ?_, ?_, ?_, ?_, ?_, ?_⟩ <;> first | assumption | omega) | decide | (exact decide_eq_true (by omega)) | k_extra "pre")); (case h4 => (first | assumption | omega | ((try dsimp only); omega) | ((try dsimp only); (simp (disch := decide) only [Int.fdiv_eq_ediv_of_nonneg, Int.fmod_eq_emod_of_nonneg]); omega) | trivial | (refine ⟨?_, ?_, ?_, ?_, ?_, ?_, ?_, ?_, ?_, ?_, ?_, ?_, ?_, ?_⟩ <;> first | assumption | omega) | decide | (exact decide_eq_true (by omega)) | k_extra "pre")); (case h5 => (first | assumption | omega | ((try dsimp only); omega) | ((try dsimp only); (simp (disch := decide) only [Int.fdiv_eq_ediv_of_nonneg, Int.fmod_eq_emod_of_nonneg]); omega) | trivial | (refine ⟨?_, ?_, ?_, ?_, ?_, ?_, ?_, ?_, ?_, ?_, ?_, ?_, ?_, ?_⟩ <;> first | assumption | omega) | decide | (exact decide_eq_true (by omega)) | k_extra "pre")); (case h6 => (first | assumption | omega | ((try dsimp only); omega) | ((try dsimp only); (simp (disch := decide) only [Int.fdiv_eq_ediv_of_nonneg, Int.fmod_eq_emod_of_nonneg]); omega) | trivial | (refine ⟨?_, ?_, ?_, ?_, ?_, ?_, ?_, ?_, ?_, ?_, ?_, ?_, ?_, ?_⟩ <;> first | assumption | omega) | decide | (exact decide_eq_true (by omega)) | k_extra "pre")); intro v9 h9 tk9 F9 N9 R9; (try dsimp only at R9); (obtain ⟨t9, e9⟩ := R9); (subst e9); (try dsimp only); (try k_sweep); (try k_fold))
  k_with "eval Call Name" => (k_here; (with_reducible show wpAny _ _ (eval (Expr.Call (Expr.Name "past_white" _) _ _ _) _) _ _ _); refine Call_ ?_)
  k_with "call ref" => (k_here; (with_reducible show wpAny _ _ (call (Value.ref 123) _) _ _ _); k_dflt (refine' pur_use (past_white_c _ _ _ _ _ _ _ ?h1 ?h2) ?k1 ?k2 ?k3 ?k4 ?k5 ?kK ?kd ?ku ?_; (case k1 => k_asm); (case k2 => k_asm); (case k3 => k_asm); (case k4 => k_asm); (case k5 => k_asm); (case kK => first | exact rfl | assumption); (case kd => ktr_room); (case ku => ktr_units)); (case h1 => (first | assumption | omega | ((try dsimp only); omega) | ((try dsimp only); (simp (disch := decide) only [Int.fdiv_eq_ediv_of_nonneg, Int.fmod_eq_emod_of_nonneg]); omega) | trivial | (refine ⟨?_, ?_, ?_, ?_, ?_, ?_, ?_, ?_, ?_, ?_, ?_, ?_, ?_, ?_⟩ <;> first | assumption | omega) | decide | (exact decide_eq_true (by omega)) | k_extra "pre")); (case h2 => (first | assumption | omega | ((try dsimp only); omega) | ((try dsimp only); (simp (disch := decide) only [Int.fdiv_eq_ediv_of_nonneg, Int.fmod_eq_emod_of_nonneg]); omega) | trivial | (refine ⟨?_, ?_, ?_, ?_, ?_, ?_, ?_, ?_, ?_, ?_, ?_, ?_, ?_, ?_⟩ <;> first | assumption | omega) | decide | (exact decide_eq_true (by omega)) | k_extra "pre")); intro v9 h9 tk9 F9 N9 R9; (try dsimp only at R9); (obtain ⟨t9, e9⟩ := R9); (subst e9); (try dsimp only); (try k_sweep); (try k_fold))
  k_with "eval Call Name" => (k_here; (with_reducible show wpAny _ _ (eval (Expr.Call (Expr.Name "atom_at" _) _ _ _) _) _ _ _); refine Call_ ?_)
  k_with "call ref" => (k_here; (with_reducible show wpAny _ _ (call (Value.ref 109) _) _ _ _); k_dflt (refine' spc_use (atom_at_c _ _ _ _ _ _ _ ?h1 ?h2) ?k1 ?k2 ?k3 ?k4 ?k5 ?kK ?kd ?ku ?ki ?_; (case k1 => k_asm); (case k2 => k_asm); (case k3 => k_asm); (case k4 => k_asm); (case k5 => k_asm); (case kK => first | exact rfl | assumption); (case kd => ktr_room); (case ku => ktr_units); (case ki => exact trivial)); (case h1 => (first | assumption | omega | ((try dsimp only); omega) | ((try dsimp only); (simp (disch := decide) only [Int.fdiv_eq_ediv_of_nonneg, Int.fmod_eq_emod_of_nonneg]); omega) | trivial | (refine ⟨?_, ?_, ?_, ?_, ?_, ?_, ?_, ?_, ?_, ?_, ?_, ?_, ?_, ?_⟩ <;> first | assumption | omega) | decide | (exact decide_eq_true (by omega)) | k_extra "pre")); (case h2 => (first | assumption | omega | ((try dsimp only); omega) | ((try dsimp only); (simp (disch := decide) only [Int.fdiv_eq_ediv_of_nonneg, Int.fmod_eq_emod_of_nonneg]); omega) | trivial | (refine ⟨?_, ?_, ?_, ?_, ?_, ?_, ?_, ?_, ?_, ?_, ?_, ?_, ?_, ?_⟩ <;> first | assumption | omega) | decide | (exact decide_eq_true (by omega)) | k_extra "pre")); intro v9 n9 h9 tk9 F9 N9 R9; (try dsimp only at R9); (obtain ⟨x9, t91, t92, e9, en9, hl9⟩ := R9); (subst e9; subst en9; (try simp only [AllLt, and_true] at hl9)); (try dsimp only); (try k_sweep); (try k_fold))
  k_with "eval Call Name" => (k_here; (with_reducible show wpAny _ _ (eval (Expr.Call (Expr.Name "token_at" _) _ _ _) _) _ _ _); refine Call_ ?_)
  k_with "call ref" => (k_here; (with_reducible show wpAny _ _ (call (Value.ref 116) _) _ _ _); k_dflt (refine' spc_use (token_a_c _ _ _ _ _ _ _ ?h1 ?h2) ?k1 ?k2 ?k3 ?k4 ?k5 ?kK ?kd ?ku ?ki ?_; (case k1 => k_asm); (case k2 => k_asm); (case k3 => k_asm); (case k4 => k_asm); (case k5 => k_asm); (case kK => first | exact rfl | assumption); (case kd => ktr_room); (case ku => ktr_units); (case ki => exact trivial)); (case h1 => (first | assumption | omega | ((try dsimp only); omega) | ((try dsimp only); (simp (disch := decide) only [Int.fdiv_eq_ediv_of_nonneg, Int.fmod_eq_emod_of_nonneg]); omega) | trivial | (refine ⟨?_, ?_, ?_, ?_, ?_, ?_, ?_, ?_, ?_, ?_, ?_, ?_, ?_, ?_⟩ <;> first | assumption | omega) | decide | (exact decide_eq_true (by omega)) | k_extra "pre")); (case h2 => (first | assumption | omega | ((try dsimp only); omega) | ((try dsimp only); (simp (disch := decide) only [Int.fdiv_eq_ediv_of_nonneg, Int.fmod_eq_emod_of_nonneg]); omega) | trivial | (refine ⟨?_, ?_, ?_, ?_, ?_, ?_, ?_, ?_, ?_, ?_, ?_, ?_, ?_, ?_⟩ <;> first | assumption | omega) | decide | (exact decide_eq_true (by omega)) | k_extra "pre")); intro v9 n9 h9 tk9 F9 N9 R9; (try dsimp only at R9); (obtain ⟨x9, y9, t91, t92, t93, t94, e9, en9, hl9, hm9⟩ := R9); (subst e9; subst en9; (try simp only [AllLt, and_true] at hl9); (replace hm9 := ltN hm9)); (try dsimp only); (try k_sweep); (try k_fold))
  k_with "eval Call Name" => (k_here; (with_reducible show wpAny _ _ (eval (Expr.Call (Expr.Name "token_at" _) _ _ _) _) _ _ _); refine Call_ ?_)
  k_with "call ref" => (k_here; (with_reducible show wpAny _ _ (call (Value.ref 116) _) _ _ _); k_dflt (refine' spc_use (token_s_c _ _ _ _ _ _ _ _ ?h1 ?h2) ?k1 ?k2 ?k3 ?k4 ?k5 ?kK ?kd ?ku ?ki ?_; (case k1 => k_asm); (case k2 => k_asm); (case k3 => k_asm); (case k4 => k_asm); (case k5 => k_asm); (case kK => first | exact rfl | assumption); (case kd => ktr_room); (case ku => ktr_units); (case ki => exact trivial)); (case h1 => (first | assumption | omega | ((try dsimp only); omega) | ((try dsimp only); (simp (disch := decide) only [Int.fdiv_eq_ediv_of_nonneg, Int.fmod_eq_emod_of_nonneg]); omega) | trivial | (refine ⟨?_, ?_, ?_, ?_, ?_, ?_, ?_, ?_, ?_, ?_, ?_, ?_, ?_, ?_⟩ <;> first | assumption | omega) | decide | (exact decide_eq_true (by omega)) | k_extra "pre")); (case h2 => (first | assumption | omega | ((try dsimp only); omega) | ((try dsimp only); (simp (disch := decide) only [Int.fdiv_eq_ediv_of_nonneg, Int.fmod_eq_emod_of_nonneg]); omega) | trivial | (refine ⟨?_, ?_, ?_, ?_, ?_, ?_, ?_, ?_, ?_, ?_, ?_, ?_, ?_, ?_⟩ <;> first | assumption | omega) | decide | (exact decide_eq_true (by omega)) | k_extra "pre")); intro v9 n9 h9 tk9 F9 N9 R9; (try dsimp only at R9); (obtain ⟨x9, y9, t91, t92, t93, t94, e9, en9, hl9, hm9⟩ := R9); (subst e9; subst en9; (try simp only [AllLt, and_true] at hl9); (replace hm9 := ltN hm9)); (try dsimp only); (try k_sweep); (try k_fold))
  k_with "eval Call Name" => (k_here; (with_reducible show wpAny _ _ (eval (Expr.Call (Expr.Name "token_at" _) _ _ _) _) _ _ _); refine Call_ ?_)
  k_with "call ref" => (k_here; (with_reducible show wpAny _ _ (call (Value.ref 116) _) _ _ _); k_dflt (refine' spc_use (token_c _ _ _ _ _ _ _ ?h1 ?h2 ?h3) ?k1 ?k2 ?k3 ?k4 ?k5 ?kK ?kd ?ku ?ki ?_; (case k1 => k_asm); (case k2 => k_asm); (case k3 => k_asm); (case k4 => k_asm); (case k5 => k_asm); (case kK => first | exact rfl | assumption); (case kd => ktr_room); (case ku => ktr_units); (case ki => exact trivial)); (case h1 => (first | assumption | omega | ((try dsimp only); omega) | ((try dsimp only); (simp (disch := decide) only [Int.fdiv_eq_ediv_of_nonneg, Int.fmod_eq_emod_of_nonneg]); omega) | trivial | (refine ⟨?_, ?_, ?_, ?_, ?_, ?_, ?_, ?_, ?_, ?_, ?_, ?_, ?_, ?_⟩ <;> first | assumption | omega) | decide | (exact decide_eq_true (by omega)) | k_extra "pre")); (case h2 => (first | assumption | omega | ((try dsimp only); omega) | ((try dsimp only); (simp (disch := decide) only [Int.fdiv_eq_ediv_of_nonneg, Int.fmod_eq_emod_of_nonneg]); omega) | trivial | (refine ⟨?_, ?_, ?_, ?_, ?_, ?_, ?_, ?_, ?_, ?_, ?_, ?_, ?_, ?_⟩ <;> first | assumption | omega) | decide | (exact decide_eq_true (by omega)) | k_extra "pre")); (case h3 => (first | assumption | omega | ((try dsimp only); omega) | ((try dsimp only); (simp (disch := decide) only [Int.fdiv_eq_ediv_of_nonneg, Int.fmod_eq_emod_of_nonneg]); omega) | trivial | (refine ⟨?_, ?_, ?_, ?_, ?_, ?_, ?_, ?_, ?_, ?_, ?_, ?_, ?_, ?_⟩ <;> first | assumption | omega) | decide | (exact decide_eq_true (by omega)) | k_extra "pre")); intro v9 n9 h9 tk9 F9 N9 R9; (try dsimp only at R9); (obtain ⟨x9, y9, t91, t92, t93, t94, e9, en9, hl9, hm9⟩ := R9); (subst e9; subst en9; (try simp only [AllLt, and_true] at hl9); (replace hm9 := ltN hm9)); (try dsimp only); (try k_sweep); (try k_fold))
  k_with "eval Call Name" => (k_here; (with_reducible show wpAny _ _ (eval (Expr.Call (Expr.Name "tokens_of" _) _ _ _) _) _ _ _); refine Call_ ?_)
  k_with "call ref" => (k_here; (with_reducible show wpAny _ _ (call (Value.ref 130) _) _ _ _); k_dflt (refine' spc_use (tokens_of_c _ _ _ _ _ ?h1 ?h2) ?k1 ?k2 ?k3 ?k4 ?k5 ?kK ?kd ?ku ?ki ?_; (case k1 => k_asm); (case k2 => k_asm); (case k3 => k_asm); (case k4 => k_asm); (case k5 => k_asm); (case kK => first | exact rfl | assumption); (case kd => ktr_room); (case ku => ktr_units); (case ki => exact trivial)); (case h1 => (first | assumption | omega | ((try dsimp only); omega) | ((try dsimp only); (simp (disch := decide) only [Int.fdiv_eq_ediv_of_nonneg, Int.fmod_eq_emod_of_nonneg]); omega) | trivial | (refine ⟨?_, ?_, ?_, ?_, ?_, ?_, ?_, ?_, ?_, ?_, ?_, ?_, ?_, ?_⟩ <;> first | assumption | omega) | decide | (exact decide_eq_true (by omega)) | k_extra "pre")); (case h2 => (first | assumption | omega | ((try dsimp only); omega) | ((try dsimp only); (simp (disch := decide) only [Int.fdiv_eq_ediv_of_nonneg, Int.fmod_eq_emod_of_nonneg]); omega) | trivial | (refine ⟨?_, ?_, ?_, ?_, ?_, ?_, ?_, ?_, ?_, ?_, ?_, ?_, ?_, ?_⟩ <;> first | assumption | omega) | decide | (exact decide_eq_true (by omega)) | k_extra "pre")); intro v9 n9 h9 tk9 F9 N9 R9; (try dsimp only at R9); (obtain ⟨f9, vs9, cap9, made9, e9, en9, hT9, hsub9, hne9⟩ := R9); (subst e9; subst en9); (try dsimp only); (try k_sweep); (try k_fold))
  k_with "eval Call Name" => (k_here; (with_reducible show wpAny _ _ (eval (Expr.Call (Expr.Name "lower_code" _) _ _ _) _) _ _ _); refine Call_ ?_)
  k_with "call ref" => (k_here; (with_reducible show wpAny _ _ (call (Value.ref 61) _) _ _ _); k_dflt (refine' pur_use (lower_code_c _ _ _) ?k1 ?k2 ?k3 ?k4 ?k5 ?kK ?kd ?ku ?_; (case k1 => k_asm); (case k2 => k_asm); (case k3 => k_asm); (case k4 => k_asm); (case k5 => k_asm); (case kK => first | exact rfl | assumption); (case kd => ktr_room); (case ku => ktr_units)); intro v9 h9 tk9 F9 N9 R9; (try dsimp only at R9); (obtain ⟨t9, e9⟩ := R9); (subst e9); (try dsimp only); (try k_sweep); (try k_fold))
  k_with "eval ListComp" => ((with_reducible show wpAny _ _ (eval (Expr.ListComp (Expr.Call (Expr.Name "chr" _) [Expr.Call (Expr.Name "lower_code" _) _ _ _] _ _) _ _ _) _) _ _ _); walk_at "NZ ECOMP")
  k_with "eval Call Name" => (k_here; (with_reducible show wpAny _ _ (eval (Expr.Call (Expr.Name "lower_text" _) _ _ _) _) _ _ _); refine Call_ ?_)
  k_with "call ref" => (k_here; (with_reducible show wpAny _ _ (call (Value.ref 66) _) _ _ _); k_dflt (refine' pur_use (lower_text_c _ _ _ ?h1 ?h2) ?k1 ?k2 ?k3 ?k4 ?k5 ?kK ?kd ?ku ?_; (case k1 => k_asm); (case k2 => k_asm); (case k3 => k_asm); (case k4 => k_asm); (case k5 => k_asm); (case kK => first | exact rfl | assumption); (case kd => ktr_room); (case ku => ktr_units)); (case h1 => (first | assumption | omega | ((try dsimp only); omega) | ((try dsimp only); (simp (disch := decide) only [Int.fdiv_eq_ediv_of_nonneg, Int.fmod_eq_emod_of_nonneg]); omega) | trivial | (refine ⟨?_, ?_, ?_, ?_, ?_, ?_, ?_, ?_, ?_, ?_, ?_, ?_, ?_, ?_⟩ <;> first | assumption | omega) | decide | (exact decide_eq_true (by omega)) | k_extra "pre")); (case h2 => (first | assumption | omega | ((try dsimp only); omega) | ((try dsimp only); (simp (disch := decide) only [Int.fdiv_eq_ediv_of_nonneg, Int.fmod_eq_emod_of_nonneg]); omega) | trivial | (refine ⟨?_, ?_, ?_, ?_, ?_, ?_, ?_, ?_, ?_, ?_, ?_, ?_, ?_, ?_⟩ <;> first | assumption | omega) | decide | (exact decide_eq_true (by omega)) | k_extra "pre")); intro v9 h9 tk9 F9 N9 R9; (try dsimp only at R9); (obtain ⟨t9, e9, hl9⟩ := R9); (subst e9); (try dsimp only); (try k_sweep); (try k_fold))
  k_with "eval Call Name" => (k_here; (with_reducible show wpAny _ _ (eval (Expr.Call (Expr.Name "without_comments" _) _ _ _) _) _ _ _); refine Call_ ?_)
  k_with "call ref" => (k_here; (with_reducible show wpAny _ _ (call (Value.ref 135) _) _ _ _); k_dflt (refine' spc_use (without_comments_c _ _ _ _ _ _) ?k1 ?k2 ?k3 ?k4 ?k5 ?kK ?kd ?ku ?ki ?_; (case k1 => k_asm); (case k2 => k_asm); (case k3 => k_asm); (case k4 => k_asm); (case k5 => k_asm); (case kK => first | exact rfl | assumption); (case kd => ktr_room); (case ku => ktr_units); (case ki => exact ⟨by k_mem, TkIn.mono (by assumption) (by walk_at "NZ SUB")⟩)); intro v9 n9 h9 tk9 F9 N9 R9; (try dsimp only at R9); (obtain ⟨d9, e9, en9, hd9⟩ := R9); (subst e9; subst en9); (try dsimp only); (try k_sweep); (try k_fold))
  trivial
theorem rows_42_26 : True := by
  k_with "eval Call Name" => (k_here; (with_reducible show wpAny _ _ (eval (Expr.Call (Expr.Name "DateReader" _) _ _ _) _) _ _ _); refine Call_ ?_)
  k_with "call ref" => (k_here; (with_reducible show wpAny _ _ (call (Value.ref 339) _) _ _ _); k_dflt (refine' spc_use (reader_c _ _ _ _ _ ?h1 ?h2) ?k1 ?k2 ?k3 ?k4 ?k5 ?kK ?kd ?ku ?ki ?_; (case k1 => k_asm); (case k2 => k_asm); (case k3 => k_asm); (case k4 => k_asm); (case k5 => k_asm); (case kK => first | exact rfl | assumption); (case kd => ktr_room); (case ku => ktr_units); (case ki => exact trivial)); (case h1 => (first | assumption | omega | ((try dsimp only); omega) | ((try dsimp only); (simp (disch := decide) only [Int.fdiv_eq_ediv_of_nonneg, Int.fmod_eq_emod_of_nonneg]); omega) | trivial | (refine ⟨?_, ?_, ?_, ?_, ?_, ?_, ?_, ?_, ?_, ?_, ?_, ?_, ?_, ?_⟩ <;> first | assumption | omega) | decide | (exact decide_eq_true (by omega)) | k_extra "pre")); (case h2 => (first | assumption | omega | ((try dsimp only); omega) | ((try dsimp only); (simp (disch := decide) only [Int.fdiv_eq_ediv_of_nonneg, Int.fmod_eq_emod_of_nonneg]); omega) | trivial | (refine ⟨?_, ?_, ?_, ?_, ?_, ?_, ?_, ?_, ?_, ?_, ?_, ?_, ?_, ?_⟩ <;> first | assumption | omega) | decide | (exact decide_eq_true (by omega)) | k_extra "pre")); intro v9 n9 h9 tk9 F9 N9 R9; (try dsimp only at R9); (obtain ⟨rx9, dx9, dl9, vs9, rest9, k91, k92, k93, u91, u92, e9, en9, hsub9, hR9⟩ := R9); (subst e9; subst en9; (have hx9 := ltN hR9.lt); (have hne9 := hR9.ne); (have gl9 := hR9.gl); (have hz9 := hR9.size)); (try dsimp only); (try k_sweep); (try k_fold))
  trivial

theorem filter_digits (x : Str) (h : ∀ c ∈ x.cps.toList, 48 ≤ c ∧ c ≤ 57) : List.filter (fun a : Str => if (!decide (a.cps.toList < (Str.ofString "0").cps.toList)) = true then !!decide ((Str.ofString "9").cps.toList < a.cps.toList) else !false) (signs x) = [] := by
  rw [List.filter_eq_nil_iff]
  intro a ha
  simp only [signs, List.mem_map] at ha
  obtain ⟨c, hc, rfl⟩ := ha
  have := h c hc
  have e0 : (Str.ofString "0").cps.toList = [48] := by decide +kernel
  have e9 : (Str.ofString "9").cps.toList = [57] := by decide +kernel
  rw [e0, e9]
  simp only [List.cons_lt_cons_iff]
  simp; omega
theorem is_figures_c (w : World) (x : Str) (t : Tok) (h0 : 1 ≤ x.length) (hl : x.length ≤ 100) (h : ∀ c ∈ x.cps.toList, 48 ≤ c ∧ c ≤ 57) : Pur w 10 (.ref 277) [.str x t] (fun v => v = .bool true) := by
  (try unfold Pur)
  unfold Spc
  k_fill
  intro mean mg mb dp un gd cn cs aF ccd cl outer A₀ base h₀ LF mF news sF QF EF B F X N T hk hdp hun hin hret
  refine wpAny_call ?_
  k_dflt cell_enter
  (with_reducible rename Fr _ _ _ (fun nzy => List.lookup nzy _) => F0)
  replace F0 := fr_eq (m' := fun nzy => List.lookup nzy ([(Str.ofString "text", Value.str x t)] : List (Str × Value))) F0 (by kernel_rfl)
  k_steps
  · have hC := ‹CarriedAll _ _›
    rw [filter_digits x h] at hC
    have e9 := CarriedAll.length_eq hC
    have e8 := List.eq_nil_of_length_eq_zero e9
    subst e8
    refine eq_intsK (ns := []) (ms := []) (by is_list) .nil (by is_list) .nil (by ktr_units) ?_
    k_steps
    all_goals (refine' hret _ _ _ _ ?e2 ?e3 (⟨rfl, rfl⟩); (case e2 => k_asm); (case e3 => (first | k_asm | (refine' news_drop ?cbN ?cbS; (case cbN => assumption); (case cbS => kcj_all)))))
  · exfalso
    have : x = Str.ofString "" := by
      have hb := ‹(x != Str.ofString "") = false›
      simpa using hb
    rw [this] at h0
    exact absurd h0 (by decide +kernel)
theorem rows_32_27 : True := by
  k_with "eval Call Name" => (k_here; (with_reducible show wpAny _ _ (eval (Expr.Call (Expr.Name "is_figures" _) _ _ _) _) _ _ _); refine Call_ ?_)
  k_with "call ref" => (k_here; (with_reducible show wpAny _ _ (call (Value.ref 277) _) _ _ _); k_dflt (refine' pur_use (is_figures_c _ _ _ ?h1 ?h2 ?h3) ?k1 ?k2 ?k3 ?k4 ?k5 ?kK ?kd ?ku ?_; (case k1 => k_asm); (case k2 => k_asm); (case k3 => k_asm); (case k4 => k_asm); (case k5 => k_asm); (case kK => first | exact rfl | assumption); (case kd => ktr_room); (case ku => ktr_units)); (case h1 => (first | assumption | omega | ((try dsimp only); omega) | ((try dsimp only); (simp (disch := decide) only [Int.fdiv_eq_ediv_of_nonneg, Int.fmod_eq_emod_of_nonneg]); omega) | trivial | (refine ⟨?_, ?_, ?_, ?_, ?_, ?_, ?_, ?_, ?_, ?_, ?_, ?_, ?_, ?_⟩ <;> first | assumption | omega) | decide | (exact decide_eq_true (by omega)) | k_extra "pre")); (case h2 => (first | assumption | omega | ((try dsimp only); omega) | ((try dsimp only); (simp (disch := decide) only [Int.fdiv_eq_ediv_of_nonneg, Int.fmod_eq_emod_of_nonneg]); omega) | trivial | (refine ⟨?_, ?_, ?_, ?_, ?_, ?_, ?_, ?_, ?_, ?_, ?_, ?_, ?_, ?_⟩ <;> first | assumption | omega) | decide | (exact decide_eq_true (by omega)) | k_extra "pre")); (case h3 => (first | assumption | omega | ((try dsimp only); omega) | ((try dsimp only); (simp (disch := decide) only [Int.fdiv_eq_ediv_of_nonneg, Int.fmod_eq_emod_of_nonneg]); omega) | trivial | (refine ⟨?_, ?_, ?_, ?_, ?_, ?_, ?_, ?_, ?_, ?_, ?_, ?_, ?_, ?_⟩ <;> first | assumption | omega) | decide | (exact decide_eq_true (by omega)) | k_extra "pre")); intro v9 h9 tk9 F9 N9 R9; (try dsimp only at R9); (subst R9); (try dsimp only); (try k_sweep); (try k_fold))
  trivial

section
variable {prog : Program} {w : World} {A : Around} {E : Value → Shared → Prop} {s : Shared} {h₀ : Heap} {L : Addr} {m : Str → Option Value} {env : Env}
theorem GSrc.byt {elt : Expr} {x : Str} {scope : Scope} {cl : List (Str × Addr)} {Fin : Shared → List Value → List (Addr × Obj) → Prop} {b : Array UInt8} {t : Tok} {news : List (Addr × Obj)} {s₁ : Shared}
    (hh : A.handled = none) (F : Fr h₀ L s₁.heap m) (N : News h₀ L s₁.heap news) (hsz : b.size ≤ sizeLine)
    (h : ∀ g, LCg.CompRest prog w A h₀ L m env elt x scope cl { s₁ with heap := g } (fun _ => True) (fun i v => ∃ c u, b[i]? = some c ∧ v = .int ((c : UInt8).toNat : Int) u) (Fin { s₁ with heap := g }) b.size 0 [] news) :
    GSrc prog w A h₀ L m env elt x scope cl Fin (.bytes b t) s₁ := by
  refine ⟨b.size, fun i v => ∃ c u, b[i]? = some c ∧ v = .int ((c : UInt8).toNat : Int) u, fun _ => True, news, F, N, hsz, trivial, ?_, fun s₂ ⟨g, e⟩ => e ▸ h g⟩
  intro Q E hQ
  have st : ∀ i (h h' : Heap) (o : Obj), KBw.IsBytesIter h s₁.heap.objs.size b t i → h.get? s₁.heap.objs.size = some o → h'.get? s₁.heap.objs.size = some o → KBw.IsBytesIter h' s₁.heap.objs.size b t i := by
    rintro i h h' o ⟨o', q, r⟩ e e'
    rw [e] at q; cases q
    exact ⟨o, e', r⟩
  exact KBw.pyIter_bytes (hQ _ _ _ (KBw.walks hh _ b t) (fun i h ⟨o, e, _⟩ => ⟨o, e⟩) (fun i h h' o nw a b c _ _ _ => st i h h' o a b c) ⟨_, Heap.get?_push_size _ rfl, rfl, rfl⟩ (fun b hb => by rw [List.mem_singleton.mp hb, Heap.size_push]; exact Nat.lt_succ_self _))
end
def idN (c : Nat) : Nat := ((c : Int)).toNat
theorem map_idN (l : List Nat) : l.map idN = l := by
  have : idN = id := by funext c; simp [idN]
  rw [this, List.map_id]
theorem rows_43_28 : True := by
  k_with "eval ListComp" => ((with_reducible show wpAny _ _ (eval (Expr.ListComp (Expr.Call (Expr.Name "chr" _) [Expr.Name "code" _] _ _) _ _ _) _) _ _ _); walk_at "NZ ECOMP")
  trivial
/-- The reader as it stands in a ledger: at place i, all else as in `rest`. -/
def RdS (w : World) (rx dx dl : Addr) (ln : Int) (rest : List (Addr × Obj)) (i : Int) (news : List (Addr × Obj)) : Prop :=
  ∃ k1 k2 k3 u1 u2, (rx, instObj 339 dx) ∈ news ∧ (dx, rdObj w k1 k2 k3 dl i ln u1 u2) ∈ news ∧ ∀ p ∈ rest, p ∈ news
def asc (b : Array UInt8) : Str := ⟨(b.toList.map (·.toNat)).toArray⟩
abbrev pkd (x : Array UInt8) (p q : Int) : Array UInt8 := KBy.picked x (some p) (some q)
theorem atom_c (w : World) (x : Array UInt8) (D : Int) (rest : List (Addr × Obj)) (vs : List Value) (rx dx dl : Addr) (ln i p q : Int) (hR : Rdr x D rest vs rx dx dl) (htk : (dTk D)[i.toNat]? = some (.a p q)) (hi : 0 ≤ i) (hn : i < 11) (hs : (pkd x p q).size ≤ 100) (ha : ∀ c ∈ (pkd x p q).toList, c.toNat < 128) :
    Spc w 4 (.ref 315) [.ref rx] (RdS w rx dx dl ln rest i) (fun news v news' => news' = news ∧ ∃ t, v = .str (asc (pkd x p q)) t) := by
  (try unfold Pur)
  unfold Spc
  k_fill
  intro mean mg mb dp un gd cn cs aF ccd cl outer A₀ base h₀ LF mF news sF QF EF B F X N T hk hdp hun hin hret
  refine wpAny_call ?_
  k_dflt cell_enter
  (with_reducible rename Fr _ _ _ (fun nzy => List.lookup nzy _) => F0)
  replace F0 := fr_eq (m' := fun nzy => List.lookup nzy ([(Str.ofString "self", Value.ref rx)] : List (Str × Value))) F0 (by kernel_rfl)
  obtain ⟨k1, k2, k3, u1, u2, g1, g2, gs⟩ := hin
  obtain ⟨hz, qa, z1, z2, z3, hit, g4⟩ := hR.at htk
  replace g4 := gs _ g4
  have g3 := gs _ hR.gl
  replace g4 : ((qa, { cls := .type "tuple", data := .seq #[.str (Str.ofString "atom") z1, .bytes (pkd x p q) z2, .int p z3] }) : Addr × Obj) ∈ news := g4
  clear hR htk gs
  generalize pkd x p q = b at hs ha g4 hret ⊢
  k_with "subscriptTail" => (k_here; (with_reducible show wpAny _ _ (subscriptTail (Expr.Name _ _) (Expr.Attribute _ _ _) (Value.ref _) (Value.int _ _)) _ _ _); k_dflt (refine PyProof.Rows.item_list (News.isList (by k_asm) (by k_mem)) (by omega) (by omega) (by assumption) ?_))
  k_with "subscriptTail" => (k_here; (with_reducible show wpAny _ _ (subscriptTail _ (Expr.Constant _ _ _) (Value.ref _) (Value.int _ _)) _ _ _); k_dflt (refine' item_tupleT ?t ?a ?b ?c ?d ?_; (case t => exact News.isTup (by k_asm) (by k_mem)); (case a => decide); (case b => decide); (case c => rfl); (case d => rfl); k_whole))
  k_steps
  k_dflt (refine' GSrc.byt ?a1 ?a2 ?a3 ?a4 ?a5; (case a1 => rfl); (case a2 => k_asm); (case a3 => k_asm); (case a4 => (rw [sizeLine_eq]; omega)))
  intro g'
  refine rest_gen (b.toList.map (·.toNat)) (fun (c : Nat) v => ∃ t, v = .int (c : Int) t) (fun c v => ∃ t, v = .str ⟨#[idN c]⟩ t) trivial (by simp) ?_ ?_ ?_
  · intro i v hv
    obtain ⟨c, u, hc, rfl⟩ := hv
    exact ⟨c.toNat, by simp [hc], u, rfl⟩
  · intro c v I oI C oC D m₂ ys h tk E' hd hv hC hx F N off ne
    obtain ⟨t, rfl⟩ := hv
    k_fold
    have hc : c < 128 := by
      obtain ⟨c', h1, rfl⟩ := List.mem_map.mp hd
      exact ha c' h1
    have hb1 : 0 ≤ (c : Int) := by omega
    have hb2 : (c : Int) < 1000 := by omega
    k_steps
    all_goals first | k_asm | trace_state
  · intro ys hy
    have hS := each_strs _ hy
    k_steps
    refine join_listW (News.isList (by k_asm) (by k_mem)) (by exact hS) (by decide) ?_ ?_
    · simp only [sum_ones, List.length_map, Array.length_toList]
      omega
    intro t' k'
    k_steps
    have e : Txt.join (Str.ofString "") ((b.toList.map (·.toNat)).map fun c => (⟨#[idN c]⟩ : Str)) = asc b := by
      refine Str.ext' ?_
      rw [← Array.toList_inj, join_signs, map_idN]
      rfl
    rw [e]
    all_goals (refine' hret _ _ _ _ ?e2 ?e3 (⟨rfl, _, rfl⟩); (case e2 => k_asm); (case e3 => (first | k_asm | (refine' news_drop ?cbN ?cbS; (case cbN => assumption); (case cbS => kcj_all)))))
theorem rows_43_29 : True := by
  k_with_none
  k_with "NZ LOOK" => ((repeat (first | exact if_hit | refine if_miss (by kernel_rfl) ?_ | exact lk_hit | refine lk_miss (by kernel_rfl) ?_ | assumption)); done)
  k_with "ite" => (k_closed; first | (with_reducible refine ite_neg Bool.false_ne_true ?_) | (with_reducible refine ite_pos rfl ?_) | (with_reducible refine ite_neg (by decide +kernel) ?_) | (with_reducible refine ite_pos (by decide +kernel) ?_))
  k_with "subscriptTail" => ((with_reducible show wpAny _ _ (subscriptTail (Expr.Attribute _ _ _) _ _ _) _ _ _); walk_at "last subscriptTail")
  k_with "NZ SUB" => (intro p9 hp9; (repeat (first | exact hp9 | exact List.mem_append_left _ hp9 | (refine (‹∀ p : Addr × Obj, p ∈ _ → p ∈ _› p9 ?_); exact hp9) | refine List.Mem.tail _ ?_)))
  k_with "eval Name" => (k_here; (with_reducible rename Fr _ _ _ _ => kF); with_reducible (refine' nameX_K kF ?nzX ?nzT ?nze ?_ ?nzk ?nza ?nzb; (case nzX => assumption); (case nzT => k_asm); (case nze => k_is); (case nzk => first | exact rfl | assumption); (case nza => kernel_rfl); (case nzb => kernel_rfl); k_whole))
  k_with "eval Name" => (k_here; (with_reducible rename Fr _ _ _ _ => kF); with_reducible (refine' nameX_L kF ?nzv ?_ ?nzk ?nza ?nzb; (case nza => kernel_rfl!); (case nzv => walk_at "NZ LOOK"); (case nzk => first | exact rfl | assumption); (case nzb => kernel_rfl); k_whole))
  k_with "callWith ref" => (k_here; with_reducible (refine' cw_some ?nzx ?nzk ?_ ?nzhe ?nzhp; (case nzx => assumption); (case nzk => k_is); (case nzhe => kernel_rfl); (case nzhp => kernel_rfl); k_whole))
  k_with "callWith ref" => (k_here; with_reducible (refine' cw_none ?nzx ?nzF ?nzk ?_; (case nzx => assumption); (case nzF => assumption); (case nzk => k_is); k_whole))
  k_with "CompEnd" => (k_dflt (refine' end_same ?a1 ?a2 ?a3 ?a4 ?_; (case a1 => k_asm); (case a2 => k_asm); (case a3 => assumption); (case a4 => lcg_src)))
  k_with "NZ TUP" => (k_dflt (refine' GSrc.tup ?a1 ?a2 ?a3 ?a4 ?a5 ?_; (case a1 => rfl); (case a2 => k_asm); (case a3 => k_asm); (case a4 => first | exact Or.inr ⟨_, by k_mem, rfl, _, rfl⟩ | exact Or.inl (by assumption)); (case a5 => first | exact Nat.le_of_ble_eq_true rfl | size_fits)); intro g')
  k_with "NZ TURN" => (refine ⟨_, _, rfl, by k_asm, by (first | k_asm | (refine' news_drop ?cbN ?cbS; (case cbN => assumption); (case cbS => kcj_all))), ?_⟩)
  k_with "NZ ACOMP" => (k_here; k_dflt (refine Assign_ListComp_G (by k_asm) (by rfl) (by with_unfolding_all rfl) (by rfl) (by decide) (by rfl) (by decide) (by rfl) (by rfl) (by rfl) ?_))
  k_with "NZ ECOMP" => (k_here; k_dflt (refine ListComp_G (by k_asm) (by rfl) (by decide) (by rfl) (by decide) (by rfl) ?_))
  k_with "compareOp In int" => (k_here; (with_reducible show wpAny _ _ (compareOp CmpOp.In (Value.int _ _) (Value.bytes _ _)) _ _ _); (refine By.int_in_bytes (by omega) (by omega) ?_))
  k_with "compareOp In bytes" => (k_here; (with_reducible show wpAny _ _ (compareOp CmpOp.In (Value.bytes _ _) (Value.bytes _ _)) _ _ _); k_dflt (refine' By.bytes_in_bytes ?k1 ?k2 ?k3 ?_; (case k1 => rfl); (case k2 => k_asm); (case k3 => k_asm)); intro h9 tk9 F9 N9; (try k_sweep))
  k_with "exec Assign cons ListComp" => ((with_reducible show wpAny _ _ (exec (Stmt.Assign _ (Expr.ListComp (Expr.Call (Expr.Name "int" _) [Expr.Name "cell" _] _ _) _ _ _) _) _) _ _ _); walk_at "NZ ACOMP")
  k_with "call ref" => (k_here; (with_reducible show wpAny _ _ (call (Value.ref 407) _) _ _ _); k_dflt (refine' spcl_use (law_box_c _ _ _ _ ?h1 ?h2) ?k1 ?k2 ?k3 ?k4 ?k5 ?kK ?kd ?ku ?ki ?kL ?_; (case k1 => k_asm); (case k2 => k_asm); (case k3 => k_asm); (case k4 => k_asm); (case k5 => k_asm); (case kK => first | exact rfl | assumption); (case kd => ktr_room); (case ku => ktr_units); (case ki => exact trivial)); (case kL => with_reducible assumption); (case h1 => with_reducible assumption); (case h2 => omega); intro v9 n9 h9 tk9 F9 N9 R9; (try dsimp only at R9); (obtain ⟨p9, c9, ys9, ks9, cap9, cap29, g9, st9, t91, t92, t93, e9, en9, hy9, hk9, hg90, hg91, hs90, hs91, hcp9, hl9, ho9⟩ := R9); (subst e9; subst en9); (try simp only [AllLt, and_true] at hl9); (try simp only [LCg.Off1, and_true] at ho9); (try dsimp only); (try k_sweep); (try k_fold))
  k_with "call ref" => (k_here; (with_reducible show wpAny _ _ (call (Value.ref 414) _) _ _ _); (try walk_at "NZ SPLIT"); k_dflt (refine' draw_use ?k1 ?k2 ?k3 ?k4 ?k5 ?kK ?kd ?ku ?h1 ?h2 ?h3 ?h4 ?h5 ?h6 ?h7 ?h8 ?h9 ?h10 ?h11 ?h12 ?h13 ?_; (case k1 => k_asm); (case k2 => k_asm); (case k3 => k_asm); (case k4 => k_asm); (case k5 => k_asm); (case kK => first | exact rfl | assumption); (case kd => ktr_room); (case ku => ktr_units)); (case h1 => intro o9; k_upd); (case h2 => k_dflt k_mem); (case h3 => k_ne); (case h4 => with_reducible assumption); (case h5 => with_reducible assumption); (case h6 => with_reducible first | assumption | decide); (case h7 => with_reducible assumption); (case h8 => with_reducible assumption); (case h9 => with_reducible assumption); (case h10 => omega); (case h11 => omega); (case h12 => decide); (case h13 => decide); intro k9 t9 g9 st9 cap9 t91 t92 t93 h9 tk9 F9 N9 hk90 hk91 hg90 hg91 hs90 hs91; (try dsimp only at N9); (try dsimp only); (try k_sweep); (try k_fold))
  k_with "eval Call Name" => (k_here; (with_reducible show wpAny _ _ (eval (Expr.Call (Expr.Name "is_atom_code" _) _ _ _) _) _ _ _); refine Call_ ?_)
  k_with "call ref" => (k_here; (with_reducible show wpAny _ _ (call (Value.ref 74) _) _ _ _); k_dflt (refine' pur_use (is_atom_code_c _ _ _ ?h1) ?k1 ?k2 ?k3 ?k4 ?k5 ?kK ?kd ?ku ?_; (case k1 => k_asm); (case k2 => k_asm); (case k3 => k_asm); (case k4 => k_asm); (case k5 => k_asm); (case kK => first | exact rfl | assumption); (case kd => ktr_room); (case ku => ktr_units)); (case h1 => (first | assumption | omega | ((try dsimp only); omega) | ((try dsimp only); (simp (disch := decide) only [Int.fdiv_eq_ediv_of_nonneg, Int.fmod_eq_emod_of_nonneg]); omega) | trivial | (refine ⟨?_, ?_, ?_, ?_, ?_, ?_, ?_, ?_, ?_, ?_, ?_, ?_, ?_, ?_⟩ <;> first | assumption | omega) | decide | (exact decide_eq_true (by omega)) | k_extra "pre")); intro v9 h9 tk9 F9 N9 R9; (try dsimp only at R9); (subst R9); (try dsimp only); (try k_sweep); (try k_fold))
  k_with "eval Call Name" => (k_here; (with_reducible show wpAny _ _ (eval (Expr.Call (Expr.Name "line_end" _) _ _ _) _) _ _ _); refine Call_ ?_)
  k_with "call ref" => (k_here; (with_reducible show wpAny _ _ (call (Value.ref 81) _) _ _ _); k_dflt (refine' pur_use (line_end_c _ _ _ _ _ _ ?h1 ?h2 ?h3 ?h4 ?h5 ?h6) ?k1 ?k2 ?k3 ?k4 ?k5 ?kK ?kd ?ku ?_; (case k1 => k_asm); (case k2 => k_asm); (case k3 => k_asm); (case k4 => k_asm); (case k5 => k_asm); (case kK => first | exact rfl | assumption); (case kd => ktr_room); (case ku => ktr_units)); (case h1 => (first | assumption | omega | ((try dsimp only); omega) | ((try dsimp only); (simp (disch := decide) only [Int.fdiv_eq_ediv_of_nonneg, Int.fmod_eq_emod_of_nonneg]); omega) | trivial | (refine ⟨?_, ?_, ?_, ?_, ?_, ?_, ?_, ?_, ?_, ?_, ?_, ?_, ?_, ?_⟩ <;> first | assumption | omega) | decide | (exact decide_eq_true (by omega)) | k_extra "pre")); (case h2 => (first | assumption | omega | ((try dsimp only); omega) | ((try dsimp only); (simp (disch := decide) only [Int.fdiv_eq_ediv_of_nonneg, Int.fmod_eq_emod_of_nonneg]); omega) | trivial | (refine ⟨?_, ?_, ?_, ?_, ?_, ?_, ?_, ?_, ?_, ?_, ?_, ?_, ?_, ?_⟩ <;> first | assumption | omega) | decide | (exact decide_eq_true (by omega)) | k_extra "pre")); (case h3 => (first | assumption | omega | ((try dsimp only); omega) | ((try dsimp only); (simp (disch := decide) only [Int.fdiv_eq_ediv_of_nonneg, Int.fmod_eq_emod_of_nonneg]); omega) | trivial | (refine ⟨?_, ?_, ?_, ?_, ?_, ?_, ?_, ?_, ?_, ?_, ?_, ?_, ?_, ?_⟩ <;> first | assumption | omega) | decide | (exact decide_eq_true (by omega)) | k_extra "pre")); (case h4 => (first | assumption | omega | ((try dsimp only); omega) | ((try dsimp only); (simp (disch := decide) only [Int.fdiv_eq_ediv_of_nonneg, Int.fmod_eq_emod_of_nonneg]); omega) | trivial | (refine ⟨?_, ?_, ?_, ?_, ?_, ?_, ?_, ?_, ?_, ?_, ?_, ?_, ?_, ?_⟩ <;> first | assumption | omega) | decide | (exact decide_eq_true (by omega)) | k_extra "pre")); (case h5 => (first | assumption | omega | ((try dsimp only); omega) | ((try dsimp only); (simp (disch := decide) only [Int.fdiv_eq_ediv_of_nonneg, Int.fmod_eq_emod_of_nonneg]); omega) | trivial | (refine ⟨?_, ?_, ?_, ?_, ?_, ?_, ?_, ?_, ?_, ?_, ?_, ?_, ?_, ?_⟩ <;> first | assumption | omega) | decide | (exact decide_eq_true (by omega)) | k_extra "pre")); (case h6 => (first | assumption | omega | ((try dsimp only); omega) | ((try dsimp only); (simp (disch := decide) only [Int.fdiv_eq_ediv_of_nonneg, Int.fmod_eq_emod_of_nonneg]); omega) | trivial | (refine ⟨?_, ?_, ?_, ?_, ?_, ?_, ?_, ?_, ?_, ?_, ?_, ?_, ?_, ?_⟩ <;> first | assumption | omega) | decide | (exact decide_eq_true (by omega)) | k_extra "pre")); intro v9 h9 tk9 F9 N9 R9; (try dsimp only at R9); (obtain ⟨t9, e9⟩ := R9); (subst e9); (try dsimp only); (try k_sweep); (try k_fold))
  k_with "eval Call Name" => (k_here; (with_reducible show wpAny _ _ (eval (Expr.Call (Expr.Name "past_white" _) _ _ _) _) _ _ _); refine Call_ ?_)
  k_with "call ref" => (k_here; (with_reducible show wpAny _ _ (call (Value.ref 123) _) _ _ _); k_dflt (refine' pur_use (past_white_c _ _ _ _ _ _ _ ?h1 ?h2) ?k1 ?k2 ?k3 ?k4 ?k5 ?kK ?kd ?ku ?_; (case k1 => k_asm); (case k2 => k_asm); (case k3 => k_asm); (case k4 => k_asm); (case k5 => k_asm); (case kK => first | exact rfl | assumption); (case kd => ktr_room); (case ku => ktr_units)); (case h1 => (first | assumption | omega | ((try dsimp only); omega) | ((try dsimp only); (simp (disch := decide) only [Int.fdiv_eq_ediv_of_nonneg, Int.fmod_eq_emod_of_nonneg]); omega) | trivial | (refine ⟨?_, ?_, ?_, ?_, ?_, ?_, ?_, ?_, ?_, ?_, ?_, ?_, ?_, ?_⟩ <;> first | assumption | omega) | decide | (exact decide_eq_true (by omega)) | k_extra "pre")); (case h2 => (first | assumption | omega | ((try dsimp only); omega) | ((try dsimp only); (simp (disch := decide) only [Int.fdiv_eq_ediv_of_nonneg, Int.fmod_eq_emod_of_nonneg]); omega) | trivial | (refine ⟨?_, ?_, ?_, ?_, ?_, ?_, ?_, ?_, ?_, ?_, ?_, ?_, ?_, ?_⟩ <;> first | assumption | omega) | decide | (exact decide_eq_true (by omega)) | k_extra "pre")); intro v9 h9 tk9 F9 N9 R9; (try dsimp only at R9); (obtain ⟨t9, e9⟩ := R9); (subst e9); (try dsimp only); (try k_sweep); (try k_fold))
  k_with "eval Call Name" => (k_here; (with_reducible show wpAny _ _ (eval (Expr.Call (Expr.Name "atom_at" _) _ _ _) _) _ _ _); refine Call_ ?_)
  k_with "call ref" => (k_here; (with_reducible show wpAny _ _ (call (Value.ref 109) _) _ _ _); k_dflt (refine' spc_use (atom_at_c _ _ _ _ _ _ _ ?h1 ?h2) ?k1 ?k2 ?k3 ?k4 ?k5 ?kK ?kd ?ku ?ki ?_; (case k1 => k_asm); (case k2 => k_asm); (case k3 => k_asm); (case k4 => k_asm); (case k5 => k_asm); (case kK => first | exact rfl | assumption); (case kd => ktr_room); (case ku => ktr_units); (case ki => exact trivial)); (case h1 => (first | assumption | omega | ((try dsimp only); omega) | ((try dsimp only); (simp (disch := decide) only [Int.fdiv_eq_ediv_of_nonneg, Int.fmod_eq_emod_of_nonneg]); omega) | trivial | (refine ⟨?_, ?_, ?_, ?_, ?_, ?_, ?_, ?_, ?_, ?_, ?_, ?_, ?_, ?_⟩ <;> first | assumption | omega) | decide | (exact decide_eq_true (by omega)) | k_extra "pre")); (case h2 => (first | assumption | omega | ((try dsimp only); omega) | ((try dsimp only); (simp (disch := decide) only [Int.fdiv_eq_ediv_of_nonneg, Int.fmod_eq_emod_of_nonneg]); omega) | trivial | (refine ⟨?_, ?_, ?_, ?_, ?_, ?_, ?_, ?_, ?_, ?_, ?_, ?_, ?_, ?_⟩ <;> first | assumption | omega) | decide | (exact decide_eq_true (by omega)) | k_extra "pre")); intro v9 n9 h9 tk9 F9 N9 R9; (try dsimp only at R9); (obtain ⟨x9, t91, t92, e9, en9, hl9⟩ := R9); (subst e9; subst en9; (try simp only [AllLt, and_true] at hl9)); (try dsimp only); (try k_sweep); (try k_fold))
  k_with "eval Call Name" => (k_here; (with_reducible show wpAny _ _ (eval (Expr.Call (Expr.Name "token_at" _) _ _ _) _) _ _ _); refine Call_ ?_)
  k_with "call ref" => (k_here; (with_reducible show wpAny _ _ (call (Value.ref 116) _) _ _ _); k_dflt (refine' spc_use (token_a_c _ _ _ _ _ _ _ ?h1 ?h2) ?k1 ?k2 ?k3 ?k4 ?k5 ?kK ?kd ?ku ?ki ?_; (case k1 => k_asm); (case k2 => k_asm); (case k3 => k_asm); (case k4 => k_asm); (case k5 => k_asm); (case kK => first | exact rfl | assumption); (case kd => ktr_room); (case ku => ktr_units); (case ki => exact trivial)); (case h1 => (first | assumption | omega | ((try dsimp only); omega) | ((try dsimp only); (simp (disch := decide) only [Int.fdiv_eq_ediv_of_nonneg, Int.fmod_eq_emod_of_nonneg]); omega) | trivial | (refine ⟨?_, ?_, ?_, ?_, ?_, ?_, ?_, ?_, ?_, ?_, ?_, ?_, ?_, ?_⟩ <;> first | assumption | omega) | decide | (exact decide_eq_true (by omega)) | k_extra "pre")); (case h2 => (first | assumption | omega | ((try dsimp only); omega) | ((try dsimp only); (simp (disch := decide) only [Int.fdiv_eq_ediv_of_nonneg, Int.fmod_eq_emod_of_nonneg]); omega) | trivial | (refine ⟨?_, ?_, ?_, ?_, ?_, ?_, ?_, ?_, ?_, ?_, ?_, ?_, ?_, ?_⟩ <;> first | assumption | omega) | decide | (exact decide_eq_true (by omega)) | k_extra "pre")); intro v9 n9 h9 tk9 F9 N9 R9; (try dsimp only at R9); (obtain ⟨x9, y9, t91, t92, t93, t94, e9, en9, hl9, hm9⟩ := R9); (subst e9; subst en9; (try simp only [AllLt, and_true] at hl9); (replace hm9 := ltN hm9)); (try dsimp only); (try k_sweep); (try k_fold))
  k_with "eval Call Name" => (k_here; (with_reducible show wpAny _ _ (eval (Expr.Call (Expr.Name "token_at" _) _ _ _) _) _ _ _); refine Call_ ?_)
  k_with "call ref" => (k_here; (with_reducible show wpAny _ _ (call (Value.ref 116) _) _ _ _); k_dflt (refine' spc_use (token_s_c _ _ _ _ _ _ _ _ ?h1 ?h2) ?k1 ?k2 ?k3 ?k4 ?k5 ?kK ?kd ?ku ?ki ?_; (case k1 => k_asm); (case k2 => k_asm); (case k3 => k_asm); (case k4 => k_asm); (case k5 => k_asm); (case kK => first | exact rfl | assumption); (case kd => ktr_room); (case ku => ktr_units); (case ki => exact trivial)); (case h1 => (first | assumption | omega | ((try dsimp only); omega) | ((try dsimp only); (simp (disch := decide) only [Int.fdiv_eq_ediv_of_nonneg, Int.fmod_eq_emod_of_nonneg]); omega) | trivial | (refine ⟨?_, ?_, ?_, ?_, ?_, ?_, ?_, ?_, ?_, ?_, ?_, ?_, ?_, ?_⟩ <;> first | assumption | omega) | decide | (exact decide_eq_true (by omega)) | k_extra "pre")); (case h2 => (first | assumption | omega | ((try dsimp only); omega) | ((try dsimp only); (simp (disch := decide) only [Int.fdiv_eq_ediv_of_nonneg, Int.fmod_eq_emod_of_nonneg]); omega) | trivial | (refine ⟨?_, ?_, ?_, ?_, ?_, ?_, ?_, ?_, ?_, ?_, ?_, ?_, ?_, ?_⟩ <;> first | assumption | omega) | decide | (exact decide_eq_true (by omega)) | k_extra "pre")); intro v9 n9 h9 tk9 F9 N9 R9; (try dsimp only at R9); (obtain ⟨x9, y9, t91, t92, t93, t94, e9, en9, hl9, hm9⟩ := R9); (subst e9; subst en9; (try simp only [AllLt, and_true] at hl9); (replace hm9 := ltN hm9)); (try dsimp only); (try k_sweep); (try k_fold))
  k_with "eval Call Name" => (k_here; (with_reducible show wpAny _ _ (eval (Expr.Call (Expr.Name "token_at" _) _ _ _) _) _ _ _); refine Call_ ?_)
  k_with "call ref" => (k_here; (with_reducible show wpAny _ _ (call (Value.ref 116) _) _ _ _); k_dflt (refine' spc_use (token_c _ _ _ _ _ _ _ ?h1 ?h2 ?h3) ?k1 ?k2 ?k3 ?k4 ?k5 ?kK ?kd ?ku ?ki ?_; (case k1 => k_asm); (case k2 => k_asm); (case k3 => k_asm); (case k4 => k_asm); (case k5 => k_asm); (case kK => first | exact rfl | assumption); (case kd => ktr_room); (case ku => ktr_units); (case ki => exact trivial)); (case h1 => (first | assumption | omega | ((try dsimp only); omega) | ((try dsimp only); (simp (disch := decide) only [Int.fdiv_eq_ediv_of_nonneg, Int.fmod_eq_emod_of_nonneg]); omega) | trivial | (refine ⟨?_, ?_, ?_, ?_, ?_, ?_, ?_, ?_, ?_, ?_, ?_, ?_, ?_, ?_⟩ <;> first | assumption | omega) | decide | (exact decide_eq_true (by omega)) | k_extra "pre")); (case h2 => (first | assumption | omega | ((try dsimp only); omega) | ((try dsimp only); (simp (disch := decide) only [Int.fdiv_eq_ediv_of_nonneg, Int.fmod_eq_emod_of_nonneg]); omega) | trivial | (refine ⟨?_, ?_, ?_, ?_, ?_, ?_, ?_, ?_, ?_, ?_, ?_, ?_, ?_, ?_⟩ <;> first | assumption | omega) | decide | (exact decide_eq_true (by omega)) | k_extra "pre")); (case h3 => (first | assumption | omega | ((try dsimp only); omega) | ((try dsimp only); (simp (disch := decide) only [Int.fdiv_eq_ediv_of_nonneg, Int.fmod_eq_emod_of_nonneg]); omega) | trivial | (refine ⟨?_, ?_, ?_, ?_, ?_, ?_, ?_, ?_, ?_, ?_, ?_, ?_, ?_, ?_⟩ <;> first | assumption | omega) | decide | (exact decide_eq_true (by omega)) | k_extra "pre")); intro v9 n9 h9 tk9 F9 N9 R9; (try dsimp only at R9); (obtain ⟨x9, y9, t91, t92, t93, t94, e9, en9, hl9, hm9⟩ := R9); (subst e9; subst en9; (try simp only [AllLt, and_true] at hl9); (replace hm9 := ltN hm9)); (try dsimp only); (try k_sweep); (try k_fold))
  k_with "eval Call Name" => (k_here; (with_reducible show wpAny _ _ (eval (Expr.Call (Expr.Name "tokens_of" _) _ _ _) _) _ _ _); refine Call_ ?_)
  k_with "call ref" => (k_here; (with_reducible show wpAny _ _ (call (Value.ref 130) _) _ _ _); k_dflt (refine' spc_use (tokens_of_c _ _ _ _ _ ?h1 ?h2) ?k1 ?k2 ?k3 ?k4 ?k5 ?kK ?kd ?ku ?ki ?_; (case k1 => k_asm); (case k2 => k_asm); (case k3 => k_asm); (case k4 => k_asm); (case k5 => k_asm); (case kK => first | exact rfl | assumption); (case kd => ktr_room); (case ku => ktr_units); (case ki => exact trivial)); (case h1 => (first | assumption | omega | ((try dsimp only); omega) | ((try dsimp only); (simp (disch := decide) only [Int.fdiv_eq_ediv_of_nonneg, Int.fmod_eq_emod_of_nonneg]); omega) | trivial | (refine ⟨?_, ?_, ?_, ?_, ?_, ?_, ?_, ?_, ?_, ?_, ?_, ?_, ?_, ?_⟩ <;> first | assumption | omega) | decide | (exact decide_eq_true (by omega)) | k_extra "pre")); (case h2 => (first | assumption | omega | ((try dsimp only); omega) | ((try dsimp only); (simp (disch := decide) only [Int.fdiv_eq_ediv_of_nonneg, Int.fmod_eq_emod_of_nonneg]); omega) | trivial | (refine ⟨?_, ?_, ?_, ?_, ?_, ?_, ?_, ?_, ?_, ?_, ?_, ?_, ?_, ?_⟩ <;> first | assumption | omega) | decide | (exact decide_eq_true (by omega)) | k_extra "pre")); intro v9 n9 h9 tk9 F9 N9 R9; (try dsimp only at R9); (obtain ⟨f9, vs9, cap9, made9, e9, en9, hT9, hsub9, hne9⟩ := R9); (subst e9; subst en9); (try dsimp only); (try k_sweep); (try k_fold))
  k_with "eval Call Name" => (k_here; (with_reducible show wpAny _ _ (eval (Expr.Call (Expr.Name "lower_code" _) _ _ _) _) _ _ _); refine Call_ ?_)
  k_with "call ref" => (k_here; (with_reducible show wpAny _ _ (call (Value.ref 61) _) _ _ _); k_dflt (refine' pur_use (lower_code_c _ _ _) ?k1 ?k2 ?k3 ?k4 ?k5 ?kK ?kd ?ku ?_; (case k1 => k_asm); (case k2 => k_asm); (case k3 => k_asm); (case k4 => k_asm); (case k5 => k_asm); (case kK => first | exact rfl | assumption); (case kd => ktr_room); (case ku => ktr_units)); intro v9 h9 tk9 F9 N9 R9; (try dsimp only at R9); (obtain ⟨t9, e9⟩ := R9); (subst e9); (try dsimp only); (try k_sweep); (try k_fold))
  k_with "eval ListComp" => ((with_reducible show wpAny _ _ (eval (Expr.ListComp (Expr.Call (Expr.Name "chr" _) [Expr.Call (Expr.Name "lower_code" _) _ _ _] _ _) _ _ _) _) _ _ _); walk_at "NZ ECOMP")
  k_with "eval Call Name" => (k_here; (with_reducible show wpAny _ _ (eval (Expr.Call (Expr.Name "lower_text" _) _ _ _) _) _ _ _); refine Call_ ?_)
  k_with "call ref" => (k_here; (with_reducible show wpAny _ _ (call (Value.ref 66) _) _ _ _); k_dflt (refine' pur_use (lower_text_c _ _ _ ?h1 ?h2) ?k1 ?k2 ?k3 ?k4 ?k5 ?kK ?kd ?ku ?_; (case k1 => k_asm); (case k2 => k_asm); (case k3 => k_asm); (case k4 => k_asm); (case k5 => k_asm); (case kK => first | exact rfl | assumption); (case kd => ktr_room); (case ku => ktr_units)); (case h1 => (first | assumption | omega | ((try dsimp only); omega) | ((try dsimp only); (simp (disch := decide) only [Int.fdiv_eq_ediv_of_nonneg, Int.fmod_eq_emod_of_nonneg]); omega) | trivial | (refine ⟨?_, ?_, ?_, ?_, ?_, ?_, ?_, ?_, ?_, ?_, ?_, ?_, ?_, ?_⟩ <;> first | assumption | omega) | decide | (exact decide_eq_true (by omega)) | k_extra "pre")); (case h2 => (first | assumption | omega | ((try dsimp only); omega) | ((try dsimp only); (simp (disch := decide) only [Int.fdiv_eq_ediv_of_nonneg, Int.fmod_eq_emod_of_nonneg]); omega) | trivial | (refine ⟨?_, ?_, ?_, ?_, ?_, ?_, ?_, ?_, ?_, ?_, ?_, ?_, ?_, ?_⟩ <;> first | assumption | omega) | decide | (exact decide_eq_true (by omega)) | k_extra "pre")); intro v9 h9 tk9 F9 N9 R9; (try dsimp only at R9); (obtain ⟨t9, e9, hl9⟩ := R9); (subst e9); (try dsimp only); (try k_sweep); (try k_fold))
  k_with "eval Call Name" => (k_here; (with_reducible show wpAny _ _ (eval (Expr.Call (Expr.Name "without_comments" _) _ _ _) _) _ _ _); refine Call_ ?_)
  k_with "call ref" => (k_here; (with_reducible show wpAny _ _ (call (Value.ref 135) _) _ _ _); k_dflt (refine' spc_use (without_comments_c _ _ _ _ _ _) ?k1 ?k2 ?k3 ?k4 ?k5 ?kK ?kd ?ku ?ki ?_; (case k1 => k_asm); (case k2 => k_asm); (case k3 => k_asm); (case k4 => k_asm); (case k5 => k_asm); (case kK => first | exact rfl | assumption); (case kd => ktr_room); (case ku => ktr_units); (case ki => exact ⟨by k_mem, TkIn.mono (by assumption) (by walk_at "NZ SUB")⟩)); intro v9 n9 h9 tk9 F9 N9 R9; (try dsimp only at R9); (obtain ⟨d9, e9, en9, hd9⟩ := R9); (subst e9; subst en9); (try dsimp only); (try k_sweep); (try k_fold))
  k_with "eval Call Name" => (k_here; (with_reducible show wpAny _ _ (eval (Expr.Call (Expr.Name "DateReader" _) _ _ _) _) _ _ _); refine Call_ ?_)
  k_with "call ref" => (k_here; (with_reducible show wpAny _ _ (call (Value.ref 339) _) _ _ _); k_dflt (refine' spc_use (reader_c _ _ _ _ _ ?h1 ?h2) ?k1 ?k2 ?k3 ?k4 ?k5 ?kK ?kd ?ku ?ki ?_; (case k1 => k_asm); (case k2 => k_asm); (case k3 => k_asm); (case k4 => k_asm); (case k5 => k_asm); (case kK => first | exact rfl | assumption); (case kd => ktr_room); (case ku => ktr_units); (case ki => exact trivial)); (case h1 => (first | assumption | omega | ((try dsimp only); omega) | ((try dsimp only); (simp (disch := decide) only [Int.fdiv_eq_ediv_of_nonneg, Int.fmod_eq_emod_of_nonneg]); omega) | trivial | (refine ⟨?_, ?_, ?_, ?_, ?_, ?_, ?_, ?_, ?_, ?_, ?_, ?_, ?_, ?_⟩ <;> first | assumption | omega) | decide | (exact decide_eq_true (by omega)) | k_extra "pre")); (case h2 => (first | assumption | omega | ((try dsimp only); omega) | ((try dsimp only); (simp (disch := decide) only [Int.fdiv_eq_ediv_of_nonneg, Int.fmod_eq_emod_of_nonneg]); omega) | trivial | (refine ⟨?_, ?_, ?_, ?_, ?_, ?_, ?_, ?_, ?_, ?_, ?_, ?_, ?_, ?_⟩ <;> first | assumption | omega) | decide | (exact decide_eq_true (by omega)) | k_extra "pre")); intro v9 n9 h9 tk9 F9 N9 R9; (try dsimp only at R9); (obtain ⟨rx9, dx9, dl9, vs9, rest9, k91, k92, k93, u91, u92, e9, en9, hsub9, hR9⟩ := R9); (subst e9; subst en9; (have hx9 := ltN hR9.lt); (have hne9 := hR9.ne); (have gl9 := hR9.gl); (have hz9 := hR9.size)); (try dsimp only); (try k_sweep); (try k_fold))
  k_with "eval Call Name" => (k_here; (with_reducible show wpAny _ _ (eval (Expr.Call (Expr.Name "is_figures" _) _ _ _) _) _ _ _); refine Call_ ?_)
  k_with "call ref" => (k_here; (with_reducible show wpAny _ _ (call (Value.ref 277) _) _ _ _); k_dflt (refine' pur_use (is_figures_c _ _ _ ?h1 ?h2 ?h3) ?k1 ?k2 ?k3 ?k4 ?k5 ?kK ?kd ?ku ?_; (case k1 => k_asm); (case k2 => k_asm); (case k3 => k_asm); (case k4 => k_asm); (case k5 => k_asm); (case kK => first | exact rfl | assumption); (case kd => ktr_room); (case ku => ktr_units)); (case h1 => (first | assumption | omega | ((try dsimp only); omega) | ((try dsimp only); (simp (disch := decide) only [Int.fdiv_eq_ediv_of_nonneg, Int.fmod_eq_emod_of_nonneg]); omega) | trivial | (refine ⟨?_, ?_, ?_, ?_, ?_, ?_, ?_, ?_, ?_, ?_, ?_, ?_, ?_, ?_⟩ <;> first | assumption | omega) | decide | (exact decide_eq_true (by omega)) | k_extra "pre")); (case h2 => (first | assumption | omega | ((try dsimp only); omega) | ((try dsimp only); (simp (disch := decide) only [Int.fdiv_eq_ediv_of_nonneg, Int.fmod_eq_emod_of_nonneg]); omega) | trivial | (refine ⟨?_, ?_, ?_, ?_, ?_, ?_, ?_, ?_, ?_, ?_, ?_, ?_, ?_, ?_⟩ <;> first | assumption | omega) | decide | (exact decide_eq_true (by omega)) | k_extra "pre")); (case h3 => (first | assumption | omega | ((try dsimp only); omega) | ((try dsimp only); (simp (disch := decide) only [Int.fdiv_eq_ediv_of_nonneg, Int.fmod_eq_emod_of_nonneg]); omega) | trivial | (refine ⟨?_, ?_, ?_, ?_, ?_, ?_, ?_, ?_, ?_, ?_, ?_, ?_, ?_, ?_⟩ <;> first | assumption | omega) | decide | (exact decide_eq_true (by omega)) | k_extra "pre")); intro v9 h9 tk9 F9 N9 R9; (try dsimp only at R9); (subst R9); (try dsimp only); (try k_sweep); (try k_fold))
  k_with "eval ListComp" => ((with_reducible show wpAny _ _ (eval (Expr.ListComp (Expr.Call (Expr.Name "chr" _) [Expr.Name "code" _] _ _) _ _ _) _) _ _ _); walk_at "NZ ECOMP")
  trivial
theorem rows_43_30 : True := by
  k_with "call ref" => (k_here; (with_reducible show wpAny _ _ (call (Value.ref 315) _) _ _ _); k_dflt (refine' spcp_use (atom_c _ _ _ _ _ _ _ _ _ _ _ _ ?h0 ?h1 ?h2 ?h3 ?h4 ?h5) ?k1 ?k2 ?k3 ?k4 ?k5 ?kK ?kd ?ku ?ki ?_; (case k1 => k_asm); (case k2 => k_asm); (case k3 => k_asm); (case k4 => k_asm); (case k5 => k_asm); (case kK => first | exact rfl | assumption); (case kd => ktr_room); (case ku => ktr_units); (case h0 => assumption); (case ki => exact ⟨_, _, _, _, _, by k_mem, by k_mem, fun p hp => by (repeat (first | exact hp | refine List.Mem.tail _ ?_))⟩)); (case h1 => first | assumption | k_dflt (exact rfl)); (case h2 => (first | assumption | omega | ((try dsimp only); omega) | ((try dsimp only); (simp (disch := decide) only [Int.fdiv_eq_ediv_of_nonneg, Int.fmod_eq_emod_of_nonneg]); omega) | trivial | (refine ⟨?_, ?_, ?_, ?_, ?_, ?_, ?_, ?_, ?_, ?_, ?_, ?_, ?_, ?_⟩ <;> first | assumption | omega) | decide | (exact decide_eq_true (by omega)) | k_extra "pre")); (case h3 => (first | assumption | omega | ((try dsimp only); omega) | ((try dsimp only); (simp (disch := decide) only [Int.fdiv_eq_ediv_of_nonneg, Int.fmod_eq_emod_of_nonneg]); omega) | trivial | (refine ⟨?_, ?_, ?_, ?_, ?_, ?_, ?_, ?_, ?_, ?_, ?_, ?_, ?_, ?_⟩ <;> first | assumption | omega) | decide | (exact decide_eq_true (by omega)) | k_extra "pre")); (case h4 => (first | assumption | omega | ((try dsimp only); omega) | ((try dsimp only); (simp (disch := decide) only [Int.fdiv_eq_ediv_of_nonneg, Int.fmod_eq_emod_of_nonneg]); omega) | trivial | (refine ⟨?_, ?_, ?_, ?_, ?_, ?_, ?_, ?_, ?_, ?_, ?_, ?_, ?_, ?_⟩ <;> first | assumption | omega) | decide | (exact decide_eq_true (by omega)) | k_extra "pre")); (case h5 => (first | assumption | omega | ((try dsimp only); omega) | ((try dsimp only); (simp (disch := decide) only [Int.fdiv_eq_ediv_of_nonneg, Int.fmod_eq_emod_of_nonneg]); omega) | trivial | (refine ⟨?_, ?_, ?_, ?_, ?_, ?_, ?_, ?_, ?_, ?_, ?_, ?_, ?_, ?_⟩ <;> first | assumption | omega) | decide | (exact decide_eq_true (by omega)) | k_extra "pre")); intro v9 h9 tk9 F9 N9 R9; (try dsimp only at R9); (obtain ⟨t9, e9⟩ := R9); (subst e9); (try dsimp only); (try k_sweep); (try k_fold))
  trivial

section
variable {prog : Program} {w : World} {A : Around} {E : Value → Shared → Prop} {s : Shared} {h₀ : Heap} {L : Addr} {m : Str → Option Value} {news : List (Addr × Obj)}
theorem sliceApplied_to2 {sl : Addr} {u : Tok} {Q : Int × Int × Nat → Shared → Prop} (hs : s.heap.IsSliceOf sl .none (.int 2 u) .none) (h : Q (0, 1, 2) s) :
    wpAny (model prog w) A (Builtin.Slice.sliceApplied (.ref sl) (pure (3 : Int))) Q E s := by
  obtain ⟨os, hos, hcs, hds⟩ := id hs
  unfold Builtin.Slice.sliceApplied Builtin.Slice.sliceFields
  refine wpAny_bind (wpAny_bind (wpAny_field hos hds (x := .none) rfl (wpAny_bind (wpAny_field hos hds (x := .int 2 u) rfl (wpAny_bind (wpAny_field hos hds (x := .none) rfl (wpAny_pure ?_)))))))
  refine wpAny_bind (slicePart_none ?_)
  show wpAny _ _ (if ((1 : Int) == 0) = true then _ else _) _ _ s
  rw [if_neg (by decide)]
  refine wpAny_bind (slicePart_none (wpAny_bind (slicePart_int (wpAny_bind (wpAny_pure ?_)))))
  exact wpAny_pure h
theorem getItem_tuple_to2 {t sl : Addr} {a b c : Value} {u : Tok} {Q : Value → Shared → Prop} (ht : IsTup s.heap t #[a, b, c]) (hs : s.heap.IsSliceOf sl .none (.int 2 u) .none)
    (h : Q (.ref s.heap.objs.size) { s with heap := s.heap.push { cls := .type "tuple", data := .seq #[a, b] } }) : wpAny (model prog w) A (getItem (.ref t) (.ref sl)) Q E s := by
  have hdrop : sizeOk (.seq #[a, b]) := by
    show (#[a, b] : Array Value).size ≤ sizeLine
    exact Nat.le_of_ble_eq_true rfl
  obtain ⟨os, hos, hcs, hds⟩ := id hs
  have hTs : s.TypeIs (.ref sl) "slice" := ⟨os, hos, hcs⟩
  unfold getItem
  try with_reducible refine wpAny_holding ?_
  first | refine wpAny_bind (wpAny_pure ?_) | skip
  refine wpAny_bind (wpAny_sequenceKey ht.typeIs (by decide) ?_)
  refine wpAny_bind (wpAny_callSpecial?_slot (name := Str.ofString "__getitem__") ht.typeIs slot_tuple_getitem
    (wpAny_call_entry slot_tuple_getitem ht.typeIs entry_tuple_getitem ?_ (args_tuple_getitem _ _)))
  show wpAny _ _ (Builtin.Tuple.tupleItemsOf (.ref t) >>= _) _ _ s
  refine wpAny_bind (tupleItemsOf_ ht ?_)
  refine wpAny_bind (wpAny_typeOf hTs ?_)
  rw [if_pos (by decide)]
  refine wpAny_bind (sliceApplied_to2 hs ?_)
  show wpAny _ _ (if ((0 : Int) == 0 && (1 : Int) == 1 && ((2 : Nat) == 3)) = true then _ else _) _ _ s
  rw [if_neg (by decide)]
  first
    | exact wpAny_bind (m := Builtin.Tuple.tupleExact _) (wpAny_newObj_type (wpAny_pure ⟨_, rfl, wpAny_pure h⟩) hdrop)
    | exact wpAny_bind (m := Builtin.Tuple.tupleExact _) (wpAny_newObj_type (wpAny_bind (wpAny_pure (wpAny_pure ⟨_, rfl, wpAny_pure h⟩))) hdrop)
    | exact wpAny_bind (wpAny_bind (m := Builtin.Tuple.tupleExact _) (wpAny_newObj_type (wpAny_pure (wpAny_pure ⟨_, rfl, wpAny_pure h⟩)) hdrop))
    | exact wpAny_bind (wpAny_bind (m := Builtin.Tuple.tupleExact _) (wpAny_newObj_type (wpAny_pure ⟨_, rfl, wpAny_pure h⟩) hdrop))
theorem slice_to2 {value slice : Expr} {t : Addr} {a b c : Value} {u : Tok} {Q : Value → Shared → Prop}
    (F : Fr h₀ L s.heap m) (N : News h₀ L s.heap news) (ht : IsTup s.heap t #[a, b, c])
    (h : ∀ D h', Fr h₀ L h' m → News h₀ L h' ((D, { cls := .type "tuple", data := .seq #[a, b] }) :: news) → (∀ p ∈ news, p.1 < D) → Q (.ref D) { s with heap := h' })
    (hs : subscripted slice false (.ref t) (.ref s.heap.objs.size) = operate [.ref s.heap.objs.size, .ref t] (getItem (.ref t) (.ref s.heap.objs.size)) := by with_unfolding_all rfl)
    (hg : ∀ r, letTemporaryGo value (.ref t) r = pure () := by intro _; with_unfolding_all rfl) :
    wpAny (model prog w) A (subscriptTail value slice (.ref t) (.ref s.heap.objs.size)) Q E { s with heap := s.heap.push { cls := .type "slice", data := .fields #[.none, .int 2 u, .none] } } := by
  have ht' : IsTup (s.heap.push { cls := .type "slice", data := .fields #[.none, .int 2 u, .none] }) t #[a, b, c] := ht.keeps fun _ _ e => Heap.get?_push_of_some _ e
  refine subscriptTail_ops (s := { s with heap := s.heap.push { cls := .type "slice", data := .fields #[.none, .int 2 u, .none] } }) ht'.typeIs slot_tuple_getitem.lookup
    (getItem_tuple_to2 ht' (Heap.IsSliceOf.new ..) ?_) hs hg
  have N1 := News.push (F.push { cls := .type "slice", data := .fields #[.none, .int 2 u, .none] }) (N.grown fun _ _ e => Heap.get?_push_of_some _ e) { cls := .type "tuple", data := .seq #[a, b] }
  rw [Heap.size_push] at N1
  show Q (.ref (s.heap.push _).objs.size) _
  rw [Heap.size_push]
  exact h _ _ ((F.push _).push _) N1 fun p hp => Nat.lt_succ_of_lt (Heap.lt_size (N p hp).1)
theorem eqAt_bytes {A : Around} {s : Shared} (c : Array UInt8) (t u : Tok) : SeqAt.EqAt A s (.bytes c t) (.bytes c u) true := fun prog w E Q h => by
  unfold eqBool
  refine wpAny_holding ?_
  refine wpAny_ite_split (fun _ => ?_) (fun _ => ?_)
  · exact wpAny_bind (wpAny_rule (wpAny_pure h))
  · have k := eq_bytes (prog := prog) (w := w) (A := A) (E := E) (s := s) (b := c) (c := c) (t := t) (u := u) (Q := fun r s' => wpAny (model prog w) A (truthOfDropped r) Q E s') (by rw [beq_self_eq_true]; exact wpAny_truthy_bool h)
    exact wpAny_bind k
theorem ne_sb {a b : Addr} {x : Str} {c : Array UInt8} {t1 t2 t3 t4 : Tok} {n1 n2 : Nat} {Q : Value → Shared → Prop} (N : News h₀ L s.heap news)
    (ma : ((a, { cls := .type "tuple", data := .seq #[.str x t1, .bytes c t2] n1 }) : Addr × Obj) ∈ news) (mb : ((b, { cls := .type "tuple", data := .seq #[.str x t3, .bytes c t4] n2 }) : Addr × Obj) ∈ news) (hu : A.units < cLine)
    (h : Q (.bool false) s) : wpAny (model prog w) A (compareOp .NotEq (.ref a) (.ref b)) Q E s := by
  have ta : s.heap.IsTuple a #[.str x t1, .bytes c t2] := ⟨_, (N _ ma).1, rfl, _, rfl⟩
  have tb : s.heap.IsTuple b #[.str x t3, .bytes c t4] := ⟨_, (N _ mb).1, rfl, _, rfl⟩
  refine SeqAt.RcNeAt.tuples (e := fun _ => true) ta tb hu (fun j h1 h2 => ?_) prog w E Q h
  have hj : j = 0 ∨ j = 1 := by
    have : j < 2 := h1
    omega
  rcases hj with rfl | rfl
  · have k := SeqAt.EqAt.str_str (A := A.in1) (s := s) x t1 x t3
    rw [beq_self_eq_true] at k
    exact k
  · exact eqAt_bytes c t2 t4
end
theorem rows_44_31 : True := by
  k_with "subscriptTail" => (k_here; (with_reducible show wpAny _ _ (subscriptTail _ (PySem.Expr.Slice none _ none _) (Value.ref _) (Value.ref _)) _ _ _); k_dflt (refine' slice_to2 ?F ?N ?t ?_ ?s ?g; (case F => k_asm); (case N => k_asm); (case t => exact News.isTup (by k_asm) (by k_mem)); (case s => with_unfolding_all rfl); (case g => kmk_pure)); intro D' h' F' N' l1; (try k_lt l1); (try k_sweep))
  k_with "compareOp NotEq ref ref" => (k_here; k_dflt (refine' ne_sb ?N ?a ?b ?u ?_; (case N => k_asm); (case a => k_mem); (case b => k_mem); (case u => ktr_units)))
  trivial

abbrev RdO (w : World) (rx dx dl : Addr) (ln : Int) (rest : List (Addr × Obj)) (i : Int) (news' : List (Addr × Obj)) : Prop :=
  ∃ k1 k2 k3 u1 u2, news' = (rx, instObj 339 dx) :: (dx, rdObj w k1 k2 k3 dl i ln u1 u2) :: rest
theorem rd_news {h₀ h : Heap} {L : Addr} {news rest : List (Addr × Obj)} {a b : Addr × Obj} (N : News h₀ L h news) (g1 : a ∈ news) (g2 : b ∈ news) (g3 : ∀ p ∈ rest, p ∈ news) : News h₀ L h (a :: b :: rest) :=
  news_drop N (List.forall_mem_cons.mpr ⟨g1, List.forall_mem_cons.mpr ⟨g2, g3⟩⟩)
theorem need_c (w : World) (x : Array UInt8) (D : Int) (rest : List (Addr × Obj)) (vs : List Value) (rx dx dl : Addr) (ln i : Int) (bb : Bool) (y : Str) (t : Tok) (hR : Rdr x D rest vs rx dx dl) (hbb : bb = true) :
    Spc w 4 (.ref 336) [.ref rx, .bool bb, .str y t] (RdS w rx dx dl ln rest i) (fun _ v news' => v = .none ∧ RdO w rx dx dl ln rest (i + 1) news') := by
  (try unfold Pur)
  unfold Spc
  k_fill
  intro mean mg mb dp un gd cn cs aF ccd cl outer A₀ base h₀ LF mF news sF QF EF B F X N T hk hdp hun hin hret
  obtain ⟨k1, k2, k3, u1, u2, g1, g2, g3⟩ := hin
  replace N := rd_news N g1 g2 g3
  have hne := hR.ne
  have hx := hR.lt
  refine wpAny_call ?_
  k_dflt cell_enter
  (with_reducible rename Fr _ _ _ (fun nzy => List.lookup nzy _) => F0)
  replace F0 := fr_eq (m' := fun nzy => List.lookup nzy ([(Str.ofString "what", Value.str y t), (Str.ofString "is_right", Value.bool bb), (Str.ofString "self", Value.ref rx)] : List (Str × Value))) F0 (by kernel_rfl)
  subst hbb
  k_steps
  refine' hret _ _ _ _ ?e2 ?e3 ⟨rfl, _, _, _, _, _, rfl⟩
  case e2 => k_asm
  case e3 => k_asm
theorem rows_46_32 : True := by
  k_with "call ref" => (k_here; (with_reducible show wpAny _ _ (call (Value.ref 336) _) _ _ _); k_dflt (refine' spc_use (need_c _ _ _ _ _ _ _ _ _ _ _ _ _ ?h0 ?h1) ?k1 ?k2 ?k3 ?k4 ?k5 ?kK ?kd ?ku ?ki ?_; (case k1 => k_asm); (case k2 => k_asm); (case k3 => k_asm); (case k4 => k_asm); (case k5 => k_asm); (case kK => first | exact rfl | assumption); (case kd => ktr_room); (case ku => ktr_units); (case h0 => assumption); (case ki => exact ⟨_, _, _, _, _, by k_mem, by k_mem, fun p hp => by (repeat (first | exact hp | refine List.Mem.tail _ ?_))⟩)); (case h1 => (first | assumption | omega | ((try dsimp only); omega) | ((try dsimp only); (simp (disch := decide) only [Int.fdiv_eq_ediv_of_nonneg, Int.fmod_eq_emod_of_nonneg]); omega) | trivial | (refine ⟨?_, ?_, ?_, ?_, ?_, ?_, ?_, ?_, ?_, ?_, ?_, ?_, ?_, ?_⟩ <;> first | assumption | omega) | decide | (exact decide_eq_true (by omega)) | k_extra "pre")); intro v9 n9 h9 tk9 F9 N9 R9; (try dsimp only at R9); (obtain ⟨e9, k91, k92, k93, u91, u92, en9⟩ := R9); (subst e9; subst en9); (try dsimp only); (try k_sweep); (try k_fold))
  trivial
theorem place_c (w : World) (x : Array UInt8) (D : Int) (rest : List (Addr × Obj)) (vs : List Value) (rx dx dl : Addr) (ln i : Int) (k : Tk) (hR : Rdr x D rest vs rx dx dl) (htk : (dTk D)[i.toNat]? = some k) (hi0 : 0 ≤ i) (hi1 : i < 11) :
    Spc w 4 (.ref 310) [.ref rx] (RdS w rx dx dl ln rest i) (fun news v news' => news' = news ∧ ∃ t, v = .int k.i t) := by
  (try unfold Pur)
  unfold Spc
  k_fill
  intro mean mg mb dp un gd cn cs aF ccd cl outer A₀ base h₀ LF mF news sF QF EF B F X N T hk hdp hun hin hret
  obtain ⟨k1, k2, k3, u1, u2, g1, g2, gs⟩ := hin
  obtain ⟨hz, qa, z1, z2, z3, hit, g4⟩ := hR.at htk
  replace g4 := gs _ g4
  have g3 := gs _ hR.gl
  clear hR htk
  refine wpAny_call ?_
  k_dflt cell_enter
  (with_reducible rename Fr _ _ _ (fun nzy => List.lookup nzy _) => F0)
  replace F0 := fr_eq (m' := fun nzy => List.lookup nzy ([(Str.ofString "self", Value.ref rx)] : List (Str × Value))) F0 (by kernel_rfl)
  k_with "subscriptTail" => (k_here; (with_reducible show wpAny _ _ (subscriptTail (Expr.Name _ _) (Expr.Attribute _ _ _) (Value.ref _) (Value.int _ _)) _ _ _); k_dflt (refine PyProof.Rows.item_list (News.isList (by k_asm) (by k_mem)) (by omega) (by omega) (by assumption) ?_))
  k_steps
  all_goals (refine' hret _ _ _ _ ?e2 ?e3 (⟨rfl, _, rfl⟩); (case e2 => k_asm); (case e3 => (first | k_asm | (refine' news_drop ?cbN ?cbS; (case cbN => assumption); (case cbS => kcj_all)))))
theorem rows_46_33 : True := by
  k_with_none
  k_with "NZ LOOK" => ((repeat (first | exact if_hit | refine if_miss (by kernel_rfl) ?_ | exact lk_hit | refine lk_miss (by kernel_rfl) ?_ | assumption)); done)
  k_with "ite" => (k_closed; first | (with_reducible refine ite_neg Bool.false_ne_true ?_) | (with_reducible refine ite_pos rfl ?_) | (with_reducible refine ite_neg (by decide +kernel) ?_) | (with_reducible refine ite_pos (by decide +kernel) ?_))
  k_with "subscriptTail" => ((with_reducible show wpAny _ _ (subscriptTail (Expr.Attribute _ _ _) _ _ _) _ _ _); walk_at "last subscriptTail")
  k_with "NZ SUB" => (intro p9 hp9; (repeat (first | exact hp9 | exact List.mem_append_left _ hp9 | (refine (‹∀ p : Addr × Obj, p ∈ _ → p ∈ _› p9 ?_); exact hp9) | refine List.Mem.tail _ ?_)))
  k_with "eval Name" => (k_here; (with_reducible rename Fr _ _ _ _ => kF); with_reducible (refine' nameX_K kF ?nzX ?nzT ?nze ?_ ?nzk ?nza ?nzb; (case nzX => assumption); (case nzT => k_asm); (case nze => k_is); (case nzk => first | exact rfl | assumption); (case nza => kernel_rfl); (case nzb => kernel_rfl); k_whole))
  k_with "eval Name" => (k_here; (with_reducible rename Fr _ _ _ _ => kF); with_reducible (refine' nameX_L kF ?nzv ?_ ?nzk ?nza ?nzb; (case nza => kernel_rfl!); (case nzv => walk_at "NZ LOOK"); (case nzk => first | exact rfl | assumption); (case nzb => kernel_rfl); k_whole))
  k_with "callWith ref" => (k_here; with_reducible (refine' cw_some ?nzx ?nzk ?_ ?nzhe ?nzhp; (case nzx => assumption); (case nzk => k_is); (case nzhe => kernel_rfl); (case nzhp => kernel_rfl); k_whole))
  k_with "callWith ref" => (k_here; with_reducible (refine' cw_none ?nzx ?nzF ?nzk ?_; (case nzx => assumption); (case nzF => assumption); (case nzk => k_is); k_whole))
  k_with "CompEnd" => (k_dflt (refine' end_same ?a1 ?a2 ?a3 ?a4 ?_; (case a1 => k_asm); (case a2 => k_asm); (case a3 => assumption); (case a4 => lcg_src)))
  k_with "NZ TUP" => (k_dflt (refine' GSrc.tup ?a1 ?a2 ?a3 ?a4 ?a5 ?_; (case a1 => rfl); (case a2 => k_asm); (case a3 => k_asm); (case a4 => first | exact Or.inr ⟨_, by k_mem, rfl, _, rfl⟩ | exact Or.inl (by assumption)); (case a5 => first | exact Nat.le_of_ble_eq_true rfl | size_fits)); intro g')
  k_with "NZ TURN" => (refine ⟨_, _, rfl, by k_asm, by (first | k_asm | (refine' news_drop ?cbN ?cbS; (case cbN => assumption); (case cbS => kcj_all))), ?_⟩)
  k_with "NZ ACOMP" => (k_here; k_dflt (refine Assign_ListComp_G (by k_asm) (by rfl) (by with_unfolding_all rfl) (by rfl) (by decide) (by rfl) (by decide) (by rfl) (by rfl) (by rfl) ?_))
  k_with "NZ ECOMP" => (k_here; k_dflt (refine ListComp_G (by k_asm) (by rfl) (by decide) (by rfl) (by decide) (by rfl) ?_))
  k_with "compareOp In int" => (k_here; (with_reducible show wpAny _ _ (compareOp CmpOp.In (Value.int _ _) (Value.bytes _ _)) _ _ _); (refine By.int_in_bytes (by omega) (by omega) ?_))
  k_with "compareOp In bytes" => (k_here; (with_reducible show wpAny _ _ (compareOp CmpOp.In (Value.bytes _ _) (Value.bytes _ _)) _ _ _); k_dflt (refine' By.bytes_in_bytes ?k1 ?k2 ?k3 ?_; (case k1 => rfl); (case k2 => k_asm); (case k3 => k_asm)); intro h9 tk9 F9 N9; (try k_sweep))
  k_with "exec Assign cons ListComp" => ((with_reducible show wpAny _ _ (exec (Stmt.Assign _ (Expr.ListComp (Expr.Call (Expr.Name "int" _) [Expr.Name "cell" _] _ _) _ _ _) _) _) _ _ _); walk_at "NZ ACOMP")
  k_with "call ref" => (k_here; (with_reducible show wpAny _ _ (call (Value.ref 407) _) _ _ _); k_dflt (refine' spcl_use (law_box_c _ _ _ _ ?h1 ?h2) ?k1 ?k2 ?k3 ?k4 ?k5 ?kK ?kd ?ku ?ki ?kL ?_; (case k1 => k_asm); (case k2 => k_asm); (case k3 => k_asm); (case k4 => k_asm); (case k5 => k_asm); (case kK => first | exact rfl | assumption); (case kd => ktr_room); (case ku => ktr_units); (case ki => exact trivial)); (case kL => with_reducible assumption); (case h1 => with_reducible assumption); (case h2 => omega); intro v9 n9 h9 tk9 F9 N9 R9; (try dsimp only at R9); (obtain ⟨p9, c9, ys9, ks9, cap9, cap29, g9, st9, t91, t92, t93, e9, en9, hy9, hk9, hg90, hg91, hs90, hs91, hcp9, hl9, ho9⟩ := R9); (subst e9; subst en9); (try simp only [AllLt, and_true] at hl9); (try simp only [LCg.Off1, and_true] at ho9); (try dsimp only); (try k_sweep); (try k_fold))
  k_with "call ref" => (k_here; (with_reducible show wpAny _ _ (call (Value.ref 414) _) _ _ _); (try walk_at "NZ SPLIT"); k_dflt (refine' draw_use ?k1 ?k2 ?k3 ?k4 ?k5 ?kK ?kd ?ku ?h1 ?h2 ?h3 ?h4 ?h5 ?h6 ?h7 ?h8 ?h9 ?h10 ?h11 ?h12 ?h13 ?_; (case k1 => k_asm); (case k2 => k_asm); (case k3 => k_asm); (case k4 => k_asm); (case k5 => k_asm); (case kK => first | exact rfl | assumption); (case kd => ktr_room); (case ku => ktr_units)); (case h1 => intro o9; k_upd); (case h2 => k_dflt k_mem); (case h3 => k_ne); (case h4 => with_reducible assumption); (case h5 => with_reducible assumption); (case h6 => with_reducible first | assumption | decide); (case h7 => with_reducible assumption); (case h8 => with_reducible assumption); (case h9 => with_reducible assumption); (case h10 => omega); (case h11 => omega); (case h12 => decide); (case h13 => decide); intro k9 t9 g9 st9 cap9 t91 t92 t93 h9 tk9 F9 N9 hk90 hk91 hg90 hg91 hs90 hs91; (try dsimp only at N9); (try dsimp only); (try k_sweep); (try k_fold))
  k_with "eval Call Name" => (k_here; (with_reducible show wpAny _ _ (eval (Expr.Call (Expr.Name "is_atom_code" _) _ _ _) _) _ _ _); refine Call_ ?_)
  k_with "call ref" => (k_here; (with_reducible show wpAny _ _ (call (Value.ref 74) _) _ _ _); k_dflt (refine' pur_use (is_atom_code_c _ _ _ ?h1) ?k1 ?k2 ?k3 ?k4 ?k5 ?kK ?kd ?ku ?_; (case k1 => k_asm); (case k2 => k_asm); (case k3 => k_asm); (case k4 => k_asm); (case k5 => k_asm); (case kK => first | exact rfl | assumption); (case kd => ktr_room); (case ku => ktr_units)); (case h1 => (first | assumption | omega | ((try dsimp only); omega) | ((try dsimp only); (simp (disch := decide) only [Int.fdiv_eq_ediv_of_nonneg, Int.fmod_eq_emod_of_nonneg]); omega) | trivial | (refine ⟨?_, ?_, ?_, ?_, ?_, ?_, ?_, ?_, ?_, ?_, ?_, ?_, ?_, ?_⟩ <;> first | assumption | omega) | decide | (exact decide_eq_true (by omega)) | k_extra "pre")); intro v9 h9 tk9 F9 N9 R9; (try dsimp only at R9); (subst R9); (try dsimp only); (try k_sweep); (try k_fold))
  k_with "eval Call Name" => (k_here; (with_reducible show wpAny _ _ (eval (Expr.Call (Expr.Name "line_end" _) _ _ _) _) _ _ _); refine Call_ ?_)
  k_with "call ref" => (k_here; (with_reducible show wpAny _ _ (call (Value.ref 81) _) _ _ _); k_dflt (refine' pur_use (line_end_c _ _ _ _ _ _ ?h1 ?h2 ?h3 ?h4 ?h5 ?h6) ?k1 ?k2 ?k3 ?k4 ?k5 ?kK ?kd ?ku ?_; (case k1 => k_asm); (case k2 => k_asm); (case k3 => k_asm); (case k4 => k_asm); (case k5 => k_asm); (case kK => first | exact rfl | assumption); (case kd => ktr_room); (case ku => ktr_units)); (case h1 => (first | assumption | omega | ((try dsimp only); omega) | ((try dsimp only); (simp (disch := decide) only [Int.fdiv_eq_ediv_of_nonneg, Int.fmod_eq_emod_of_nonneg]); omega) | trivial | (refine ⟨?_, ?_, ?_, ?_, ?_, ?_, ?_, ?_, ?_, ?_, ?_, ?_, ?_, ?_⟩ <;> first | assumption | omega) | decide | (exact decide_eq_true (by omega)) | k_extra "pre")); (case h2 => (first | assumption | omega | ((try dsimp only); omega) | ((try dsimp only); (simp (disch := decide) only [Int.fdiv_eq_ediv_of_nonneg, Int.fmod_eq_emod_of_nonneg]); omega) | trivial | (refine ⟨?_, ?_, ?_, ?_, ?_, ?_, ?_, ?_, ?_, ?_, ?_, ?_, ?_, ?_⟩ <;> first | assumption | omega) | decide | (exact decide_eq_true (by omega)) | k_extra "pre")); (case h3 => (first | assumption | omega | ((try dsimp only); omega) | ((try dsimp only); (simp (disch := decide) only [Int.fdiv_eq_ediv_of_nonneg, Int.fmod_eq_emod_of_nonneg]); omega) | trivial | (refine ⟨?_, ?_, ?_, ?_, ?_, ?_, ?_, ?_, ?_, ?_, ?_, ?_, ?_, ?_⟩ <;> first | assumption | omega) | decide | (exact decide_eq_true (by omega)) | k_extra "pre")); (case h4 => (first | assumption | omega | ((try dsimp only); omega) | ((try dsimp only); (simp (disch := decide) only [Int.fdiv_eq_ediv_of_nonneg, Int.fmod_eq_emod_of_nonneg]); omega) | trivial | (refine ⟨?_, ?_, ?_, ?_, ?_, ?_, ?_, ?_, ?_, ?_, ?_, ?_, ?_, ?_⟩ <;> first | assumption | omega) | decide | (exact decide_eq_true (by omega)) | k_extra "pre")); (case h5 => (first | assumption | omega | ((try dsimp only); omega) | ((try dsimp only); (simp (disch := decide) only [Int.fdiv_eq_ediv_of_nonneg, Int.fmod_eq_emod_of_nonneg]); omega) | trivial | (refine ⟨?_, ?_, ?_, ?_, ?_, ?_, ?_, ?_, ?_, ?_, ?_, ?_, ?_, ?_⟩ <;> first | assumption | omega) | decide | (exact decide_eq_true (by omega)) | k_extra "pre")); (case h6 => (first | assumption | omega | ((try dsimp only); omega) | ((try dsimp only); (simp (disch := decide) only [Int.fdiv_eq_ediv_of_nonneg, Int.fmod_eq_emod_of_nonneg]); omega) | trivial | (refine ⟨?_, ?_, ?_, ?_, ?_, ?_, ?_, ?_, ?_, ?_, ?_, ?_, ?_, ?_⟩ <;> first | assumption | omega) | decide | (exact decide_eq_true (by omega)) | k_extra "pre")); intro v9 h9 tk9 F9 N9 R9; (try dsimp only at R9); (obtain ⟨t9, e9⟩ := R9); (subst e9); (try dsimp only); (try k_sweep); (try k_fold))
  k_with "eval Call Name" => (k_here; (with_reducible show wpAny _ _ (eval (Expr.Call (Expr.Name "past_white" _) _ _ _) _) _ _ _); refine Call_ ?_)
  k_with "call ref" => (k_here; (with_reducible show wpAny _ _ (call (Value.ref 123) _) _ _ _); k_dflt (refine' pur_use (past_white_c _ _ _ _ _ _ _ ?h1 ?h2) ?k1 ?k2 ?k3 ?k4 ?k5 ?kK ?kd ?ku ?_; (case k1 => k_asm); (case k2 => k_asm); (case k3 => k_asm); (case k4 => k_asm); (case k5 => k_asm); (case kK => first | exact rfl | assumption); (case kd => ktr_room); (case ku => ktr_units)); (case h1 => (first | assumption | omega | ((try dsimp only); omega) | ((try dsimp only); (simp (disch := decide) only [Int.fdiv_eq_ediv_of_nonneg, Int.fmod_eq_emod_of_nonneg]); omega) | trivial | (refine ⟨?_, ?_, ?_, ?_, ?_, ?_, ?_, ?_, ?_, ?_, ?_, ?_, ?_, ?_⟩ <;> first | assumption | omega) | decide | (exact decide_eq_true (by omega)) | k_extra "pre")); (case h2 => (first | assumption | omega | ((try dsimp only); omega) | ((try dsimp only); (simp (disch := decide) only [Int.fdiv_eq_ediv_of_nonneg, Int.fmod_eq_emod_of_nonneg]); omega) | trivial | (refine ⟨?_, ?_, ?_, ?_, ?_, ?_, ?_, ?_, ?_, ?_, ?_, ?_, ?_, ?_⟩ <;> first | assumption | omega) | decide | (exact decide_eq_true (by omega)) | k_extra "pre")); intro v9 h9 tk9 F9 N9 R9; (try dsimp only at R9); (obtain ⟨t9, e9⟩ := R9); (subst e9); (try dsimp only); (try k_sweep); (try k_fold))
  k_with "eval Call Name" => (k_here; (with_reducible show wpAny _ _ (eval (Expr.Call (Expr.Name "atom_at" _) _ _ _) _) _ _ _); refine Call_ ?_)
  k_with "call ref" => (k_here; (with_reducible show wpAny _ _ (call (Value.ref 109) _) _ _ _); k_dflt (refine' spc_use (atom_at_c _ _ _ _ _ _ _ ?h1 ?h2) ?k1 ?k2 ?k3 ?k4 ?k5 ?kK ?kd ?ku ?ki ?_; (case k1 => k_asm); (case k2 => k_asm); (case k3 => k_asm); (case k4 => k_asm); (case k5 => k_asm); (case kK => first | exact rfl | assumption); (case kd => ktr_room); (case ku => ktr_units); (case ki => exact trivial)); (case h1 => (first | assumption | omega | ((try dsimp only); omega) | ((try dsimp only); (simp (disch := decide) only [Int.fdiv_eq_ediv_of_nonneg, Int.fmod_eq_emod_of_nonneg]); omega) | trivial | (refine ⟨?_, ?_, ?_, ?_, ?_, ?_, ?_, ?_, ?_, ?_, ?_, ?_, ?_, ?_⟩ <;> first | assumption | omega) | decide | (exact decide_eq_true (by omega)) | k_extra "pre")); (case h2 => (first | assumption | omega | ((try dsimp only); omega) | ((try dsimp only); (simp (disch := decide) only [Int.fdiv_eq_ediv_of_nonneg, Int.fmod_eq_emod_of_nonneg]); omega) | trivial | (refine ⟨?_, ?_, ?_, ?_, ?_, ?_, ?_, ?_, ?_, ?_, ?_, ?_, ?_, ?_⟩ <;> first | assumption | omega) | decide | (exact decide_eq_true (by omega)) | k_extra "pre")); intro v9 n9 h9 tk9 F9 N9 R9; (try dsimp only at R9); (obtain ⟨x9, t91, t92, e9, en9, hl9⟩ := R9); (subst e9; subst en9; (try simp only [AllLt, and_true] at hl9)); (try dsimp only); (try k_sweep); (try k_fold))
  k_with "eval Call Name" => (k_here; (with_reducible show wpAny _ _ (eval (Expr.Call (Expr.Name "token_at" _) _ _ _) _) _ _ _); refine Call_ ?_)
  k_with "call ref" => (k_here; (with_reducible show wpAny _ _ (call (Value.ref 116) _) _ _ _); k_dflt (refine' spc_use (token_a_c _ _ _ _ _ _ _ ?h1 ?h2) ?k1 ?k2 ?k3 ?k4 ?k5 ?kK ?kd ?ku ?ki ?_; (case k1 => k_asm); (case k2 => k_asm); (case k3 => k_asm); (case k4 => k_asm); (case k5 => k_asm); (case kK => first | exact rfl | assumption); (case kd => ktr_room); (case ku => ktr_units); (case ki => exact trivial)); (case h1 => (first | assumption | omega | ((try dsimp only); omega) | ((try dsimp only); (simp (disch := decide) only [Int.fdiv_eq_ediv_of_nonneg, Int.fmod_eq_emod_of_nonneg]); omega) | trivial | (refine ⟨?_, ?_, ?_, ?_, ?_, ?_, ?_, ?_, ?_, ?_, ?_, ?_, ?_, ?_⟩ <;> first | assumption | omega) | decide | (exact decide_eq_true (by omega)) | k_extra "pre")); (case h2 => (first | assumption | omega | ((try dsimp only); omega) | ((try dsimp only); (simp (disch := decide) only [Int.fdiv_eq_ediv_of_nonneg, Int.fmod_eq_emod_of_nonneg]); omega) | trivial | (refine ⟨?_, ?_, ?_, ?_, ?_, ?_, ?_, ?_, ?_, ?_, ?_, ?_, ?_, ?_⟩ <;> first | assumption | omega) | decide | (exact decide_eq_true (by omega)) | k_extra "pre")); intro v9 n9 h9 tk9 F9 N9 R9; (try dsimp only at R9); (obtain ⟨x9, y9, t91, t92, t93, t94, e9, en9, hl9, hm9⟩ := R9); (subst e9; subst en9; (try simp only [AllLt, and_true] at hl9); (replace hm9 := ltN hm9)); (try dsimp only); (try k_sweep); (try k_fold))
  k_with "eval Call Name" => (k_here; (with_reducible show wpAny _ _ (eval (Expr.Call (Expr.Name "token_at" _) _ _ _) _) _ _ _); refine Call_ ?_)
  k_with "call ref" => (k_here; (with_reducible show wpAny _ _ (call (Value.ref 116) _) _ _ _); k_dflt (refine' spc_use (token_s_c _ _ _ _ _ _ _ _ ?h1 ?h2) ?k1 ?k2 ?k3 ?k4 ?k5 ?kK ?kd ?ku ?ki ?_; (case k1 => k_asm); (case k2 => k_asm); (case k3 => k_asm); (case k4 => k_asm); (case k5 => k_asm); (case kK => first | exact rfl | assumption); (case kd => ktr_room); (case ku => ktr_units); (case ki => exact trivial)); (case h1 => (first | assumption | omega | ((try dsimp only); omega) | ((try dsimp only); (simp (disch := decide) only [Int.fdiv_eq_ediv_of_nonneg, Int.fmod_eq_emod_of_nonneg]); omega) | trivial | (refine ⟨?_, ?_, ?_, ?_, ?_, ?_, ?_, ?_, ?_, ?_, ?_, ?_, ?_, ?_⟩ <;> first | assumption | omega) | decide | (exact decide_eq_true (by omega)) | k_extra "pre")); (case h2 => (first | assumption | omega | ((try dsimp only); omega) | ((try dsimp only); (simp (disch := decide) only [Int.fdiv_eq_ediv_of_nonneg, Int.fmod_eq_emod_of_nonneg]); omega) | trivial | (refine ⟨?_, ?_, ?_, ?_, ?_, ?_, ?_, ?_, ?_, ?_, ?_, ?_, ?_, ?_⟩ <;> first | assumption | omega) | decide | (exact decide_eq_true (by omega)) | k_extra "pre")); intro v9 n9 h9 tk9 F9 N9 R9; (try dsimp only at R9); (obtain ⟨x9, y9, t91, t92, t93, t94, e9, en9, hl9, hm9⟩ := R9); (subst e9; subst en9; (try simp only [AllLt, and_true] at hl9); (replace hm9 := ltN hm9)); (try dsimp only); (try k_sweep); (try k_fold))
  k_with "eval Call Name" => (k_here; (with_reducible show wpAny _ _ (eval (Expr.Call (Expr.Name "token_at" _) _ _ _) _) _ _ _); refine Call_ ?_)
  k_with "call ref" => (k_here; (with_reducible show wpAny _ _ (call (Value.ref 116) _) _ _ _); k_dflt (refine' spc_use (token_c _ _ _ _ _ _ _ ?h1 ?h2 ?h3) ?k1 ?k2 ?k3 ?k4 ?k5 ?kK ?kd ?ku ?ki ?_; (case k1 => k_asm); (case k2 => k_asm); (case k3 => k_asm); (case k4 => k_asm); (case k5 => k_asm); (case kK => first | exact rfl | assumption); (case kd => ktr_room); (case ku => ktr_units); (case ki => exact trivial)); (case h1 => (first | assumption | omega | ((try dsimp only); omega) | ((try dsimp only); (simp (disch := decide) only [Int.fdiv_eq_ediv_of_nonneg, Int.fmod_eq_emod_of_nonneg]); omega) | trivial | (refine ⟨?_, ?_, ?_, ?_, ?_, ?_, ?_, ?_, ?_, ?_, ?_, ?_, ?_, ?_⟩ <;> first | assumption | omega) | decide | (exact decide_eq_true (by omega)) | k_extra "pre")); (case h2 => (first | assumption | omega | ((try dsimp only); omega) | ((try dsimp only); (simp (disch := decide) only [Int.fdiv_eq_ediv_of_nonneg, Int.fmod_eq_emod_of_nonneg]); omega) | trivial | (refine ⟨?_, ?_, ?_, ?_, ?_, ?_, ?_, ?_, ?_, ?_, ?_, ?_, ?_, ?_⟩ <;> first | assumption | omega) | decide | (exact decide_eq_true (by omega)) | k_extra "pre")); (case h3 => (first | assumption | omega | ((try dsimp only); omega) | ((try dsimp only); (simp (disch := decide) only [Int.fdiv_eq_ediv_of_nonneg, Int.fmod_eq_emod_of_nonneg]); omega) | trivial | (refine ⟨?_, ?_, ?_, ?_, ?_, ?_, ?_, ?_, ?_, ?_, ?_, ?_, ?_, ?_⟩ <;> first | assumption | omega) | decide | (exact decide_eq_true (by omega)) | k_extra "pre")); intro v9 n9 h9 tk9 F9 N9 R9; (try dsimp only at R9); (obtain ⟨x9, y9, t91, t92, t93, t94, e9, en9, hl9, hm9⟩ := R9); (subst e9; subst en9; (try simp only [AllLt, and_true] at hl9); (replace hm9 := ltN hm9)); (try dsimp only); (try k_sweep); (try k_fold))
  k_with "eval Call Name" => (k_here; (with_reducible show wpAny _ _ (eval (Expr.Call (Expr.Name "tokens_of" _) _ _ _) _) _ _ _); refine Call_ ?_)
  k_with "call ref" => (k_here; (with_reducible show wpAny _ _ (call (Value.ref 130) _) _ _ _); k_dflt (refine' spc_use (tokens_of_c _ _ _ _ _ ?h1 ?h2) ?k1 ?k2 ?k3 ?k4 ?k5 ?kK ?kd ?ku ?ki ?_; (case k1 => k_asm); (case k2 => k_asm); (case k3 => k_asm); (case k4 => k_asm); (case k5 => k_asm); (case kK => first | exact rfl | assumption); (case kd => ktr_room); (case ku => ktr_units); (case ki => exact trivial)); (case h1 => (first | assumption | omega | ((try dsimp only); omega) | ((try dsimp only); (simp (disch := decide) only [Int.fdiv_eq_ediv_of_nonneg, Int.fmod_eq_emod_of_nonneg]); omega) | trivial | (refine ⟨?_, ?_, ?_, ?_, ?_, ?_, ?_, ?_, ?_, ?_, ?_, ?_, ?_, ?_⟩ <;> first | assumption | omega) | decide | (exact decide_eq_true (by omega)) | k_extra "pre")); (case h2 => (first | assumption | omega | ((try dsimp only); omega) | ((try dsimp only); (simp (disch := decide) only [Int.fdiv_eq_ediv_of_nonneg, Int.fmod_eq_emod_of_nonneg]); omega) | trivial | (refine ⟨?_, ?_, ?_, ?_, ?_, ?_, ?_, ?_, ?_, ?_, ?_, ?_, ?_, ?_⟩ <;> first | assumption | omega) | decide | (exact decide_eq_true (by omega)) | k_extra "pre")); intro v9 n9 h9 tk9 F9 N9 R9; (try dsimp only at R9); (obtain ⟨f9, vs9, cap9, made9, e9, en9, hT9, hsub9, hne9⟩ := R9); (subst e9; subst en9); (try dsimp only); (try k_sweep); (try k_fold))
  k_with "eval Call Name" => (k_here; (with_reducible show wpAny _ _ (eval (Expr.Call (Expr.Name "lower_code" _) _ _ _) _) _ _ _); refine Call_ ?_)
  k_with "call ref" => (k_here; (with_reducible show wpAny _ _ (call (Value.ref 61) _) _ _ _); k_dflt (refine' pur_use (lower_code_c _ _ _) ?k1 ?k2 ?k3 ?k4 ?k5 ?kK ?kd ?ku ?_; (case k1 => k_asm); (case k2 => k_asm); (case k3 => k_asm); (case k4 => k_asm); (case k5 => k_asm); (case kK => first | exact rfl | assumption); (case kd => ktr_room); (case ku => ktr_units)); intro v9 h9 tk9 F9 N9 R9; (try dsimp only at R9); (obtain ⟨t9, e9⟩ := R9); (subst e9); (try dsimp only); (try k_sweep); (try k_fold))
  k_with "eval ListComp" => ((with_reducible show wpAny _ _ (eval (Expr.ListComp (Expr.Call (Expr.Name "chr" _) [Expr.Call (Expr.Name "lower_code" _) _ _ _] _ _) _ _ _) _) _ _ _); walk_at "NZ ECOMP")
  k_with "eval Call Name" => (k_here; (with_reducible show wpAny _ _ (eval (Expr.Call (Expr.Name "lower_text" _) _ _ _) _) _ _ _); refine Call_ ?_)
  k_with "call ref" => (k_here; (with_reducible show wpAny _ _ (call (Value.ref 66) _) _ _ _); k_dflt (refine' pur_use (lower_text_c _ _ _ ?h1 ?h2) ?k1 ?k2 ?k3 ?k4 ?k5 ?kK ?kd ?ku ?_; (case k1 => k_asm); (case k2 => k_asm); (case k3 => k_asm); (case k4 => k_asm); (case k5 => k_asm); (case kK => first | exact rfl | assumption); (case kd => ktr_room); (case ku => ktr_units)); (case h1 => (first | assumption | omega | ((try dsimp only); omega) | ((try dsimp only); (simp (disch := decide) only [Int.fdiv_eq_ediv_of_nonneg, Int.fmod_eq_emod_of_nonneg]); omega) | trivial | (refine ⟨?_, ?_, ?_, ?_, ?_, ?_, ?_, ?_, ?_, ?_, ?_, ?_, ?_, ?_⟩ <;> first | assumption | omega) | decide | (exact decide_eq_true (by omega)) | k_extra "pre")); (case h2 => (first | assumption | omega | ((try dsimp only); omega) | ((try dsimp only); (simp (disch := decide) only [Int.fdiv_eq_ediv_of_nonneg, Int.fmod_eq_emod_of_nonneg]); omega) | trivial | (refine ⟨?_, ?_, ?_, ?_, ?_, ?_, ?_, ?_, ?_, ?_, ?_, ?_, ?_, ?_⟩ <;> first | assumption | omega) | decide | (exact decide_eq_true (by omega)) | k_extra "pre")); intro v9 h9 tk9 F9 N9 R9; (try dsimp only at R9); (obtain ⟨t9, e9, hl9⟩ := R9); (subst e9); (try dsimp only); (try k_sweep); (try k_fold))
  k_with "eval Call Name" => (k_here; (with_reducible show wpAny _ _ (eval (Expr.Call (Expr.Name "without_comments" _) _ _ _) _) _ _ _); refine Call_ ?_)
  k_with "call ref" => (k_here; (with_reducible show wpAny _ _ (call (Value.ref 135) _) _ _ _); k_dflt (refine' spc_use (without_comments_c _ _ _ _ _ _) ?k1 ?k2 ?k3 ?k4 ?k5 ?kK ?kd ?ku ?ki ?_; (case k1 => k_asm); (case k2 => k_asm); (case k3 => k_asm); (case k4 => k_asm); (case k5 => k_asm); (case kK => first | exact rfl | assumption); (case kd => ktr_room); (case ku => ktr_units); (case ki => exact ⟨by k_mem, TkIn.mono (by assumption) (by walk_at "NZ SUB")⟩)); intro v9 n9 h9 tk9 F9 N9 R9; (try dsimp only at R9); (obtain ⟨d9, e9, en9, hd9⟩ := R9); (subst e9; subst en9); (try dsimp only); (try k_sweep); (try k_fold))
  k_with "eval Call Name" => (k_here; (with_reducible show wpAny _ _ (eval (Expr.Call (Expr.Name "DateReader" _) _ _ _) _) _ _ _); refine Call_ ?_)
  k_with "call ref" => (k_here; (with_reducible show wpAny _ _ (call (Value.ref 339) _) _ _ _); k_dflt (refine' spc_use (reader_c _ _ _ _ _ ?h1 ?h2) ?k1 ?k2 ?k3 ?k4 ?k5 ?kK ?kd ?ku ?ki ?_; (case k1 => k_asm); (case k2 => k_asm); (case k3 => k_asm); (case k4 => k_asm); (case k5 => k_asm); (case kK => first | exact rfl | assumption); (case kd => ktr_room); (case ku => ktr_units); (case ki => exact trivial)); (case h1 => (first | assumption | omega | ((try dsimp only); omega) | ((try dsimp only); (simp (disch := decide) only [Int.fdiv_eq_ediv_of_nonneg, Int.fmod_eq_emod_of_nonneg]); omega) | trivial | (refine ⟨?_, ?_, ?_, ?_, ?_, ?_, ?_, ?_, ?_, ?_, ?_, ?_, ?_, ?_⟩ <;> first | assumption | omega) | decide | (exact decide_eq_true (by omega)) | k_extra "pre")); (case h2 => (first | assumption | omega | ((try dsimp only); omega) | ((try dsimp only); (simp (disch := decide) only [Int.fdiv_eq_ediv_of_nonneg, Int.fmod_eq_emod_of_nonneg]); omega) | trivial | (refine ⟨?_, ?_, ?_, ?_, ?_, ?_, ?_, ?_, ?_, ?_, ?_, ?_, ?_, ?_⟩ <;> first | assumption | omega) | decide | (exact decide_eq_true (by omega)) | k_extra "pre")); intro v9 n9 h9 tk9 F9 N9 R9; (try dsimp only at R9); (obtain ⟨rx9, dx9, dl9, vs9, rest9, k91, k92, k93, u91, u92, e9, en9, hsub9, hR9⟩ := R9); (subst e9; subst en9; (have hx9 := ltN hR9.lt); (have hne9 := hR9.ne); (have gl9 := hR9.gl); (have hz9 := hR9.size)); (try dsimp only); (try k_sweep); (try k_fold))
  k_with "eval Call Name" => (k_here; (with_reducible show wpAny _ _ (eval (Expr.Call (Expr.Name "is_figures" _) _ _ _) _) _ _ _); refine Call_ ?_)
  k_with "call ref" => (k_here; (with_reducible show wpAny _ _ (call (Value.ref 277) _) _ _ _); k_dflt (refine' pur_use (is_figures_c _ _ _ ?h1 ?h2 ?h3) ?k1 ?k2 ?k3 ?k4 ?k5 ?kK ?kd ?ku ?_; (case k1 => k_asm); (case k2 => k_asm); (case k3 => k_asm); (case k4 => k_asm); (case k5 => k_asm); (case kK => first | exact rfl | assumption); (case kd => ktr_room); (case ku => ktr_units)); (case h1 => (first | assumption | omega | ((try dsimp only); omega) | ((try dsimp only); (simp (disch := decide) only [Int.fdiv_eq_ediv_of_nonneg, Int.fmod_eq_emod_of_nonneg]); omega) | trivial | (refine ⟨?_, ?_, ?_, ?_, ?_, ?_, ?_, ?_, ?_, ?_, ?_, ?_, ?_, ?_⟩ <;> first | assumption | omega) | decide | (exact decide_eq_true (by omega)) | k_extra "pre")); (case h2 => (first | assumption | omega | ((try dsimp only); omega) | ((try dsimp only); (simp (disch := decide) only [Int.fdiv_eq_ediv_of_nonneg, Int.fmod_eq_emod_of_nonneg]); omega) | trivial | (refine ⟨?_, ?_, ?_, ?_, ?_, ?_, ?_, ?_, ?_, ?_, ?_, ?_, ?_, ?_⟩ <;> first | assumption | omega) | decide | (exact decide_eq_true (by omega)) | k_extra "pre")); (case h3 => (first | assumption | omega | ((try dsimp only); omega) | ((try dsimp only); (simp (disch := decide) only [Int.fdiv_eq_ediv_of_nonneg, Int.fmod_eq_emod_of_nonneg]); omega) | trivial | (refine ⟨?_, ?_, ?_, ?_, ?_, ?_, ?_, ?_, ?_, ?_, ?_, ?_, ?_, ?_⟩ <;> first | assumption | omega) | decide | (exact decide_eq_true (by omega)) | k_extra "pre")); intro v9 h9 tk9 F9 N9 R9; (try dsimp only at R9); (subst R9); (try dsimp only); (try k_sweep); (try k_fold))
  k_with "eval ListComp" => ((with_reducible show wpAny _ _ (eval (Expr.ListComp (Expr.Call (Expr.Name "chr" _) [Expr.Name "code" _] _ _) _ _ _) _) _ _ _); walk_at "NZ ECOMP")
  k_with "call ref" => (k_here; (with_reducible show wpAny _ _ (call (Value.ref 315) _) _ _ _); k_dflt (refine' spcp_use (atom_c _ _ _ _ _ _ _ _ _ _ _ _ ?h0 ?h1 ?h2 ?h3 ?h4 ?h5) ?k1 ?k2 ?k3 ?k4 ?k5 ?kK ?kd ?ku ?ki ?_; (case k1 => k_asm); (case k2 => k_asm); (case k3 => k_asm); (case k4 => k_asm); (case k5 => k_asm); (case kK => first | exact rfl | assumption); (case kd => ktr_room); (case ku => ktr_units); (case h0 => assumption); (case ki => exact ⟨_, _, _, _, _, by k_mem, by k_mem, fun p hp => by (repeat (first | exact hp | refine List.Mem.tail _ ?_))⟩)); (case h1 => first | assumption | k_dflt (exact rfl)); (case h2 => (first | assumption | omega | ((try dsimp only); omega) | ((try dsimp only); (simp (disch := decide) only [Int.fdiv_eq_ediv_of_nonneg, Int.fmod_eq_emod_of_nonneg]); omega) | trivial | (refine ⟨?_, ?_, ?_, ?_, ?_, ?_, ?_, ?_, ?_, ?_, ?_, ?_, ?_, ?_⟩ <;> first | assumption | omega) | decide | (exact decide_eq_true (by omega)) | k_extra "pre")); (case h3 => (first | assumption | omega | ((try dsimp only); omega) | ((try dsimp only); (simp (disch := decide) only [Int.fdiv_eq_ediv_of_nonneg, Int.fmod_eq_emod_of_nonneg]); omega) | trivial | (refine ⟨?_, ?_, ?_, ?_, ?_, ?_, ?_, ?_, ?_, ?_, ?_, ?_, ?_, ?_⟩ <;> first | assumption | omega) | decide | (exact decide_eq_true (by omega)) | k_extra "pre")); (case h4 => (first | assumption | omega | ((try dsimp only); omega) | ((try dsimp only); (simp (disch := decide) only [Int.fdiv_eq_ediv_of_nonneg, Int.fmod_eq_emod_of_nonneg]); omega) | trivial | (refine ⟨?_, ?_, ?_, ?_, ?_, ?_, ?_, ?_, ?_, ?_, ?_, ?_, ?_, ?_⟩ <;> first | assumption | omega) | decide | (exact decide_eq_true (by omega)) | k_extra "pre")); (case h5 => (first | assumption | omega | ((try dsimp only); omega) | ((try dsimp only); (simp (disch := decide) only [Int.fdiv_eq_ediv_of_nonneg, Int.fmod_eq_emod_of_nonneg]); omega) | trivial | (refine ⟨?_, ?_, ?_, ?_, ?_, ?_, ?_, ?_, ?_, ?_, ?_, ?_, ?_, ?_⟩ <;> first | assumption | omega) | decide | (exact decide_eq_true (by omega)) | k_extra "pre")); intro v9 h9 tk9 F9 N9 R9; (try dsimp only at R9); (obtain ⟨t9, e9⟩ := R9); (subst e9); (try dsimp only); (try k_sweep); (try k_fold))
  k_with "subscriptTail" => (k_here; (with_reducible show wpAny _ _ (subscriptTail _ (PySem.Expr.Slice none _ none _) (Value.ref _) (Value.ref _)) _ _ _); k_dflt (refine' slice_to2 ?F ?N ?t ?_ ?s ?g; (case F => k_asm); (case N => k_asm); (case t => exact News.isTup (by k_asm) (by k_mem)); (case s => with_unfolding_all rfl); (case g => kmk_pure)); intro D' h' F' N' l1; (try k_lt l1); (try k_sweep))
  k_with "compareOp NotEq ref ref" => (k_here; k_dflt (refine' ne_sb ?N ?a ?b ?u ?_; (case N => k_asm); (case a => k_mem); (case b => k_mem); (case u => ktr_units)))
  k_with "call ref" => (k_here; (with_reducible show wpAny _ _ (call (Value.ref 336) _) _ _ _); k_dflt (refine' spc_use (need_c _ _ _ _ _ _ _ _ _ _ _ _ _ ?h0 ?h1) ?k1 ?k2 ?k3 ?k4 ?k5 ?kK ?kd ?ku ?ki ?_; (case k1 => k_asm); (case k2 => k_asm); (case k3 => k_asm); (case k4 => k_asm); (case k5 => k_asm); (case kK => first | exact rfl | assumption); (case kd => ktr_room); (case ku => ktr_units); (case h0 => assumption); (case ki => exact ⟨_, _, _, _, _, by k_mem, by k_mem, fun p hp => by (repeat (first | exact hp | refine List.Mem.tail _ ?_))⟩)); (case h1 => (first | assumption | omega | ((try dsimp only); omega) | ((try dsimp only); (simp (disch := decide) only [Int.fdiv_eq_ediv_of_nonneg, Int.fmod_eq_emod_of_nonneg]); omega) | trivial | (refine ⟨?_, ?_, ?_, ?_, ?_, ?_, ?_, ?_, ?_, ?_, ?_, ?_, ?_, ?_⟩ <;> first | assumption | omega) | decide | (exact decide_eq_true (by omega)) | k_extra "pre")); intro v9 n9 h9 tk9 F9 N9 R9; (try dsimp only at R9); (obtain ⟨e9, k91, k92, k93, u91, u92, en9⟩ := R9); (subst e9; subst en9); (try dsimp only); (try k_sweep); (try k_fold))
  trivial
theorem rows_46_34 : True := by
  k_with "call ref" => (k_here; (with_reducible show wpAny _ _ (call (Value.ref 310) _) _ _ _); k_dflt (refine' spcp_use (place_c _ _ _ _ _ _ _ _ _ _ _ ?h0 ?h1 ?h2 ?h3) ?k1 ?k2 ?k3 ?k4 ?k5 ?kK ?kd ?ku ?ki ?_; (case k1 => k_asm); (case k2 => k_asm); (case k3 => k_asm); (case k4 => k_asm); (case k5 => k_asm); (case kK => first | exact rfl | assumption); (case kd => ktr_room); (case ku => ktr_units); (case h0 => assumption); (case ki => exact ⟨_, _, _, _, _, by k_mem, by k_mem, fun p hp => by (repeat (first | exact hp | refine List.Mem.tail _ ?_))⟩)); (case h1 => first | assumption | k_dflt (exact rfl)); (case h2 => (first | assumption | omega | ((try dsimp only); omega) | ((try dsimp only); (simp (disch := decide) only [Int.fdiv_eq_ediv_of_nonneg, Int.fmod_eq_emod_of_nonneg]); omega) | trivial | (refine ⟨?_, ?_, ?_, ?_, ?_, ?_, ?_, ?_, ?_, ?_, ?_, ?_, ?_, ?_⟩ <;> first | assumption | omega) | decide | (exact decide_eq_true (by omega)) | k_extra "pre")); (case h3 => (first | assumption | omega | ((try dsimp only); omega) | ((try dsimp only); (simp (disch := decide) only [Int.fdiv_eq_ediv_of_nonneg, Int.fmod_eq_emod_of_nonneg]); omega) | trivial | (refine ⟨?_, ?_, ?_, ?_, ?_, ?_, ?_, ?_, ?_, ?_, ?_, ?_, ?_, ?_⟩ <;> first | assumption | omega) | decide | (exact decide_eq_true (by omega)) | k_extra "pre")); intro v9 h9 tk9 F9 N9 R9; (try dsimp only at R9); (obtain ⟨t9, e9⟩ := R9); (subst e9); (try dsimp only); (try k_sweep); (try k_fold))
  trivial
theorem skip_c (w : World) (x : Array UInt8) (D : Int) (rest : List (Addr × Obj)) (vs : List Value) (rx dx dl : Addr) (ln i a b : Int) (c : Array UInt8) (c' : UInt8) (t : Tok) (hR : Rdr x D rest vs rx dx dl) (hc : c = #[c']) (htk : (dTk D)[i.toNat]? = some (.s a b c')) (hi0 : 0 ≤ i) (hi1 : i < 11) :
    Spc w 4 (.ref 322) [.ref rx, .bytes c t] (RdS w rx dx dl ln rest i) (fun _ v news' => v = .bool true ∧ RdO w rx dx dl ln rest (i + 1) news') := by
  (try unfold Pur)
  unfold Spc
  k_fill
  intro mean mg mb dp un gd cn cs aF ccd cl outer A₀ base h₀ LF mF news sF QF EF B F X N T hk hdp hun hin hret
  obtain ⟨k1, k2, k3, u1, u2, g1, g2, gs⟩ := hin
  obtain ⟨hz, qa, z1, z2, z3, hit, g4⟩ := hR.at htk
  replace g4 : ((qa, { cls := .type "tuple", data := .seq #[.str (Str.ofString "sign") z1, .bytes c z2, .int a z3] }) : Addr × Obj) ∈ rest := by rw [hc]; exact g4
  have g3 := hR.gl
  replace N := rd_news N g1 g2 gs
  have hne := hR.ne
  have hx := hR.lt
  clear hR htk hc
  refine wpAny_call ?_
  k_dflt cell_enter
  (with_reducible rename Fr _ _ _ (fun nzy => List.lookup nzy _) => F0)
  replace F0 := fr_eq (m' := fun nzy => List.lookup nzy ([(Str.ofString "sign", Value.bytes c t), (Str.ofString "self", Value.ref rx)] : List (Str × Value))) F0 (by kernel_rfl)
  k_with "subscriptTail" => (k_here; (with_reducible show wpAny _ _ (subscriptTail (Expr.Name _ _) (Expr.Attribute _ _ _) (Value.ref _) (Value.int _ _)) _ _ _); k_dflt (refine PyProof.Rows.item_list (News.isList (by k_asm) (by k_mem)) (by omega) (by omega) (by assumption) ?_))
  k_steps
  all_goals (refine' hret _ _ _ _ ?e2 ?e3 ⟨rfl, _, _, _, _, _, rfl⟩; (case e2 => k_asm); (case e3 => (first | k_asm | (refine' news_drop ?cbN ?cbS; (case cbN => assumption); (case cbS => exact List.forall_mem_cons.mpr ⟨by k_mem, List.forall_mem_cons.mpr ⟨by k_mem, fun p hp => by (repeat (first | exact hp | refine List.Mem.tail _ ?_))⟩⟩)))))
theorem rows_46_35 : True := by
  k_with_none
  k_with "NZ LOOK" => ((repeat (first | exact if_hit | refine if_miss (by kernel_rfl) ?_ | exact lk_hit | refine lk_miss (by kernel_rfl) ?_ | assumption)); done)
  k_with "ite" => (k_closed; first | (with_reducible refine ite_neg Bool.false_ne_true ?_) | (with_reducible refine ite_pos rfl ?_) | (with_reducible refine ite_neg (by decide +kernel) ?_) | (with_reducible refine ite_pos (by decide +kernel) ?_))
  k_with "subscriptTail" => ((with_reducible show wpAny _ _ (subscriptTail (Expr.Attribute _ _ _) _ _ _) _ _ _); walk_at "last subscriptTail")
  k_with "NZ SUB" => (intro p9 hp9; (repeat (first | exact hp9 | exact List.mem_append_left _ hp9 | (refine (‹∀ p : Addr × Obj, p ∈ _ → p ∈ _› p9 ?_); exact hp9) | refine List.Mem.tail _ ?_)))
  k_with "eval Name" => (k_here; (with_reducible rename Fr _ _ _ _ => kF); with_reducible (refine' nameX_K kF ?nzX ?nzT ?nze ?_ ?nzk ?nza ?nzb; (case nzX => assumption); (case nzT => k_asm); (case nze => k_is); (case nzk => first | exact rfl | assumption); (case nza => kernel_rfl); (case nzb => kernel_rfl); k_whole))
  k_with "eval Name" => (k_here; (with_reducible rename Fr _ _ _ _ => kF); with_reducible (refine' nameX_L kF ?nzv ?_ ?nzk ?nza ?nzb; (case nza => kernel_rfl!); (case nzv => walk_at "NZ LOOK"); (case nzk => first | exact rfl | assumption); (case nzb => kernel_rfl); k_whole))
  k_with "callWith ref" => (k_here; with_reducible (refine' cw_some ?nzx ?nzk ?_ ?nzhe ?nzhp; (case nzx => assumption); (case nzk => k_is); (case nzhe => kernel_rfl); (case nzhp => kernel_rfl); k_whole))
  k_with "callWith ref" => (k_here; with_reducible (refine' cw_none ?nzx ?nzF ?nzk ?_; (case nzx => assumption); (case nzF => assumption); (case nzk => k_is); k_whole))
  k_with "CompEnd" => (k_dflt (refine' end_same ?a1 ?a2 ?a3 ?a4 ?_; (case a1 => k_asm); (case a2 => k_asm); (case a3 => assumption); (case a4 => lcg_src)))
  k_with "NZ TUP" => (k_dflt (refine' GSrc.tup ?a1 ?a2 ?a3 ?a4 ?a5 ?_; (case a1 => rfl); (case a2 => k_asm); (case a3 => k_asm); (case a4 => first | exact Or.inr ⟨_, by k_mem, rfl, _, rfl⟩ | exact Or.inl (by assumption)); (case a5 => first | exact Nat.le_of_ble_eq_true rfl | size_fits)); intro g')
  k_with "NZ TURN" => (refine ⟨_, _, rfl, by k_asm, by (first | k_asm | (refine' news_drop ?cbN ?cbS; (case cbN => assumption); (case cbS => kcj_all))), ?_⟩)
  k_with "NZ ACOMP" => (k_here; k_dflt (refine Assign_ListComp_G (by k_asm) (by rfl) (by with_unfolding_all rfl) (by rfl) (by decide) (by rfl) (by decide) (by rfl) (by rfl) (by rfl) ?_))
  k_with "NZ ECOMP" => (k_here; k_dflt (refine ListComp_G (by k_asm) (by rfl) (by decide) (by rfl) (by decide) (by rfl) ?_))
  k_with "compareOp In int" => (k_here; (with_reducible show wpAny _ _ (compareOp CmpOp.In (Value.int _ _) (Value.bytes _ _)) _ _ _); (refine By.int_in_bytes (by omega) (by omega) ?_))
  k_with "compareOp In bytes" => (k_here; (with_reducible show wpAny _ _ (compareOp CmpOp.In (Value.bytes _ _) (Value.bytes _ _)) _ _ _); k_dflt (refine' By.bytes_in_bytes ?k1 ?k2 ?k3 ?_; (case k1 => rfl); (case k2 => k_asm); (case k3 => k_asm)); intro h9 tk9 F9 N9; (try k_sweep))
  k_with "exec Assign cons ListComp" => ((with_reducible show wpAny _ _ (exec (Stmt.Assign _ (Expr.ListComp (Expr.Call (Expr.Name "int" _) [Expr.Name "cell" _] _ _) _ _ _) _) _) _ _ _); walk_at "NZ ACOMP")
  k_with "call ref" => (k_here; (with_reducible show wpAny _ _ (call (Value.ref 407) _) _ _ _); k_dflt (refine' spcl_use (law_box_c _ _ _ _ ?h1 ?h2) ?k1 ?k2 ?k3 ?k4 ?k5 ?kK ?kd ?ku ?ki ?kL ?_; (case k1 => k_asm); (case k2 => k_asm); (case k3 => k_asm); (case k4 => k_asm); (case k5 => k_asm); (case kK => first | exact rfl | assumption); (case kd => ktr_room); (case ku => ktr_units); (case ki => exact trivial)); (case kL => with_reducible assumption); (case h1 => with_reducible assumption); (case h2 => omega); intro v9 n9 h9 tk9 F9 N9 R9; (try dsimp only at R9); (obtain ⟨p9, c9, ys9, ks9, cap9, cap29, g9, st9, t91, t92, t93, e9, en9, hy9, hk9, hg90, hg91, hs90, hs91, hcp9, hl9, ho9⟩ := R9); (subst e9; subst en9); (try simp only [AllLt, and_true] at hl9); (try simp only [LCg.Off1, and_true] at ho9); (try dsimp only); (try k_sweep); (try k_fold))
  k_with "call ref" => (k_here; (with_reducible show wpAny _ _ (call (Value.ref 414) _) _ _ _); (try walk_at "NZ SPLIT"); k_dflt (refine' draw_use ?k1 ?k2 ?k3 ?k4 ?k5 ?kK ?kd ?ku ?h1 ?h2 ?h3 ?h4 ?h5 ?h6 ?h7 ?h8 ?h9 ?h10 ?h11 ?h12 ?h13 ?_; (case k1 => k_asm); (case k2 => k_asm); (case k3 => k_asm); (case k4 => k_asm); (case k5 => k_asm); (case kK => first | exact rfl | assumption); (case kd => ktr_room); (case ku => ktr_units)); (case h1 => intro o9; k_upd); (case h2 => k_dflt k_mem); (case h3 => k_ne); (case h4 => with_reducible assumption); (case h5 => with_reducible assumption); (case h6 => with_reducible first | assumption | decide); (case h7 => with_reducible assumption); (case h8 => with_reducible assumption); (case h9 => with_reducible assumption); (case h10 => omega); (case h11 => omega); (case h12 => decide); (case h13 => decide); intro k9 t9 g9 st9 cap9 t91 t92 t93 h9 tk9 F9 N9 hk90 hk91 hg90 hg91 hs90 hs91; (try dsimp only at N9); (try dsimp only); (try k_sweep); (try k_fold))
  k_with "eval Call Name" => (k_here; (with_reducible show wpAny _ _ (eval (Expr.Call (Expr.Name "is_atom_code" _) _ _ _) _) _ _ _); refine Call_ ?_)
  k_with "call ref" => (k_here; (with_reducible show wpAny _ _ (call (Value.ref 74) _) _ _ _); k_dflt (refine' pur_use (is_atom_code_c _ _ _ ?h1) ?k1 ?k2 ?k3 ?k4 ?k5 ?kK ?kd ?ku ?_; (case k1 => k_asm); (case k2 => k_asm); (case k3 => k_asm); (case k4 => k_asm); (case k5 => k_asm); (case kK => first | exact rfl | assumption); (case kd => ktr_room); (case ku => ktr_units)); (case h1 => (first | assumption | omega | ((try dsimp only); omega) | ((try dsimp only); (simp (disch := decide) only [Int.fdiv_eq_ediv_of_nonneg, Int.fmod_eq_emod_of_nonneg]); omega) | trivial | (refine ⟨?_, ?_, ?_, ?_, ?_, ?_, ?_, ?_, ?_, ?_, ?_, ?_, ?_, ?_⟩ <;> first | assumption | omega) | decide | (exact decide_eq_true (by omega)) | k_extra "pre")); intro v9 h9 tk9 F9 N9 R9; (try dsimp only at R9); (subst R9); (try dsimp only); (try k_sweep); (try k_fold))
  k_with "eval Call Name" => (k_here; (with_reducible show wpAny _ _ (eval (Expr.Call (Expr.Name "line_end" _) _ _ _) _) _ _ _); refine Call_ ?_)
  k_with "call ref" => (k_here; (with_reducible show wpAny _ _ (call (Value.ref 81) _) _ _ _); k_dflt (refine' pur_use (line_end_c _ _ _ _ _ _ ?h1 ?h2 ?h3 ?h4 ?h5 ?h6) ?k1 ?k2 ?k3 ?k4 ?k5 ?kK ?kd ?ku ?_; (case k1 => k_asm); (case k2 => k_asm); (case k3 => k_asm); (case k4 => k_asm); (case k5 => k_asm); (case kK => first | exact rfl | assumption); (case kd => ktr_room); (case ku => ktr_units)); (case h1 => (first | assumption | omega | ((try dsimp only); omega) | ((try dsimp only); (simp (disch := decide) only [Int.fdiv_eq_ediv_of_nonneg, Int.fmod_eq_emod_of_nonneg]); omega) | trivial | (refine ⟨?_, ?_, ?_, ?_, ?_, ?_, ?_, ?_, ?_, ?_, ?_, ?_, ?_, ?_⟩ <;> first | assumption | omega) | decide | (exact decide_eq_true (by omega)) | k_extra "pre")); (case h2 => (first | assumption | omega | ((try dsimp only); omega) | ((try dsimp only); (simp (disch := decide) only [Int.fdiv_eq_ediv_of_nonneg, Int.fmod_eq_emod_of_nonneg]); omega) | trivial | (refine ⟨?_, ?_, ?_, ?_, ?_, ?_, ?_, ?_, ?_, ?_, ?_, ?_, ?_, ?_⟩ <;> first | assumption | omega) | decide | (exact decide_eq_true (by omega)) | k_extra "pre")); (case h3 => (first | assumption | omega | ((try dsimp only); omega) | ((try dsimp only); (simp (disch := decide) only [Int.fdiv_eq_ediv_of_nonneg, Int.fmod_eq_emod_of_nonneg]); omega) | trivial | (refine ⟨?_, ?_, ?_, ?_, ?_, ?_, ?_, ?_, ?_, ?_, ?_, ?_, ?_, ?_⟩ <;> first | assumption | omega) | decide | (exact decide_eq_true (by omega)) | k_extra "pre")); (case h4 => (first | assumption | omega | ((try dsimp only); omega) | ((try dsimp only); (simp (disch := decide) only [Int.fdiv_eq_ediv_of_nonneg, Int.fmod_eq_emod_of_nonneg]); omega) | trivial | (refine ⟨?_, ?_, ?_, ?_, ?_, ?_, ?_, ?_, ?_, ?_, ?_, ?_, ?_, ?_⟩ <;> first | assumption | omega) | decide | (exact decide_eq_true (by omega)) | k_extra "pre")); (case h5 => (first | assumption | omega | ((try dsimp only); omega) | ((try dsimp only); (simp (disch := decide) only [Int.fdiv_eq_ediv_of_nonneg, Int.fmod_eq_emod_of_nonneg]); omega) | trivial | (refine ⟨?_, ?_, ?_, ?_, ?_, ?_, ?_, ?_, ?_, ?_, ?_, ?_, ?_, ?_⟩ <;> first | assumption | omega) | decide | (exact decide_eq_true (by omega)) | k_extra "pre")); (case h6 => (first | assumption | omega | ((try dsimp only); omega) | ((try dsimp only); (simp (disch := decide) only [Int.fdiv_eq_ediv_of_nonneg, Int.fmod_eq_emod_of_nonneg]); omega) | trivial | (refine ⟨?_, ?_, ?_, ?_, ?_, ?_, ?_, ?_, ?_, ?_, ?_, ?_, ?_, ?_⟩ <;> first | assumption | omega) | decide | (exact decide_eq_true (by omega)) | k_extra "pre")); intro v9 h9 tk9 F9 N9 R9; (try dsimp only at R9); (obtain ⟨t9, e9⟩ := R9); (subst e9); (try dsimp only); (try k_sweep); (try k_fold))
  k_with "eval Call Name" => (k_here; (with_reducible show wpAny _ _ (eval (Expr.Call (Expr.Name "past_white" _) _ _ _) _) _ _ _); refine Call_ ?_)
  k_with "call ref" => (k_here; (with_reducible show wpAny _ _ (call (Value.ref 123) _) _ _ _); k_dflt (refine' pur_use (past_white_c _ _ _ _ _ _ _ ?h1 ?h2) ?k1 ?k2 ?k3 ?k4 ?k5 ?kK ?kd ?ku ?_; (case k1 => k_asm); (case k2 => k_asm); (case k3 => k_asm); (case k4 => k_asm); (case k5 => k_asm); (case kK => first | exact rfl | assumption); (case kd => ktr_room); (case ku => ktr_units)); (case h1 => (first | assumption | omega | ((try dsimp only); omega) | ((try dsimp only); (simp (disch := decide) only [Int.fdiv_eq_ediv_of_nonneg, Int.fmod_eq_emod_of_nonneg]); omega) | trivial | (refine ⟨?_, ?_, ?_, ?_, ?_, ?_, ?_, ?_, ?_, ?_, ?_, ?_, ?_, ?_⟩ <;> first | assumption | omega) | decide | (exact decide_eq_true (by omega)) | k_extra "pre")); (case h2 => (first | assumption | omega | ((try dsimp only); omega) | ((try dsimp only); (simp (disch := decide) only [Int.fdiv_eq_ediv_of_nonneg, Int.fmod_eq_emod_of_nonneg]); omega) | trivial | (refine ⟨?_, ?_, ?_, ?_, ?_, ?_, ?_, ?_, ?_, ?_, ?_, ?_, ?_, ?_⟩ <;> first | assumption | omega) | decide | (exact decide_eq_true (by omega)) | k_extra "pre")); intro v9 h9 tk9 F9 N9 R9; (try dsimp only at R9); (obtain ⟨t9, e9⟩ := R9); (subst e9); (try dsimp only); (try k_sweep); (try k_fold))
  k_with "eval Call Name" => (k_here; (with_reducible show wpAny _ _ (eval (Expr.Call (Expr.Name "atom_at" _) _ _ _) _) _ _ _); refine Call_ ?_)
  k_with "call ref" => (k_here; (with_reducible show wpAny _ _ (call (Value.ref 109) _) _ _ _); k_dflt (refine' spc_use (atom_at_c _ _ _ _ _ _ _ ?h1 ?h2) ?k1 ?k2 ?k3 ?k4 ?k5 ?kK ?kd ?ku ?ki ?_; (case k1 => k_asm); (case k2 => k_asm); (case k3 => k_asm); (case k4 => k_asm); (case k5 => k_asm); (case kK => first | exact rfl | assumption); (case kd => ktr_room); (case ku => ktr_units); (case ki => exact trivial)); (case h1 => (first | assumption | omega | ((try dsimp only); omega) | ((try dsimp only); (simp (disch := decide) only [Int.fdiv_eq_ediv_of_nonneg, Int.fmod_eq_emod_of_nonneg]); omega) | trivial | (refine ⟨?_, ?_, ?_, ?_, ?_, ?_, ?_, ?_, ?_, ?_, ?_, ?_, ?_, ?_⟩ <;> first | assumption | omega) | decide | (exact decide_eq_true (by omega)) | k_extra "pre")); (case h2 => (first | assumption | omega | ((try dsimp only); omega) | ((try dsimp only); (simp (disch := decide) only [Int.fdiv_eq_ediv_of_nonneg, Int.fmod_eq_emod_of_nonneg]); omega) | trivial | (refine ⟨?_, ?_, ?_, ?_, ?_, ?_, ?_, ?_, ?_, ?_, ?_, ?_, ?_, ?_⟩ <;> first | assumption | omega) | decide | (exact decide_eq_true (by omega)) | k_extra "pre")); intro v9 n9 h9 tk9 F9 N9 R9; (try dsimp only at R9); (obtain ⟨x9, t91, t92, e9, en9, hl9⟩ := R9); (subst e9; subst en9; (try simp only [AllLt, and_true] at hl9)); (try dsimp only); (try k_sweep); (try k_fold))
  k_with "eval Call Name" => (k_here; (with_reducible show wpAny _ _ (eval (Expr.Call (Expr.Name "token_at" _) _ _ _) _) _ _ _); refine Call_ ?_)
  k_with "call ref" => (k_here; (with_reducible show wpAny _ _ (call (Value.ref 116) _) _ _ _); k_dflt (refine' spc_use (token_a_c _ _ _ _ _ _ _ ?h1 ?h2) ?k1 ?k2 ?k3 ?k4 ?k5 ?kK ?kd ?ku ?ki ?_; (case k1 => k_asm); (case k2 => k_asm); (case k3 => k_asm); (case k4 => k_asm); (case k5 => k_asm); (case kK => first | exact rfl | assumption); (case kd => ktr_room); (case ku => ktr_units); (case ki => exact trivial)); (case h1 => (first | assumption | omega | ((try dsimp only); omega) | ((try dsimp only); (simp (disch := decide) only [Int.fdiv_eq_ediv_of_nonneg, Int.fmod_eq_emod_of_nonneg]); omega) | trivial | (refine ⟨?_, ?_, ?_, ?_, ?_, ?_, ?_, ?_, ?_, ?_, ?_, ?_, ?_, ?_⟩ <;> first | assumption | omega) | decide | (exact decide_eq_true (by omega)) | k_extra "pre")); (case h2 => (first | assumption | omega | ((try dsimp only); omega) | ((try dsimp only); (simp (disch := decide) only [Int.fdiv_eq_ediv_of_nonneg, Int.fmod_eq_emod_of_nonneg]); omega) | trivial | (refine ⟨?_, ?_, ?_, ?_, ?_, ?_, ?_, ?_, ?_, ?_, ?_, ?_, ?_, ?_⟩ <;> first | assumption | omega) | decide | (exact decide_eq_true (by omega)) | k_extra "pre")); intro v9 n9 h9 tk9 F9 N9 R9; (try dsimp only at R9); (obtain ⟨x9, y9, t91, t92, t93, t94, e9, en9, hl9, hm9⟩ := R9); (subst e9; subst en9; (try simp only [AllLt, and_true] at hl9); (replace hm9 := ltN hm9)); (try dsimp only); (try k_sweep); (try k_fold))
  k_with "eval Call Name" => (k_here; (with_reducible show wpAny _ _ (eval (Expr.Call (Expr.Name "token_at" _) _ _ _) _) _ _ _); refine Call_ ?_)
  k_with "call ref" => (k_here; (with_reducible show wpAny _ _ (call (Value.ref 116) _) _ _ _); k_dflt (refine' spc_use (token_s_c _ _ _ _ _ _ _ _ ?h1 ?h2) ?k1 ?k2 ?k3 ?k4 ?k5 ?kK ?kd ?ku ?ki ?_; (case k1 => k_asm); (case k2 => k_asm); (case k3 => k_asm); (case k4 => k_asm); (case k5 => k_asm); (case kK => first | exact rfl | assumption); (case kd => ktr_room); (case ku => ktr_units); (case ki => exact trivial)); (case h1 => (first | assumption | omega | ((try dsimp only); omega) | ((try dsimp only); (simp (disch := decide) only [Int.fdiv_eq_ediv_of_nonneg, Int.fmod_eq_emod_of_nonneg]); omega) | trivial | (refine ⟨?_, ?_, ?_, ?_, ?_, ?_, ?_, ?_, ?_, ?_, ?_, ?_, ?_, ?_⟩ <;> first | assumption | omega) | decide | (exact decide_eq_true (by omega)) | k_extra "pre")); (case h2 => (first | assumption | omega | ((try dsimp only); omega) | ((try dsimp only); (simp (disch := decide) only [Int.fdiv_eq_ediv_of_nonneg, Int.fmod_eq_emod_of_nonneg]); omega) | trivial | (refine ⟨?_, ?_, ?_, ?_, ?_, ?_, ?_, ?_, ?_, ?_, ?_, ?_, ?_, ?_⟩ <;> first | assumption | omega) | decide | (exact decide_eq_true (by omega)) | k_extra "pre")); intro v9 n9 h9 tk9 F9 N9 R9; (try dsimp only at R9); (obtain ⟨x9, y9, t91, t92, t93, t94, e9, en9, hl9, hm9⟩ := R9); (subst e9; subst en9; (try simp only [AllLt, and_true] at hl9); (replace hm9 := ltN hm9)); (try dsimp only); (try k_sweep); (try k_fold))
  k_with "eval Call Name" => (k_here; (with_reducible show wpAny _ _ (eval (Expr.Call (Expr.Name "token_at" _) _ _ _) _) _ _ _); refine Call_ ?_)
  k_with "call ref" => (k_here; (with_reducible show wpAny _ _ (call (Value.ref 116) _) _ _ _); k_dflt (refine' spc_use (token_c _ _ _ _ _ _ _ ?h1 ?h2 ?h3) ?k1 ?k2 ?k3 ?k4 ?k5 ?kK ?kd ?ku ?ki ?_; (case k1 => k_asm); (case k2 => k_asm); (case k3 => k_asm); (case k4 => k_asm); (case k5 => k_asm); (case kK => first | exact rfl | assumption); (case kd => ktr_room); (case ku => ktr_units); (case ki => exact trivial)); (case h1 => (first | assumption | omega | ((try dsimp only); omega) | ((try dsimp only); (simp (disch := decide) only [Int.fdiv_eq_ediv_of_nonneg, Int.fmod_eq_emod_of_nonneg]); omega) | trivial | (refine ⟨?_, ?_, ?_, ?_, ?_, ?_, ?_, ?_, ?_, ?_, ?_, ?_, ?_, ?_⟩ <;> first | assumption | omega) | decide | (exact decide_eq_true (by omega)) | k_extra "pre")); (case h2 => (first | assumption | omega | ((try dsimp only); omega) | ((try dsimp only); (simp (disch := decide) only [Int.fdiv_eq_ediv_of_nonneg, Int.fmod_eq_emod_of_nonneg]); omega) | trivial | (refine ⟨?_, ?_, ?_, ?_, ?_, ?_, ?_, ?_, ?_, ?_, ?_, ?_, ?_, ?_⟩ <;> first | assumption | omega) | decide | (exact decide_eq_true (by omega)) | k_extra "pre")); (case h3 => (first | assumption | omega | ((try dsimp only); omega) | ((try dsimp only); (simp (disch := decide) only [Int.fdiv_eq_ediv_of_nonneg, Int.fmod_eq_emod_of_nonneg]); omega) | trivial | (refine ⟨?_, ?_, ?_, ?_, ?_, ?_, ?_, ?_, ?_, ?_, ?_, ?_, ?_, ?_⟩ <;> first | assumption | omega) | decide | (exact decide_eq_true (by omega)) | k_extra "pre")); intro v9 n9 h9 tk9 F9 N9 R9; (try dsimp only at R9); (obtain ⟨x9, y9, t91, t92, t93, t94, e9, en9, hl9, hm9⟩ := R9); (subst e9; subst en9; (try simp only [AllLt, and_true] at hl9); (replace hm9 := ltN hm9)); (try dsimp only); (try k_sweep); (try k_fold))
  k_with "eval Call Name" => (k_here; (with_reducible show wpAny _ _ (eval (Expr.Call (Expr.Name "tokens_of" _) _ _ _) _) _ _ _); refine Call_ ?_)
  k_with "call ref" => (k_here; (with_reducible show wpAny _ _ (call (Value.ref 130) _) _ _ _); k_dflt (refine' spc_use (tokens_of_c _ _ _ _ _ ?h1 ?h2) ?k1 ?k2 ?k3 ?k4 ?k5 ?kK ?kd ?ku ?ki ?_; (case k1 => k_asm); (case k2 => k_asm); (case k3 => k_asm); (case k4 => k_asm); (case k5 => k_asm); (case kK => first | exact rfl | assumption); (case kd => ktr_room); (case ku => ktr_units); (case ki => exact trivial)); (case h1 => (first | assumption | omega | ((try dsimp only); omega) | ((try dsimp only); (simp (disch := decide) only [Int.fdiv_eq_ediv_of_nonneg, Int.fmod_eq_emod_of_nonneg]); omega) | trivial | (refine ⟨?_, ?_, ?_, ?_, ?_, ?_, ?_, ?_, ?_, ?_, ?_, ?_, ?_, ?_⟩ <;> first | assumption | omega) | decide | (exact decide_eq_true (by omega)) | k_extra "pre")); (case h2 => (first | assumption | omega | ((try dsimp only); omega) | ((try dsimp only); (simp (disch := decide) only [Int.fdiv_eq_ediv_of_nonneg, Int.fmod_eq_emod_of_nonneg]); omega) | trivial | (refine ⟨?_, ?_, ?_, ?_, ?_, ?_, ?_, ?_, ?_, ?_, ?_, ?_, ?_, ?_⟩ <;> first | assumption | omega) | decide | (exact decide_eq_true (by omega)) | k_extra "pre")); intro v9 n9 h9 tk9 F9 N9 R9; (try dsimp only at R9); (obtain ⟨f9, vs9, cap9, made9, e9, en9, hT9, hsub9, hne9⟩ := R9); (subst e9; subst en9); (try dsimp only); (try k_sweep); (try k_fold))
  k_with "eval Call Name" => (k_here; (with_reducible show wpAny _ _ (eval (Expr.Call (Expr.Name "lower_code" _) _ _ _) _) _ _ _); refine Call_ ?_)
  k_with "call ref" => (k_here; (with_reducible show wpAny _ _ (call (Value.ref 61) _) _ _ _); k_dflt (refine' pur_use (lower_code_c _ _ _) ?k1 ?k2 ?k3 ?k4 ?k5 ?kK ?kd ?ku ?_; (case k1 => k_asm); (case k2 => k_asm); (case k3 => k_asm); (case k4 => k_asm); (case k5 => k_asm); (case kK => first | exact rfl | assumption); (case kd => ktr_room); (case ku => ktr_units)); intro v9 h9 tk9 F9 N9 R9; (try dsimp only at R9); (obtain ⟨t9, e9⟩ := R9); (subst e9); (try dsimp only); (try k_sweep); (try k_fold))
  k_with "eval ListComp" => ((with_reducible show wpAny _ _ (eval (Expr.ListComp (Expr.Call (Expr.Name "chr" _) [Expr.Call (Expr.Name "lower_code" _) _ _ _] _ _) _ _ _) _) _ _ _); walk_at "NZ ECOMP")
  k_with "eval Call Name" => (k_here; (with_reducible show wpAny _ _ (eval (Expr.Call (Expr.Name "lower_text" _) _ _ _) _) _ _ _); refine Call_ ?_)
  k_with "call ref" => (k_here; (with_reducible show wpAny _ _ (call (Value.ref 66) _) _ _ _); k_dflt (refine' pur_use (lower_text_c _ _ _ ?h1 ?h2) ?k1 ?k2 ?k3 ?k4 ?k5 ?kK ?kd ?ku ?_; (case k1 => k_asm); (case k2 => k_asm); (case k3 => k_asm); (case k4 => k_asm); (case k5 => k_asm); (case kK => first | exact rfl | assumption); (case kd => ktr_room); (case ku => ktr_units)); (case h1 => (first | assumption | omega | ((try dsimp only); omega) | ((try dsimp only); (simp (disch := decide) only [Int.fdiv_eq_ediv_of_nonneg, Int.fmod_eq_emod_of_nonneg]); omega) | trivial | (refine ⟨?_, ?_, ?_, ?_, ?_, ?_, ?_, ?_, ?_, ?_, ?_, ?_, ?_, ?_⟩ <;> first | assumption | omega) | decide | (exact decide_eq_true (by omega)) | k_extra "pre")); (case h2 => (first | assumption | omega | ((try dsimp only); omega) | ((try dsimp only); (simp (disch := decide) only [Int.fdiv_eq_ediv_of_nonneg, Int.fmod_eq_emod_of_nonneg]); omega) | trivial | (refine ⟨?_, ?_, ?_, ?_, ?_, ?_, ?_, ?_, ?_, ?_, ?_, ?_, ?_, ?_⟩ <;> first | assumption | omega) | decide | (exact decide_eq_true (by omega)) | k_extra "pre")); intro v9 h9 tk9 F9 N9 R9; (try dsimp only at R9); (obtain ⟨t9, e9, hl9⟩ := R9); (subst e9); (try dsimp only); (try k_sweep); (try k_fold))
  k_with "eval Call Name" => (k_here; (with_reducible show wpAny _ _ (eval (Expr.Call (Expr.Name "without_comments" _) _ _ _) _) _ _ _); refine Call_ ?_)
  k_with "call ref" => (k_here; (with_reducible show wpAny _ _ (call (Value.ref 135) _) _ _ _); k_dflt (refine' spc_use (without_comments_c _ _ _ _ _ _) ?k1 ?k2 ?k3 ?k4 ?k5 ?kK ?kd ?ku ?ki ?_; (case k1 => k_asm); (case k2 => k_asm); (case k3 => k_asm); (case k4 => k_asm); (case k5 => k_asm); (case kK => first | exact rfl | assumption); (case kd => ktr_room); (case ku => ktr_units); (case ki => exact ⟨by k_mem, TkIn.mono (by assumption) (by walk_at "NZ SUB")⟩)); intro v9 n9 h9 tk9 F9 N9 R9; (try dsimp only at R9); (obtain ⟨d9, e9, en9, hd9⟩ := R9); (subst e9; subst en9); (try dsimp only); (try k_sweep); (try k_fold))
  k_with "eval Call Name" => (k_here; (with_reducible show wpAny _ _ (eval (Expr.Call (Expr.Name "DateReader" _) _ _ _) _) _ _ _); refine Call_ ?_)
  k_with "call ref" => (k_here; (with_reducible show wpAny _ _ (call (Value.ref 339) _) _ _ _); k_dflt (refine' spc_use (reader_c _ _ _ _ _ ?h1 ?h2) ?k1 ?k2 ?k3 ?k4 ?k5 ?kK ?kd ?ku ?ki ?_; (case k1 => k_asm); (case k2 => k_asm); (case k3 => k_asm); (case k4 => k_asm); (case k5 => k_asm); (case kK => first | exact rfl | assumption); (case kd => ktr_room); (case ku => ktr_units); (case ki => exact trivial)); (case h1 => (first | assumption | omega | ((try dsimp only); omega) | ((try dsimp only); (simp (disch := decide) only [Int.fdiv_eq_ediv_of_nonneg, Int.fmod_eq_emod_of_nonneg]); omega) | trivial | (refine ⟨?_, ?_, ?_, ?_, ?_, ?_, ?_, ?_, ?_, ?_, ?_, ?_, ?_, ?_⟩ <;> first | assumption | omega) | decide | (exact decide_eq_true (by omega)) | k_extra "pre")); (case h2 => (first | assumption | omega | ((try dsimp only); omega) | ((try dsimp only); (simp (disch := decide) only [Int.fdiv_eq_ediv_of_nonneg, Int.fmod_eq_emod_of_nonneg]); omega) | trivial | (refine ⟨?_, ?_, ?_, ?_, ?_, ?_, ?_, ?_, ?_, ?_, ?_, ?_, ?_, ?_⟩ <;> first | assumption | omega) | decide | (exact decide_eq_true (by omega)) | k_extra "pre")); intro v9 n9 h9 tk9 F9 N9 R9; (try dsimp only at R9); (obtain ⟨rx9, dx9, dl9, vs9, rest9, k91, k92, k93, u91, u92, e9, en9, hsub9, hR9⟩ := R9); (subst e9; subst en9; (have hx9 := ltN hR9.lt); (have hne9 := hR9.ne); (have gl9 := hR9.gl); (have hz9 := hR9.size)); (try dsimp only); (try k_sweep); (try k_fold))
  k_with "eval Call Name" => (k_here; (with_reducible show wpAny _ _ (eval (Expr.Call (Expr.Name "is_figures" _) _ _ _) _) _ _ _); refine Call_ ?_)
  k_with "call ref" => (k_here; (with_reducible show wpAny _ _ (call (Value.ref 277) _) _ _ _); k_dflt (refine' pur_use (is_figures_c _ _ _ ?h1 ?h2 ?h3) ?k1 ?k2 ?k3 ?k4 ?k5 ?kK ?kd ?ku ?_; (case k1 => k_asm); (case k2 => k_asm); (case k3 => k_asm); (case k4 => k_asm); (case k5 => k_asm); (case kK => first | exact rfl | assumption); (case kd => ktr_room); (case ku => ktr_units)); (case h1 => (first | assumption | omega | ((try dsimp only); omega) | ((try dsimp only); (simp (disch := decide) only [Int.fdiv_eq_ediv_of_nonneg, Int.fmod_eq_emod_of_nonneg]); omega) | trivial | (refine ⟨?_, ?_, ?_, ?_, ?_, ?_, ?_, ?_, ?_, ?_, ?_, ?_, ?_, ?_⟩ <;> first | assumption | omega) | decide | (exact decide_eq_true (by omega)) | k_extra "pre")); (case h2 => (first | assumption | omega | ((try dsimp only); omega) | ((try dsimp only); (simp (disch := decide) only [Int.fdiv_eq_ediv_of_nonneg, Int.fmod_eq_emod_of_nonneg]); omega) | trivial | (refine ⟨?_, ?_, ?_, ?_, ?_, ?_, ?_, ?_, ?_, ?_, ?_, ?_, ?_, ?_⟩ <;> first | assumption | omega) | decide | (exact decide_eq_true (by omega)) | k_extra "pre")); (case h3 => (first | assumption | omega | ((try dsimp only); omega) | ((try dsimp only); (simp (disch := decide) only [Int.fdiv_eq_ediv_of_nonneg, Int.fmod_eq_emod_of_nonneg]); omega) | trivial | (refine ⟨?_, ?_, ?_, ?_, ?_, ?_, ?_, ?_, ?_, ?_, ?_, ?_, ?_, ?_⟩ <;> first | assumption | omega) | decide | (exact decide_eq_true (by omega)) | k_extra "pre")); intro v9 h9 tk9 F9 N9 R9; (try dsimp only at R9); (subst R9); (try dsimp only); (try k_sweep); (try k_fold))
  k_with "eval ListComp" => ((with_reducible show wpAny _ _ (eval (Expr.ListComp (Expr.Call (Expr.Name "chr" _) [Expr.Name "code" _] _ _) _ _ _) _) _ _ _); walk_at "NZ ECOMP")
  k_with "call ref" => (k_here; (with_reducible show wpAny _ _ (call (Value.ref 315) _) _ _ _); k_dflt (refine' spcp_use (atom_c _ _ _ _ _ _ _ _ _ _ _ _ ?h0 ?h1 ?h2 ?h3 ?h4 ?h5) ?k1 ?k2 ?k3 ?k4 ?k5 ?kK ?kd ?ku ?ki ?_; (case k1 => k_asm); (case k2 => k_asm); (case k3 => k_asm); (case k4 => k_asm); (case k5 => k_asm); (case kK => first | exact rfl | assumption); (case kd => ktr_room); (case ku => ktr_units); (case h0 => assumption); (case ki => exact ⟨_, _, _, _, _, by k_mem, by k_mem, fun p hp => by (repeat (first | exact hp | refine List.Mem.tail _ ?_))⟩)); (case h1 => first | assumption | k_dflt (exact rfl)); (case h2 => (first | assumption | omega | ((try dsimp only); omega) | ((try dsimp only); (simp (disch := decide) only [Int.fdiv_eq_ediv_of_nonneg, Int.fmod_eq_emod_of_nonneg]); omega) | trivial | (refine ⟨?_, ?_, ?_, ?_, ?_, ?_, ?_, ?_, ?_, ?_, ?_, ?_, ?_, ?_⟩ <;> first | assumption | omega) | decide | (exact decide_eq_true (by omega)) | k_extra "pre")); (case h3 => (first | assumption | omega | ((try dsimp only); omega) | ((try dsimp only); (simp (disch := decide) only [Int.fdiv_eq_ediv_of_nonneg, Int.fmod_eq_emod_of_nonneg]); omega) | trivial | (refine ⟨?_, ?_, ?_, ?_, ?_, ?_, ?_, ?_, ?_, ?_, ?_, ?_, ?_, ?_⟩ <;> first | assumption | omega) | decide | (exact decide_eq_true (by omega)) | k_extra "pre")); (case h4 => (first | assumption | omega | ((try dsimp only); omega) | ((try dsimp only); (simp (disch := decide) only [Int.fdiv_eq_ediv_of_nonneg, Int.fmod_eq_emod_of_nonneg]); omega) | trivial | (refine ⟨?_, ?_, ?_, ?_, ?_, ?_, ?_, ?_, ?_, ?_, ?_, ?_, ?_, ?_⟩ <;> first | assumption | omega) | decide | (exact decide_eq_true (by omega)) | k_extra "pre")); (case h5 => (first | assumption | omega | ((try dsimp only); omega) | ((try dsimp only); (simp (disch := decide) only [Int.fdiv_eq_ediv_of_nonneg, Int.fmod_eq_emod_of_nonneg]); omega) | trivial | (refine ⟨?_, ?_, ?_, ?_, ?_, ?_, ?_, ?_, ?_, ?_, ?_, ?_, ?_, ?_⟩ <;> first | assumption | omega) | decide | (exact decide_eq_true (by omega)) | k_extra "pre")); intro v9 h9 tk9 F9 N9 R9; (try dsimp only at R9); (obtain ⟨t9, e9⟩ := R9); (subst e9); (try dsimp only); (try k_sweep); (try k_fold))
  k_with "subscriptTail" => (k_here; (with_reducible show wpAny _ _ (subscriptTail _ (PySem.Expr.Slice none _ none _) (Value.ref _) (Value.ref _)) _ _ _); k_dflt (refine' slice_to2 ?F ?N ?t ?_ ?s ?g; (case F => k_asm); (case N => k_asm); (case t => exact News.isTup (by k_asm) (by k_mem)); (case s => with_unfolding_all rfl); (case g => kmk_pure)); intro D' h' F' N' l1; (try k_lt l1); (try k_sweep))
  k_with "compareOp NotEq ref ref" => (k_here; k_dflt (refine' ne_sb ?N ?a ?b ?u ?_; (case N => k_asm); (case a => k_mem); (case b => k_mem); (case u => ktr_units)))
  k_with "call ref" => (k_here; (with_reducible show wpAny _ _ (call (Value.ref 336) _) _ _ _); k_dflt (refine' spc_use (need_c _ _ _ _ _ _ _ _ _ _ _ _ _ ?h0 ?h1) ?k1 ?k2 ?k3 ?k4 ?k5 ?kK ?kd ?ku ?ki ?_; (case k1 => k_asm); (case k2 => k_asm); (case k3 => k_asm); (case k4 => k_asm); (case k5 => k_asm); (case kK => first | exact rfl | assumption); (case kd => ktr_room); (case ku => ktr_units); (case h0 => assumption); (case ki => exact ⟨_, _, _, _, _, by k_mem, by k_mem, fun p hp => by (repeat (first | exact hp | refine List.Mem.tail _ ?_))⟩)); (case h1 => (first | assumption | omega | ((try dsimp only); omega) | ((try dsimp only); (simp (disch := decide) only [Int.fdiv_eq_ediv_of_nonneg, Int.fmod_eq_emod_of_nonneg]); omega) | trivial | (refine ⟨?_, ?_, ?_, ?_, ?_, ?_, ?_, ?_, ?_, ?_, ?_, ?_, ?_, ?_⟩ <;> first | assumption | omega) | decide | (exact decide_eq_true (by omega)) | k_extra "pre")); intro v9 n9 h9 tk9 F9 N9 R9; (try dsimp only at R9); (obtain ⟨e9, k91, k92, k93, u91, u92, en9⟩ := R9); (subst e9; subst en9); (try dsimp only); (try k_sweep); (try k_fold))
  k_with "call ref" => (k_here; (with_reducible show wpAny _ _ (call (Value.ref 310) _) _ _ _); k_dflt (refine' spcp_use (place_c _ _ _ _ _ _ _ _ _ _ _ ?h0 ?h1 ?h2 ?h3) ?k1 ?k2 ?k3 ?k4 ?k5 ?kK ?kd ?ku ?ki ?_; (case k1 => k_asm); (case k2 => k_asm); (case k3 => k_asm); (case k4 => k_asm); (case k5 => k_asm); (case kK => first | exact rfl | assumption); (case kd => ktr_room); (case ku => ktr_units); (case h0 => assumption); (case ki => exact ⟨_, _, _, _, _, by k_mem, by k_mem, fun p hp => by (repeat (first | exact hp | refine List.Mem.tail _ ?_))⟩)); (case h1 => first | assumption | k_dflt (exact rfl)); (case h2 => (first | assumption | omega | ((try dsimp only); omega) | ((try dsimp only); (simp (disch := decide) only [Int.fdiv_eq_ediv_of_nonneg, Int.fmod_eq_emod_of_nonneg]); omega) | trivial | (refine ⟨?_, ?_, ?_, ?_, ?_, ?_, ?_, ?_, ?_, ?_, ?_, ?_, ?_, ?_⟩ <;> first | assumption | omega) | decide | (exact decide_eq_true (by omega)) | k_extra "pre")); (case h3 => (first | assumption | omega | ((try dsimp only); omega) | ((try dsimp only); (simp (disch := decide) only [Int.fdiv_eq_ediv_of_nonneg, Int.fmod_eq_emod_of_nonneg]); omega) | trivial | (refine ⟨?_, ?_, ?_, ?_, ?_, ?_, ?_, ?_, ?_, ?_, ?_, ?_, ?_, ?_⟩ <;> first | assumption | omega) | decide | (exact decide_eq_true (by omega)) | k_extra "pre")); intro v9 h9 tk9 F9 N9 R9; (try dsimp only at R9); (obtain ⟨t9, e9⟩ := R9); (subst e9); (try dsimp only); (try k_sweep); (try k_fold))
  trivial
theorem rows_46_36 : True := by
  k_with "call ref" => (k_here; (with_reducible show wpAny _ _ (call (Value.ref 322) _) _ _ _); k_dflt (refine' spc_use (skip_c _ _ _ _ _ _ _ _ _ _ _ _ _ _ _ ?h0 ?h1 ?h2 ?h3 ?h4) ?k1 ?k2 ?k3 ?k4 ?k5 ?kK ?kd ?ku ?ki ?_; (case k1 => k_asm); (case k2 => k_asm); (case k3 => k_asm); (case k4 => k_asm); (case k5 => k_asm); (case kK => first | exact rfl | assumption); (case kd => ktr_room); (case ku => ktr_units); (case h0 => assumption); (case ki => exact ⟨_, _, _, _, _, by k_mem, by k_mem, fun p hp => by (repeat (first | exact hp | refine List.Mem.tail _ ?_))⟩)); (case h1 => first | assumption | k_dflt (exact rfl)); (case h2 => first | assumption | k_dflt (exact rfl)); (case h3 => (first | assumption | omega | ((try dsimp only); omega) | ((try dsimp only); (simp (disch := decide) only [Int.fdiv_eq_ediv_of_nonneg, Int.fmod_eq_emod_of_nonneg]); omega) | trivial | (refine ⟨?_, ?_, ?_, ?_, ?_, ?_, ?_, ?_, ?_, ?_, ?_, ?_, ?_, ?_⟩ <;> first | assumption | omega) | decide | (exact decide_eq_true (by omega)) | k_extra "pre")); (case h4 => (first | assumption | omega | ((try dsimp only); omega) | ((try dsimp only); (simp (disch := decide) only [Int.fdiv_eq_ediv_of_nonneg, Int.fmod_eq_emod_of_nonneg]); omega) | trivial | (refine ⟨?_, ?_, ?_, ?_, ?_, ?_, ?_, ?_, ?_, ?_, ?_, ?_, ?_, ?_⟩ <;> first | assumption | omega) | decide | (exact decide_eq_true (by omega)) | k_extra "pre")); intro v9 n9 h9 tk9 F9 N9 R9; (try dsimp only at R9); (obtain ⟨e9, k91, k92, k93, u91, u92, en9⟩ := R9); (subst e9; subst en9); (try dsimp only); (try k_sweep); (try k_fold))
  trivial
/-- What a number's octets must be. -/
structure NumB (b : Array UInt8) (L n : Int) : Prop where
  z : b.size ≤ 100
  c : ∀ c ∈ b.toList, c.toNat < 128
  l : ((asc b).length : Int) = L
  m : ∀ c ∈ (asc b).cps.toList, 48 ≤ c ∧ c ≤ 57
  n : PySem.intText? (asc b) = some n
theorem number_c (w : World) (x : Array UInt8) (D : Int) (rest : List (Addr × Obj)) (vs : List Value) (rx dx dl : Addr) (ln i p q n ll lo hi : Int) (t3 t4 : Tok) (hR : Rdr x D rest vs rx dx dl) (htk : (dTk D)[i.toNat]? = some (.a p q)) (hi0 : 0 ≤ i) (hi1 : i < 11)
    (f1 : NumB (pkd x p q) ll n) (f4 : 1 ≤ ll) (f5 : ll ≤ 100) (f8 : lo ≤ ll) (f9 : ll ≤ hi) :
    Spc w 14 (.ref 329) [.ref rx, .int lo t3, .int hi t4] (RdS w rx dx dl ln rest i) (fun _ v news' => ∃ r t5 t6 k1 k2 k3 u1 u2, v = .ref r ∧ news' = (r, { cls := .type "tuple", data := .seq #[.int n t5, .int ll t6] }) :: (rx, instObj 339 dx) :: (dx, rdObj w k1 k2 k3 dl (i + 1) ln u1 u2) :: rest) := by
  (try unfold Pur)
  unfold Spc
  k_fill
  intro mean mg mb dp un gd cn cs aF ccd cl outer A₀ base h₀ LF mF news sF QF EF B F X N T hk hdp hun hin hret
  obtain ⟨k1, k2, k3, u1, u2, g1, g2, gs⟩ := hin
  obtain ⟨f0, f1, f3, f6, f7⟩ := f1
  replace N := rd_news N g1 g2 gs
  have hne := hR.ne
  have hx := hR.lt
  refine wpAny_call ?_
  k_dflt cell_enter
  (with_reducible rename Fr _ _ _ (fun nzy => List.lookup nzy _) => F0)
  replace F0 := fr_eq (m' := fun nzy => List.lookup nzy ([(Str.ofString "most_figures", Value.int hi t4), (Str.ofString "least_figures", Value.int lo t3), (Str.ofString "self", Value.ref rx)] : List (Str × Value))) F0 (by kernel_rfl)
  subst f3
  have e1 : 1 ≤ (asc (pkd x p q)).length := by omega
  have e2 : (asc (pkd x p q)).length ≤ 100 := by omega
  k_steps
  all_goals (refine' hret _ _ _ _ ?e2 ?e3 ⟨_, _, _, _, _, _, _, _, rfl, rfl⟩; (case e2 => k_asm); (case e3 => k_asm))
theorem rows_46_37 : True := by
  k_with "call ref" => (k_here; (with_reducible show wpAny _ _ (call (Value.ref 329) _) _ _ _); k_dflt (refine' spc_use (number_c _ _ _ _ _ _ _ _ _ _ _ _ _ _ _ _ _ _ ?h0 ?h1 ?h2 ?h3 ?f1 ?f4 ?f5 ?f8 ?f9) ?k1 ?k2 ?k3 ?k4 ?k5 ?kK ?kd ?ku ?ki ?_; (case k1 => k_asm); (case k2 => k_asm); (case k3 => k_asm); (case k4 => k_asm); (case k5 => k_asm); (case kK => first | exact rfl | assumption); (case kd => ktr_room); (case ku => ktr_units); (case h0 => assumption); (case ki => exact ⟨_, _, _, _, _, by k_mem, by k_mem, fun p hp => by (repeat (first | exact hp | refine List.Mem.tail _ ?_))⟩)); (case h1 => first | assumption | k_dflt (exact rfl)); (case h2 => (first | assumption | omega | ((try dsimp only); omega) | ((try dsimp only); (simp (disch := decide) only [Int.fdiv_eq_ediv_of_nonneg, Int.fmod_eq_emod_of_nonneg]); omega) | trivial | (refine ⟨?_, ?_, ?_, ?_, ?_, ?_, ?_, ?_, ?_, ?_, ?_, ?_, ?_, ?_⟩ <;> first | assumption | omega) | decide | (exact decide_eq_true (by omega)) | k_extra "pre")); (case h3 => (first | assumption | omega | ((try dsimp only); omega) | ((try dsimp only); (simp (disch := decide) only [Int.fdiv_eq_ediv_of_nonneg, Int.fmod_eq_emod_of_nonneg]); omega) | trivial | (refine ⟨?_, ?_, ?_, ?_, ?_, ?_, ?_, ?_, ?_, ?_, ?_, ?_, ?_, ?_⟩ <;> first | assumption | omega) | decide | (exact decide_eq_true (by omega)) | k_extra "pre")); (case f1 => first | assumption | k_dflt (exact rfl)); (case f4 => (first | assumption | omega | ((try dsimp only); omega) | ((try dsimp only); (simp (disch := decide) only [Int.fdiv_eq_ediv_of_nonneg, Int.fmod_eq_emod_of_nonneg]); omega) | trivial | (refine ⟨?_, ?_, ?_, ?_, ?_, ?_, ?_, ?_, ?_, ?_, ?_, ?_, ?_, ?_⟩ <;> first | assumption | omega) | decide | (exact decide_eq_true (by omega)) | k_extra "pre")); (case f5 => (first | assumption | omega | ((try dsimp only); omega) | ((try dsimp only); (simp (disch := decide) only [Int.fdiv_eq_ediv_of_nonneg, Int.fmod_eq_emod_of_nonneg]); omega) | trivial | (refine ⟨?_, ?_, ?_, ?_, ?_, ?_, ?_, ?_, ?_, ?_, ?_, ?_, ?_, ?_⟩ <;> first | assumption | omega) | decide | (exact decide_eq_true (by omega)) | k_extra "pre")); (case f8 => (first | assumption | omega | ((try dsimp only); omega) | ((try dsimp only); (simp (disch := decide) only [Int.fdiv_eq_ediv_of_nonneg, Int.fmod_eq_emod_of_nonneg]); omega) | trivial | (refine ⟨?_, ?_, ?_, ?_, ?_, ?_, ?_, ?_, ?_, ?_, ?_, ?_, ?_, ?_⟩ <;> first | assumption | omega) | decide | (exact decide_eq_true (by omega)) | k_extra "pre")); (case f9 => (first | assumption | omega | ((try dsimp only); omega) | ((try dsimp only); (simp (disch := decide) only [Int.fdiv_eq_ediv_of_nonneg, Int.fmod_eq_emod_of_nonneg]); omega) | trivial | (refine ⟨?_, ?_, ?_, ?_, ?_, ?_, ?_, ?_, ?_, ?_, ?_, ?_, ?_, ?_⟩ <;> first | assumption | omega) | decide | (exact decide_eq_true (by omega)) | k_extra "pre")); intro v9 n9 h9 tk9 F9 N9 R9; (try dsimp only at R9); (obtain ⟨r9, t91, t92, k91, k92, k93, u91, u92, e9, en9⟩ := R9); (subst e9; subst en9); (try dsimp only); (try k_sweep); (try k_fold))
  trivial

theorem read_clock_c (w : World) (x : Array UInt8) (D : Int) (rest : List (Addr × Obj)) (vs : List Value) (rx dx dl : Addr) (ln i h mi s : Int) (hi : i = 5) (hR : Rdr x D rest vs rx dx dl)
    (f6 : NumB (pkd x (15 + D) (17 + D)) 2 h) (f8 : NumB (pkd x (18 + D) (20 + D)) 2 mi) (f10 : NumB (pkd x (21 + D) (23 + D)) 2 s) :
    Spc w 16 (.ref 357) [.ref rx] (RdS w rx dx dl ln rest i) (fun _ v news' => ∃ r t1 t2 t3 k1 k2 k3 u1 u2, v = .ref r ∧ news' = (r, { cls := .type "tuple", data := .seq #[.int h t1, .int mi t2, .int s t3] }) :: (rx, instObj 339 dx) :: (dx, rdObj w k1 k2 k3 dl 10 ln u1 u2) :: rest) := by
  subst hi
  (try unfold Pur)
  unfold Spc
  k_fill
  intro mean mg mb dp un gd cn cs aF ccd cl outer A₀ base h₀ LF mF news sF QF EF B F X N T hk hdp hun hin hret
  obtain ⟨k1, k2, k3, u1, u2, p1, p2, p3⟩ := hin
  replace N := rd_news N p1 p2 p3
  refine wpAny_call ?_
  k_dflt cell_enter
  (with_reducible rename Fr _ _ _ (fun nzy => List.lookup nzy _) => F0)
  replace F0 := fr_eq (m' := fun nzy => List.lookup nzy ([(Str.ofString "reader", Value.ref rx)] : List (Str × Value))) F0 (by kernel_rfl)
  k_steps
  refine' hret _ _ _ _ ?e2 ?e3 ⟨_, _, _, _, _, _, _, _, _, rfl, rfl⟩
  case e2 => k_asm
  case e3 => refine' news_drop ?cbN ?cbS; (case cbN => assumption); (case cbS => exact List.forall_mem_cons.mpr ⟨by k_mem, List.forall_mem_cons.mpr ⟨by k_mem, List.forall_mem_cons.mpr ⟨by k_mem, fun p hp => by (repeat (first | exact hp | refine List.Mem.tail _ ?_))⟩⟩⟩)
theorem rows_47_38 : True := by
  k_with "eval Call Name" => (k_here; (with_reducible show wpAny _ _ (eval (Expr.Call (Expr.Name "read_clock" _) _ _ _) _) _ _ _); refine Call_ ?_)
  k_with "call ref" => (k_here; (with_reducible show wpAny _ _ (call (Value.ref 357) _) _ _ _); k_dflt (refine' spc_use (read_clock_c _ _ _ _ _ _ _ _ _ _ _ _ _ ?hi ?h0 ?f1 ?f2 ?f3) ?k1 ?k2 ?k3 ?k4 ?k5 ?kK ?kd ?ku ?ki ?_; (case k1 => k_asm); (case k2 => k_asm); (case k3 => k_asm); (case k4 => k_asm); (case k5 => k_asm); (case kK => first | exact rfl | assumption); (case kd => ktr_room); (case ku => ktr_units); (case h0 => assumption); (case ki => exact ⟨_, _, _, _, _, by k_mem, by k_mem, fun p hp => by (repeat (first | exact hp | refine List.Mem.tail _ ?_))⟩)); (case hi => (first | assumption | omega | ((try dsimp only); omega) | ((try dsimp only); (simp (disch := decide) only [Int.fdiv_eq_ediv_of_nonneg, Int.fmod_eq_emod_of_nonneg]); omega) | trivial | (refine ⟨?_, ?_, ?_, ?_, ?_, ?_, ?_, ?_, ?_, ?_, ?_, ?_, ?_, ?_⟩ <;> first | assumption | omega) | decide | (exact decide_eq_true (by omega)) | k_extra "pre")); (case f1 => (first | assumption | omega | ((try dsimp only); omega) | ((try dsimp only); (simp (disch := decide) only [Int.fdiv_eq_ediv_of_nonneg, Int.fmod_eq_emod_of_nonneg]); omega) | trivial | (refine ⟨?_, ?_, ?_, ?_, ?_, ?_, ?_, ?_, ?_, ?_, ?_, ?_, ?_, ?_⟩ <;> first | assumption | omega) | decide | (exact decide_eq_true (by omega)) | k_extra "pre")); (case f2 => (first | assumption | omega | ((try dsimp only); omega) | ((try dsimp only); (simp (disch := decide) only [Int.fdiv_eq_ediv_of_nonneg, Int.fmod_eq_emod_of_nonneg]); omega) | trivial | (refine ⟨?_, ?_, ?_, ?_, ?_, ?_, ?_, ?_, ?_, ?_, ?_, ?_, ?_, ?_⟩ <;> first | assumption | omega) | decide | (exact decide_eq_true (by omega)) | k_extra "pre")); (case f3 => (first | assumption | omega | ((try dsimp only); omega) | ((try dsimp only); (simp (disch := decide) only [Int.fdiv_eq_ediv_of_nonneg, Int.fmod_eq_emod_of_nonneg]); omega) | trivial | (refine ⟨?_, ?_, ?_, ?_, ?_, ?_, ?_, ?_, ?_, ?_, ?_, ?_, ?_, ?_⟩ <;> first | assumption | omega) | decide | (exact decide_eq_true (by omega)) | k_extra "pre")); intro v9 n9 h9 tk9 F9 N9 R9; (try dsimp only at R9); (obtain ⟨r9, t91, t92, t93, k91, k92, k93, u91, u92, e9, en9⟩ := R9); (subst e9; subst en9); (try dsimp only); (try k_sweep); (try k_fold))
  trivial

def isLeap (y : Int) : Bool := decide (y % 4 = 0) && (decide (y % 100 ≠ 0) || decide (y % 400 = 0))
theorem fm (y k : Int) (h : 0 ≤ k := by decide) : y.fmod k = y % k := Int.fmod_eq_emod_of_nonneg _ h
theorem fd (y k : Int) (h : 0 ≤ k := by decide) : y.fdiv k = y / k := Int.fdiv_eq_ediv_of_nonneg _ h
theorem is_leap_c (w : World) (y : Int) (t : Tok) : Pur w 1 (.ref 172) [.int y t] (fun v => v = .bool (isLeap y)) := by
  (try unfold Pur)
  unfold Spc
  k_fill
  intro mean mg mb dp un gd cn cs aF ccd cl outer A₀ base h₀ LF mF news sF QF EF B F X N T hk hdp hun hin hret
  refine wpAny_call ?_
  k_dflt cell_enter
  (with_reducible rename Fr _ _ _ (fun nzy => List.lookup nzy _) => F0)
  replace F0 := fr_eq (m' := fun nzy => List.lookup nzy ([(Str.ofString "year", Value.int y t)] : List (Str × Value))) F0 (by kernel_rfl)
  k_steps
  all_goals (refine' hret _ _ _ _ ?e2 ?e3 (⟨rfl, ?_⟩); (case e2 => k_asm); (case e3 => (first | k_asm | (refine' news_drop ?cbN ?cbS; (case cbN => assumption); (case cbS => kcj_all)))))
  all_goals (simp only [fm y 4, fm y 100, fm y 400] at *; unfold isLeap; simp_all)
  exact Bool.eq_iff_iff.mpr (by simp)
theorem rows_20_39 : True := by
  k_with "eval Call Name" => (k_here; (with_reducible show wpAny _ _ (eval (Expr.Call (Expr.Name "is_leap" _) _ _ _) _) _ _ _); refine Call_ ?_)
  k_with "call ref" => (k_here; (with_reducible show wpAny _ _ (call (Value.ref 172) _) _ _ _); k_dflt (refine' pur_use (is_leap_c _ _ _) ?k1 ?k2 ?k3 ?k4 ?k5 ?kK ?kd ?ku ?_; (case k1 => k_asm); (case k2 => k_asm); (case k3 => k_asm); (case k4 => k_asm); (case k5 => k_asm); (case kK => first | exact rfl | assumption); (case kd => ktr_room); (case ku => ktr_units)); intro v9 h9 tk9 F9 N9 R9; (try dsimp only at R9); (subst R9); (try dsimp only); (try k_sweep); (try k_fold))
  trivial
def mLen (y m : Int) : Int := if m = 2 then (if isLeap y then 29 else 28) else if m = 4 ∨ m = 6 ∨ m = 9 ∨ m = 11 then 30 else 31
theorem month_length_c (w : World) (y m : Int) (t u : Tok) : Pur w 2 (.ref 179) [.int y t, .int m u] (fun v => ∃ t, v = .int (mLen y m) t) := by
  (try unfold Pur)
  unfold Spc
  k_fill
  intro mean mg mb dp un gd cn cs aF ccd cl outer A₀ base h₀ LF mF news sF QF EF B F X N T hk hdp hun hin hret
  refine wpAny_call ?_
  k_dflt cell_enter
  (with_reducible rename Fr _ _ _ (fun nzy => List.lookup nzy _) => F0)
  replace F0 := fr_eq (m' := fun nzy => List.lookup nzy ([(Str.ofString "month", Value.int m u), (Str.ofString "year", Value.int y t)] : List (Str × Value))) F0 (by kernel_rfl)
  k_steps
  all_goals (refine' hret _ _ _ _ ?e2 ?e3 (⟨rfl, ktn_int ?_⟩); (case e2 => k_asm); (case e3 => (first | k_asm | (refine' news_drop ?cbN ?cbS; (case cbN => assumption); (case cbS => kcj_all)))))
  all_goals (unfold mLen)
  all_goals first | (simp_all; done) | (simp_all; omega)
theorem rows_20_40 : True := by
  k_with "eval Call Name" => (k_here; (with_reducible show wpAny _ _ (eval (Expr.Call (Expr.Name "month_length" _) _ _ _) _) _ _ _); refine Call_ ?_)
  k_with "call ref" => (k_here; (with_reducible show wpAny _ _ (call (Value.ref 179) _) _ _ _); k_dflt (refine' pur_use (month_length_c _ _ _ _ _) ?k1 ?k2 ?k3 ?k4 ?k5 ?kK ?kd ?ku ?_; (case k1 => k_asm); (case k2 => k_asm); (case k3 => k_asm); (case k4 => k_asm); (case k5 => k_asm); (case kK => first | exact rfl | assumption); (case kd => ktr_room); (case ku => ktr_units)); intro v9 h9 tk9 F9 N9 R9; (try dsimp only at R9); (obtain ⟨t9, e9⟩ := R9); (subst e9); (try dsimp only); (try k_sweep); (try k_fold))
  trivial
def dby (y : Int) : Int := (y - 1) * 365 + (y - 1) / 4 - (y - 1) / 100 + (y - 1) / 400
theorem days_before_year_c (w : World) (y : Int) (t : Tok) : Pur w 1 (.ref 186) [.int y t] (fun v => ∃ t, v = .int (dby y) t) := by
  (try unfold Pur)
  unfold Spc
  k_fill
  intro mean mg mb dp un gd cn cs aF ccd cl outer A₀ base h₀ LF mF news sF QF EF B F X N T hk hdp hun hin hret
  refine wpAny_call ?_
  k_dflt cell_enter
  (with_reducible rename Fr _ _ _ (fun nzy => List.lookup nzy _) => F0)
  replace F0 := fr_eq (m' := fun nzy => List.lookup nzy ([(Str.ofString "year", Value.int y t)] : List (Str × Value))) F0 (by kernel_rfl)
  k_steps
  all_goals (refine' hret _ _ _ _ ?e2 ?e3 (⟨rfl, ktn_int ?_⟩); (case e2 => k_asm); (case e3 => (first | k_asm | (refine' news_drop ?cbN ?cbS; (case cbN => assumption); (case cbS => kcj_all)))))
  all_goals (unfold dby; simp only [fd _ 4, fd _ 100, fd _ 400])
theorem rows_20_41 : True := by
  k_with "eval Call Name" => (k_here; (with_reducible show wpAny _ _ (eval (Expr.Call (Expr.Name "days_before_year" _) _ _ _) _) _ _ _); refine Call_ ?_)
  k_with "call ref" => (k_here; (with_reducible show wpAny _ _ (call (Value.ref 186) _) _ _ _); k_dflt (refine' pur_use (days_before_year_c _ _ _) ?k1 ?k2 ?k3 ?k4 ?k5 ?kK ?kd ?ku ?_; (case k1 => k_asm); (case k2 => k_asm); (case k3 => k_asm); (case k4 => k_asm); (case k5 => k_asm); (case kK => first | exact rfl | assumption); (case kd => ktr_room); (case ku => ktr_units)); intro v9 h9 tk9 F9 N9 R9; (try dsimp only at R9); (obtain ⟨t9, e9⟩ := R9); (subst e9); (try dsimp only); (try k_sweep); (try k_fold))
  trivial

def mSum (y m : Int) : Int := ((rangeKs 1 (m - 1).toNat).map (mLen y)).sum
def dayNum (y m d : Int) : Int := dby y - 719162 + d - 1 + mSum y m
theorem day_number_c (w : World) (y mo d : Int) (t u v : Tok) (h1 : 1 ≤ mo) (h2 : mo ≤ 12) : Pur w 3 (.ref 193) [.int y t, .int mo u, .int d v] (fun v => ∃ t, v = .int (dayNum y mo d) t) := by
  (try unfold Pur)
  unfold Spc
  k_fill
  intro mean mg mb dp un gd cn cs aF ccd cl outer A₀ base h₀ LF mF news sF QF EF B F X N T hk hdp hun hin hret
  refine wpAny_call ?_
  k_dflt cell_enter
  (with_reducible rename Fr _ _ _ (fun nzy => List.lookup nzy _) => F0)
  replace F0 := fr_eq (m' := fun nzy => List.lookup nzy ([(Str.ofString "day", Value.int d v), (Str.ofString "month", Value.int mo u), (Str.ofString "year", Value.int y t)] : List (Str × Value))) F0 (by kernel_rfl)
  k_with "pyIter ref" => k_state (fun pre total => total = dby y - 719162 + d - 1 + (pre.map (mLen y)).sum) "total"
  k_steps
  all_goals trace_state
  all_goals (refine' hret _ _ _ _ ?e2 ?e3 (⟨rfl, ktn_int ?_⟩); (case e2 => k_asm); (case e3 => (first | k_asm | (refine' news_drop ?cbN ?cbS; (case cbN => assumption); (case cbS => kcj_all)))))
  unfold dayNum mSum; omega
theorem rows_21_42 : True := by
  k_with_none
  k_with "NZ LOOK" => ((repeat (first | exact if_hit | refine if_miss (by kernel_rfl) ?_ | exact lk_hit | refine lk_miss (by kernel_rfl) ?_ | assumption)); done)
  k_with "ite" => (k_closed; first | (with_reducible refine ite_neg Bool.false_ne_true ?_) | (with_reducible refine ite_pos rfl ?_) | (with_reducible refine ite_neg (by decide +kernel) ?_) | (with_reducible refine ite_pos (by decide +kernel) ?_))
  k_with "subscriptTail" => ((with_reducible show wpAny _ _ (subscriptTail (Expr.Attribute _ _ _) _ _ _) _ _ _); walk_at "last subscriptTail")
  k_with "NZ SUB" => (intro p9 hp9; (repeat (first | exact hp9 | exact List.mem_append_left _ hp9 | (refine (‹∀ p : Addr × Obj, p ∈ _ → p ∈ _› p9 ?_); exact hp9) | refine List.Mem.tail _ ?_)))
  k_with "eval Name" => (k_here; (with_reducible rename Fr _ _ _ _ => kF); with_reducible (refine' nameX_K kF ?nzX ?nzT ?nze ?_ ?nzk ?nza ?nzb; (case nzX => assumption); (case nzT => k_asm); (case nze => k_is); (case nzk => first | exact rfl | assumption); (case nza => kernel_rfl); (case nzb => kernel_rfl); k_whole))
  k_with "eval Name" => (k_here; (with_reducible rename Fr _ _ _ _ => kF); with_reducible (refine' nameX_L kF ?nzv ?_ ?nzk ?nza ?nzb; (case nza => kernel_rfl!); (case nzv => walk_at "NZ LOOK"); (case nzk => first | exact rfl | assumption); (case nzb => kernel_rfl); k_whole))
  k_with "callWith ref" => (k_here; with_reducible (refine' cw_some ?nzx ?nzk ?_ ?nzhe ?nzhp; (case nzx => assumption); (case nzk => k_is); (case nzhe => kernel_rfl); (case nzhp => kernel_rfl); k_whole))
  k_with "callWith ref" => (k_here; with_reducible (refine' cw_none ?nzx ?nzF ?nzk ?_; (case nzx => assumption); (case nzF => assumption); (case nzk => k_is); k_whole))
  k_with "CompEnd" => (k_dflt (refine' end_same ?a1 ?a2 ?a3 ?a4 ?_; (case a1 => k_asm); (case a2 => k_asm); (case a3 => assumption); (case a4 => lcg_src)))
  k_with "NZ TUP" => (k_dflt (refine' GSrc.tup ?a1 ?a2 ?a3 ?a4 ?a5 ?_; (case a1 => rfl); (case a2 => k_asm); (case a3 => k_asm); (case a4 => first | exact Or.inr ⟨_, by k_mem, rfl, _, rfl⟩ | exact Or.inl (by assumption)); (case a5 => first | exact Nat.le_of_ble_eq_true rfl | size_fits)); intro g')
  k_with "NZ TURN" => (refine ⟨_, _, rfl, by k_asm, by (first | k_asm | (refine' news_drop ?cbN ?cbS; (case cbN => assumption); (case cbS => kcj_all))), ?_⟩)
  k_with "NZ ACOMP" => (k_here; k_dflt (refine Assign_ListComp_G (by k_asm) (by rfl) (by with_unfolding_all rfl) (by rfl) (by decide) (by rfl) (by decide) (by rfl) (by rfl) (by rfl) ?_))
  k_with "NZ ECOMP" => (k_here; k_dflt (refine ListComp_G (by k_asm) (by rfl) (by decide) (by rfl) (by decide) (by rfl) ?_))
  k_with "compareOp In int" => (k_here; (with_reducible show wpAny _ _ (compareOp CmpOp.In (Value.int _ _) (Value.bytes _ _)) _ _ _); (refine By.int_in_bytes (by omega) (by omega) ?_))
  k_with "compareOp In bytes" => (k_here; (with_reducible show wpAny _ _ (compareOp CmpOp.In (Value.bytes _ _) (Value.bytes _ _)) _ _ _); k_dflt (refine' By.bytes_in_bytes ?k1 ?k2 ?k3 ?_; (case k1 => rfl); (case k2 => k_asm); (case k3 => k_asm)); intro h9 tk9 F9 N9; (try k_sweep))
  k_with "exec Assign cons ListComp" => ((with_reducible show wpAny _ _ (exec (Stmt.Assign _ (Expr.ListComp (Expr.Call (Expr.Name "int" _) [Expr.Name "cell" _] _ _) _ _ _) _) _) _ _ _); walk_at "NZ ACOMP")
  k_with "call ref" => (k_here; (with_reducible show wpAny _ _ (call (Value.ref 407) _) _ _ _); k_dflt (refine' spcl_use (law_box_c _ _ _ _ ?h1 ?h2) ?k1 ?k2 ?k3 ?k4 ?k5 ?kK ?kd ?ku ?ki ?kL ?_; (case k1 => k_asm); (case k2 => k_asm); (case k3 => k_asm); (case k4 => k_asm); (case k5 => k_asm); (case kK => first | exact rfl | assumption); (case kd => ktr_room); (case ku => ktr_units); (case ki => exact trivial)); (case kL => with_reducible assumption); (case h1 => with_reducible assumption); (case h2 => omega); intro v9 n9 h9 tk9 F9 N9 R9; (try dsimp only at R9); (obtain ⟨p9, c9, ys9, ks9, cap9, cap29, g9, st9, t91, t92, t93, e9, en9, hy9, hk9, hg90, hg91, hs90, hs91, hcp9, hl9, ho9⟩ := R9); (subst e9; subst en9); (try simp only [AllLt, and_true] at hl9); (try simp only [LCg.Off1, and_true] at ho9); (try dsimp only); (try k_sweep); (try k_fold))
  k_with "call ref" => (k_here; (with_reducible show wpAny _ _ (call (Value.ref 414) _) _ _ _); (try walk_at "NZ SPLIT"); k_dflt (refine' draw_use ?k1 ?k2 ?k3 ?k4 ?k5 ?kK ?kd ?ku ?h1 ?h2 ?h3 ?h4 ?h5 ?h6 ?h7 ?h8 ?h9 ?h10 ?h11 ?h12 ?h13 ?_; (case k1 => k_asm); (case k2 => k_asm); (case k3 => k_asm); (case k4 => k_asm); (case k5 => k_asm); (case kK => first | exact rfl | assumption); (case kd => ktr_room); (case ku => ktr_units)); (case h1 => intro o9; k_upd); (case h2 => k_dflt k_mem); (case h3 => k_ne); (case h4 => with_reducible assumption); (case h5 => with_reducible assumption); (case h6 => with_reducible first | assumption | decide); (case h7 => with_reducible assumption); (case h8 => with_reducible assumption); (case h9 => with_reducible assumption); (case h10 => omega); (case h11 => omega); (case h12 => decide); (case h13 => decide); intro k9 t9 g9 st9 cap9 t91 t92 t93 h9 tk9 F9 N9 hk90 hk91 hg90 hg91 hs90 hs91; (try dsimp only at N9); (try dsimp only); (try k_sweep); (try k_fold))
  k_with "eval Call Name" => (k_here; (with_reducible show wpAny _ _ (eval (Expr.Call (Expr.Name "is_atom_code" _) _ _ _) _) _ _ _); refine Call_ ?_)
  k_with "call ref" => (k_here; (with_reducible show wpAny _ _ (call (Value.ref 74) _) _ _ _); k_dflt (refine' pur_use (is_atom_code_c _ _ _ ?h1) ?k1 ?k2 ?k3 ?k4 ?k5 ?kK ?kd ?ku ?_; (case k1 => k_asm); (case k2 => k_asm); (case k3 => k_asm); (case k4 => k_asm); (case k5 => k_asm); (case kK => first | exact rfl | assumption); (case kd => ktr_room); (case ku => ktr_units)); (case h1 => (first | assumption | omega | ((try dsimp only); omega) | ((try dsimp only); (simp (disch := decide) only [Int.fdiv_eq_ediv_of_nonneg, Int.fmod_eq_emod_of_nonneg]); omega) | trivial | (refine ⟨?_, ?_, ?_, ?_, ?_, ?_, ?_, ?_, ?_, ?_, ?_, ?_, ?_, ?_⟩ <;> first | assumption | omega) | decide | (exact decide_eq_true (by omega)) | k_extra "pre")); intro v9 h9 tk9 F9 N9 R9; (try dsimp only at R9); (subst R9); (try dsimp only); (try k_sweep); (try k_fold))
  k_with "eval Call Name" => (k_here; (with_reducible show wpAny _ _ (eval (Expr.Call (Expr.Name "line_end" _) _ _ _) _) _ _ _); refine Call_ ?_)
  k_with "call ref" => (k_here; (with_reducible show wpAny _ _ (call (Value.ref 81) _) _ _ _); k_dflt (refine' pur_use (line_end_c _ _ _ _ _ _ ?h1 ?h2 ?h3 ?h4 ?h5 ?h6) ?k1 ?k2 ?k3 ?k4 ?k5 ?kK ?kd ?ku ?_; (case k1 => k_asm); (case k2 => k_asm); (case k3 => k_asm); (case k4 => k_asm); (case k5 => k_asm); (case kK => first | exact rfl | assumption); (case kd => ktr_room); (case ku => ktr_units)); (case h1 => (first | assumption | omega | ((try dsimp only); omega) | ((try dsimp only); (simp (disch := decide) only [Int.fdiv_eq_ediv_of_nonneg, Int.fmod_eq_emod_of_nonneg]); omega) | trivial | (refine ⟨?_, ?_, ?_, ?_, ?_, ?_, ?_, ?_, ?_, ?_, ?_, ?_, ?_, ?_⟩ <;> first | assumption | omega) | decide | (exact decide_eq_true (by omega)) | k_extra "pre")); (case h2 => (first | assumption | omega | ((try dsimp only); omega) | ((try dsimp only); (simp (disch := decide) only [Int.fdiv_eq_ediv_of_nonneg, Int.fmod_eq_emod_of_nonneg]); omega) | trivial | (refine ⟨?_, ?_, ?_, ?_, ?_, ?_, ?_, ?_, ?_, ?_, ?_, ?_, ?_, ?_⟩ <;> first | assumption | omega) | decide | (exact decide_eq_true (by omega)) | k_extra "pre")); (case h3 => (first | assumption | omega | ((try dsimp only); omega) | ((try dsimp only); (simp (disch := decide) only [Int.fdiv_eq_ediv_of_nonneg, Int.fmod_eq_emod_of_nonneg]); omega) | trivial | (refine ⟨?_, ?_, ?_, ?_, ?_, ?_, ?_, ?_, ?_, ?_, ?_, ?_, ?_, ?_⟩ <;> first | assumption | omega) | decide | (exact decide_eq_true (by omega)) | k_extra "pre")); (case h4 => (first | assumption | omega | ((try dsimp only); omega) | ((try dsimp only); (simp (disch := decide) only [Int.fdiv_eq_ediv_of_nonneg, Int.fmod_eq_emod_of_nonneg]); omega) | trivial | (refine ⟨?_, ?_, ?_, ?_, ?_, ?_, ?_, ?_, ?_, ?_, ?_, ?_, ?_, ?_⟩ <;> first | assumption | omega) | decide | (exact decide_eq_true (by omega)) | k_extra "pre")); (case h5 => (first | assumption | omega | ((try dsimp only); omega) | ((try dsimp only); (simp (disch := decide) only [Int.fdiv_eq_ediv_of_nonneg, Int.fmod_eq_emod_of_nonneg]); omega) | trivial | (refine ⟨?_, ?_, ?_, ?_, ?_, ?_, ?_, ?_, ?_, ?_, ?_, ?_, ?_, ?_⟩ <;> first | assumption | omega) | decide | (exact decide_eq_true (by omega)) | k_extra "pre")); (case h6 => (first | assumption | omega | ((try dsimp only); omega) | ((try dsimp only); (simp (disch := decide) only [Int.fdiv_eq_ediv_of_nonneg, Int.fmod_eq_emod_of_nonneg]); omega) | trivial | (refine ⟨?_, ?_, ?_, ?_, ?_, ?_, ?_, ?_, ?_, ?_, ?_, ?_, ?_, ?_⟩ <;> first | assumption | omega) | decide | (exact decide_eq_true (by omega)) | k_extra "pre")); intro v9 h9 tk9 F9 N9 R9; (try dsimp only at R9); (obtain ⟨t9, e9⟩ := R9); (subst e9); (try dsimp only); (try k_sweep); (try k_fold))
  k_with "eval Call Name" => (k_here; (with_reducible show wpAny _ _ (eval (Expr.Call (Expr.Name "past_white" _) _ _ _) _) _ _ _); refine Call_ ?_)
  k_with "call ref" => (k_here; (with_reducible show wpAny _ _ (call (Value.ref 123) _) _ _ _); k_dflt (refine' pur_use (past_white_c _ _ _ _ _ _ _ ?h1 ?h2) ?k1 ?k2 ?k3 ?k4 ?k5 ?kK ?kd ?ku ?_; (case k1 => k_asm); (case k2 => k_asm); (case k3 => k_asm); (case k4 => k_asm); (case k5 => k_asm); (case kK => first | exact rfl | assumption); (case kd => ktr_room); (case ku => ktr_units)); (case h1 => (first | assumption | omega | ((try dsimp only); omega) | ((try dsimp only); (simp (disch := decide) only [Int.fdiv_eq_ediv_of_nonneg, Int.fmod_eq_emod_of_nonneg]); omega) | trivial | (refine ⟨?_, ?_, ?_, ?_, ?_, ?_, ?_, ?_, ?_, ?_, ?_, ?_, ?_, ?_⟩ <;> first | assumption | omega) | decide | (exact decide_eq_true (by omega)) | k_extra "pre")); (case h2 => (first | assumption | omega | ((try dsimp only); omega) | ((try dsimp only); (simp (disch := decide) only [Int.fdiv_eq_ediv_of_nonneg, Int.fmod_eq_emod_of_nonneg]); omega) | trivial | (refine ⟨?_, ?_, ?_, ?_, ?_, ?_, ?_, ?_, ?_, ?_, ?_, ?_, ?_, ?_⟩ <;> first | assumption | omega) | decide | (exact decide_eq_true (by omega)) | k_extra "pre")); intro v9 h9 tk9 F9 N9 R9; (try dsimp only at R9); (obtain ⟨t9, e9⟩ := R9); (subst e9); (try dsimp only); (try k_sweep); (try k_fold))
  k_with "eval Call Name" => (k_here; (with_reducible show wpAny _ _ (eval (Expr.Call (Expr.Name "atom_at" _) _ _ _) _) _ _ _); refine Call_ ?_)
  k_with "call ref" => (k_here; (with_reducible show wpAny _ _ (call (Value.ref 109) _) _ _ _); k_dflt (refine' spc_use (atom_at_c _ _ _ _ _ _ _ ?h1 ?h2) ?k1 ?k2 ?k3 ?k4 ?k5 ?kK ?kd ?ku ?ki ?_; (case k1 => k_asm); (case k2 => k_asm); (case k3 => k_asm); (case k4 => k_asm); (case k5 => k_asm); (case kK => first | exact rfl | assumption); (case kd => ktr_room); (case ku => ktr_units); (case ki => exact trivial)); (case h1 => (first | assumption | omega | ((try dsimp only); omega) | ((try dsimp only); (simp (disch := decide) only [Int.fdiv_eq_ediv_of_nonneg, Int.fmod_eq_emod_of_nonneg]); omega) | trivial | (refine ⟨?_, ?_, ?_, ?_, ?_, ?_, ?_, ?_, ?_, ?_, ?_, ?_, ?_, ?_⟩ <;> first | assumption | omega) | decide | (exact decide_eq_true (by omega)) | k_extra "pre")); (case h2 => (first | assumption | omega | ((try dsimp only); omega) | ((try dsimp only); (simp (disch := decide) only [Int.fdiv_eq_ediv_of_nonneg, Int.fmod_eq_emod_of_nonneg]); omega) | trivial | (refine ⟨?_, ?_, ?_, ?_, ?_, ?_, ?_, ?_, ?_, ?_, ?_, ?_, ?_, ?_⟩ <;> first | assumption | omega) | decide | (exact decide_eq_true (by omega)) | k_extra "pre")); intro v9 n9 h9 tk9 F9 N9 R9; (try dsimp only at R9); (obtain ⟨x9, t91, t92, e9, en9, hl9⟩ := R9); (subst e9; subst en9; (try simp only [AllLt, and_true] at hl9)); (try dsimp only); (try k_sweep); (try k_fold))
  k_with "eval Call Name" => (k_here; (with_reducible show wpAny _ _ (eval (Expr.Call (Expr.Name "token_at" _) _ _ _) _) _ _ _); refine Call_ ?_)
  k_with "call ref" => (k_here; (with_reducible show wpAny _ _ (call (Value.ref 116) _) _ _ _); k_dflt (refine' spc_use (token_a_c _ _ _ _ _ _ _ ?h1 ?h2) ?k1 ?k2 ?k3 ?k4 ?k5 ?kK ?kd ?ku ?ki ?_; (case k1 => k_asm); (case k2 => k_asm); (case k3 => k_asm); (case k4 => k_asm); (case k5 => k_asm); (case kK => first | exact rfl | assumption); (case kd => ktr_room); (case ku => ktr_units); (case ki => exact trivial)); (case h1 => (first | assumption | omega | ((try dsimp only); omega) | ((try dsimp only); (simp (disch := decide) only [Int.fdiv_eq_ediv_of_nonneg, Int.fmod_eq_emod_of_nonneg]); omega) | trivial | (refine ⟨?_, ?_, ?_, ?_, ?_, ?_, ?_, ?_, ?_, ?_, ?_, ?_, ?_, ?_⟩ <;> first | assumption | omega) | decide | (exact decide_eq_true (by omega)) | k_extra "pre")); (case h2 => (first | assumption | omega | ((try dsimp only); omega) | ((try dsimp only); (simp (disch := decide) only [Int.fdiv_eq_ediv_of_nonneg, Int.fmod_eq_emod_of_nonneg]); omega) | trivial | (refine ⟨?_, ?_, ?_, ?_, ?_, ?_, ?_, ?_, ?_, ?_, ?_, ?_, ?_, ?_⟩ <;> first | assumption | omega) | decide | (exact decide_eq_true (by omega)) | k_extra "pre")); intro v9 n9 h9 tk9 F9 N9 R9; (try dsimp only at R9); (obtain ⟨x9, y9, t91, t92, t93, t94, e9, en9, hl9, hm9⟩ := R9); (subst e9; subst en9; (try simp only [AllLt, and_true] at hl9); (replace hm9 := ltN hm9)); (try dsimp only); (try k_sweep); (try k_fold))
  k_with "eval Call Name" => (k_here; (with_reducible show wpAny _ _ (eval (Expr.Call (Expr.Name "token_at" _) _ _ _) _) _ _ _); refine Call_ ?_)
  k_with "call ref" => (k_here; (with_reducible show wpAny _ _ (call (Value.ref 116) _) _ _ _); k_dflt (refine' spc_use (token_s_c _ _ _ _ _ _ _ _ ?h1 ?h2) ?k1 ?k2 ?k3 ?k4 ?k5 ?kK ?kd ?ku ?ki ?_; (case k1 => k_asm); (case k2 => k_asm); (case k3 => k_asm); (case k4 => k_asm); (case k5 => k_asm); (case kK => first | exact rfl | assumption); (case kd => ktr_room); (case ku => ktr_units); (case ki => exact trivial)); (case h1 => (first | assumption | omega | ((try dsimp only); omega) | ((try dsimp only); (simp (disch := decide) only [Int.fdiv_eq_ediv_of_nonneg, Int.fmod_eq_emod_of_nonneg]); omega) | trivial | (refine ⟨?_, ?_, ?_, ?_, ?_, ?_, ?_, ?_, ?_, ?_, ?_, ?_, ?_, ?_⟩ <;> first | assumption | omega) | decide | (exact decide_eq_true (by omega)) | k_extra "pre")); (case h2 => (first | assumption | omega | ((try dsimp only); omega) | ((try dsimp only); (simp (disch := decide) only [Int.fdiv_eq_ediv_of_nonneg, Int.fmod_eq_emod_of_nonneg]); omega) | trivial | (refine ⟨?_, ?_, ?_, ?_, ?_, ?_, ?_, ?_, ?_, ?_, ?_, ?_, ?_, ?_⟩ <;> first | assumption | omega) | decide | (exact decide_eq_true (by omega)) | k_extra "pre")); intro v9 n9 h9 tk9 F9 N9 R9; (try dsimp only at R9); (obtain ⟨x9, y9, t91, t92, t93, t94, e9, en9, hl9, hm9⟩ := R9); (subst e9; subst en9; (try simp only [AllLt, and_true] at hl9); (replace hm9 := ltN hm9)); (try dsimp only); (try k_sweep); (try k_fold))
  k_with "eval Call Name" => (k_here; (with_reducible show wpAny _ _ (eval (Expr.Call (Expr.Name "token_at" _) _ _ _) _) _ _ _); refine Call_ ?_)
  k_with "call ref" => (k_here; (with_reducible show wpAny _ _ (call (Value.ref 116) _) _ _ _); k_dflt (refine' spc_use (token_c _ _ _ _ _ _ _ ?h1 ?h2 ?h3) ?k1 ?k2 ?k3 ?k4 ?k5 ?kK ?kd ?ku ?ki ?_; (case k1 => k_asm); (case k2 => k_asm); (case k3 => k_asm); (case k4 => k_asm); (case k5 => k_asm); (case kK => first | exact rfl | assumption); (case kd => ktr_room); (case ku => ktr_units); (case ki => exact trivial)); (case h1 => (first | assumption | omega | ((try dsimp only); omega) | ((try dsimp only); (simp (disch := decide) only [Int.fdiv_eq_ediv_of_nonneg, Int.fmod_eq_emod_of_nonneg]); omega) | trivial | (refine ⟨?_, ?_, ?_, ?_, ?_, ?_, ?_, ?_, ?_, ?_, ?_, ?_, ?_, ?_⟩ <;> first | assumption | omega) | decide | (exact decide_eq_true (by omega)) | k_extra "pre")); (case h2 => (first | assumption | omega | ((try dsimp only); omega) | ((try dsimp only); (simp (disch := decide) only [Int.fdiv_eq_ediv_of_nonneg, Int.fmod_eq_emod_of_nonneg]); omega) | trivial | (refine ⟨?_, ?_, ?_, ?_, ?_, ?_, ?_, ?_, ?_, ?_, ?_, ?_, ?_, ?_⟩ <;> first | assumption | omega) | decide | (exact decide_eq_true (by omega)) | k_extra "pre")); (case h3 => (first | assumption | omega | ((try dsimp only); omega) | ((try dsimp only); (simp (disch := decide) only [Int.fdiv_eq_ediv_of_nonneg, Int.fmod_eq_emod_of_nonneg]); omega) | trivial | (refine ⟨?_, ?_, ?_, ?_, ?_, ?_, ?_, ?_, ?_, ?_, ?_, ?_, ?_, ?_⟩ <;> first | assumption | omega) | decide | (exact decide_eq_true (by omega)) | k_extra "pre")); intro v9 n9 h9 tk9 F9 N9 R9; (try dsimp only at R9); (obtain ⟨x9, y9, t91, t92, t93, t94, e9, en9, hl9, hm9⟩ := R9); (subst e9; subst en9; (try simp only [AllLt, and_true] at hl9); (replace hm9 := ltN hm9)); (try dsimp only); (try k_sweep); (try k_fold))
  k_with "eval Call Name" => (k_here; (with_reducible show wpAny _ _ (eval (Expr.Call (Expr.Name "tokens_of" _) _ _ _) _) _ _ _); refine Call_ ?_)
  k_with "call ref" => (k_here; (with_reducible show wpAny _ _ (call (Value.ref 130) _) _ _ _); k_dflt (refine' spc_use (tokens_of_c _ _ _ _ _ ?h1 ?h2) ?k1 ?k2 ?k3 ?k4 ?k5 ?kK ?kd ?ku ?ki ?_; (case k1 => k_asm); (case k2 => k_asm); (case k3 => k_asm); (case k4 => k_asm); (case k5 => k_asm); (case kK => first | exact rfl | assumption); (case kd => ktr_room); (case ku => ktr_units); (case ki => exact trivial)); (case h1 => (first | assumption | omega | ((try dsimp only); omega) | ((try dsimp only); (simp (disch := decide) only [Int.fdiv_eq_ediv_of_nonneg, Int.fmod_eq_emod_of_nonneg]); omega) | trivial | (refine ⟨?_, ?_, ?_, ?_, ?_, ?_, ?_, ?_, ?_, ?_, ?_, ?_, ?_, ?_⟩ <;> first | assumption | omega) | decide | (exact decide_eq_true (by omega)) | k_extra "pre")); (case h2 => (first | assumption | omega | ((try dsimp only); omega) | ((try dsimp only); (simp (disch := decide) only [Int.fdiv_eq_ediv_of_nonneg, Int.fmod_eq_emod_of_nonneg]); omega) | trivial | (refine ⟨?_, ?_, ?_, ?_, ?_, ?_, ?_, ?_, ?_, ?_, ?_, ?_, ?_, ?_⟩ <;> first | assumption | omega) | decide | (exact decide_eq_true (by omega)) | k_extra "pre")); intro v9 n9 h9 tk9 F9 N9 R9; (try dsimp only at R9); (obtain ⟨f9, vs9, cap9, made9, e9, en9, hT9, hsub9, hne9⟩ := R9); (subst e9; subst en9); (try dsimp only); (try k_sweep); (try k_fold))
  k_with "eval Call Name" => (k_here; (with_reducible show wpAny _ _ (eval (Expr.Call (Expr.Name "lower_code" _) _ _ _) _) _ _ _); refine Call_ ?_)
  k_with "call ref" => (k_here; (with_reducible show wpAny _ _ (call (Value.ref 61) _) _ _ _); k_dflt (refine' pur_use (lower_code_c _ _ _) ?k1 ?k2 ?k3 ?k4 ?k5 ?kK ?kd ?ku ?_; (case k1 => k_asm); (case k2 => k_asm); (case k3 => k_asm); (case k4 => k_asm); (case k5 => k_asm); (case kK => first | exact rfl | assumption); (case kd => ktr_room); (case ku => ktr_units)); intro v9 h9 tk9 F9 N9 R9; (try dsimp only at R9); (obtain ⟨t9, e9⟩ := R9); (subst e9); (try dsimp only); (try k_sweep); (try k_fold))
  k_with "eval ListComp" => ((with_reducible show wpAny _ _ (eval (Expr.ListComp (Expr.Call (Expr.Name "chr" _) [Expr.Call (Expr.Name "lower_code" _) _ _ _] _ _) _ _ _) _) _ _ _); walk_at "NZ ECOMP")
  k_with "eval Call Name" => (k_here; (with_reducible show wpAny _ _ (eval (Expr.Call (Expr.Name "lower_text" _) _ _ _) _) _ _ _); refine Call_ ?_)
  k_with "call ref" => (k_here; (with_reducible show wpAny _ _ (call (Value.ref 66) _) _ _ _); k_dflt (refine' pur_use (lower_text_c _ _ _ ?h1 ?h2) ?k1 ?k2 ?k3 ?k4 ?k5 ?kK ?kd ?ku ?_; (case k1 => k_asm); (case k2 => k_asm); (case k3 => k_asm); (case k4 => k_asm); (case k5 => k_asm); (case kK => first | exact rfl | assumption); (case kd => ktr_room); (case ku => ktr_units)); (case h1 => (first | assumption | omega | ((try dsimp only); omega) | ((try dsimp only); (simp (disch := decide) only [Int.fdiv_eq_ediv_of_nonneg, Int.fmod_eq_emod_of_nonneg]); omega) | trivial | (refine ⟨?_, ?_, ?_, ?_, ?_, ?_, ?_, ?_, ?_, ?_, ?_, ?_, ?_, ?_⟩ <;> first | assumption | omega) | decide | (exact decide_eq_true (by omega)) | k_extra "pre")); (case h2 => (first | assumption | omega | ((try dsimp only); omega) | ((try dsimp only); (simp (disch := decide) only [Int.fdiv_eq_ediv_of_nonneg, Int.fmod_eq_emod_of_nonneg]); omega) | trivial | (refine ⟨?_, ?_, ?_, ?_, ?_, ?_, ?_, ?_, ?_, ?_, ?_, ?_, ?_, ?_⟩ <;> first | assumption | omega) | decide | (exact decide_eq_true (by omega)) | k_extra "pre")); intro v9 h9 tk9 F9 N9 R9; (try dsimp only at R9); (obtain ⟨t9, e9, hl9⟩ := R9); (subst e9); (try dsimp only); (try k_sweep); (try k_fold))
  k_with "eval Call Name" => (k_here; (with_reducible show wpAny _ _ (eval (Expr.Call (Expr.Name "without_comments" _) _ _ _) _) _ _ _); refine Call_ ?_)
  k_with "call ref" => (k_here; (with_reducible show wpAny _ _ (call (Value.ref 135) _) _ _ _); k_dflt (refine' spc_use (without_comments_c _ _ _ _ _ _) ?k1 ?k2 ?k3 ?k4 ?k5 ?kK ?kd ?ku ?ki ?_; (case k1 => k_asm); (case k2 => k_asm); (case k3 => k_asm); (case k4 => k_asm); (case k5 => k_asm); (case kK => first | exact rfl | assumption); (case kd => ktr_room); (case ku => ktr_units); (case ki => exact ⟨by k_mem, TkIn.mono (by assumption) (by walk_at "NZ SUB")⟩)); intro v9 n9 h9 tk9 F9 N9 R9; (try dsimp only at R9); (obtain ⟨d9, e9, en9, hd9⟩ := R9); (subst e9; subst en9); (try dsimp only); (try k_sweep); (try k_fold))
  k_with "eval Call Name" => (k_here; (with_reducible show wpAny _ _ (eval (Expr.Call (Expr.Name "DateReader" _) _ _ _) _) _ _ _); refine Call_ ?_)
  k_with "call ref" => (k_here; (with_reducible show wpAny _ _ (call (Value.ref 339) _) _ _ _); k_dflt (refine' spc_use (reader_c _ _ _ _ _ ?h1 ?h2) ?k1 ?k2 ?k3 ?k4 ?k5 ?kK ?kd ?ku ?ki ?_; (case k1 => k_asm); (case k2 => k_asm); (case k3 => k_asm); (case k4 => k_asm); (case k5 => k_asm); (case kK => first | exact rfl | assumption); (case kd => ktr_room); (case ku => ktr_units); (case ki => exact trivial)); (case h1 => (first | assumption | omega | ((try dsimp only); omega) | ((try dsimp only); (simp (disch := decide) only [Int.fdiv_eq_ediv_of_nonneg, Int.fmod_eq_emod_of_nonneg]); omega) | trivial | (refine ⟨?_, ?_, ?_, ?_, ?_, ?_, ?_, ?_, ?_, ?_, ?_, ?_, ?_, ?_⟩ <;> first | assumption | omega) | decide | (exact decide_eq_true (by omega)) | k_extra "pre")); (case h2 => (first | assumption | omega | ((try dsimp only); omega) | ((try dsimp only); (simp (disch := decide) only [Int.fdiv_eq_ediv_of_nonneg, Int.fmod_eq_emod_of_nonneg]); omega) | trivial | (refine ⟨?_, ?_, ?_, ?_, ?_, ?_, ?_, ?_, ?_, ?_, ?_, ?_, ?_, ?_⟩ <;> first | assumption | omega) | decide | (exact decide_eq_true (by omega)) | k_extra "pre")); intro v9 n9 h9 tk9 F9 N9 R9; (try dsimp only at R9); (obtain ⟨rx9, dx9, dl9, vs9, rest9, k91, k92, k93, u91, u92, e9, en9, hsub9, hR9⟩ := R9); (subst e9; subst en9; (have hx9 := ltN hR9.lt); (have hne9 := hR9.ne); (have gl9 := hR9.gl); (have hz9 := hR9.size)); (try dsimp only); (try k_sweep); (try k_fold))
  k_with "eval Call Name" => (k_here; (with_reducible show wpAny _ _ (eval (Expr.Call (Expr.Name "is_figures" _) _ _ _) _) _ _ _); refine Call_ ?_)
  k_with "call ref" => (k_here; (with_reducible show wpAny _ _ (call (Value.ref 277) _) _ _ _); k_dflt (refine' pur_use (is_figures_c _ _ _ ?h1 ?h2 ?h3) ?k1 ?k2 ?k3 ?k4 ?k5 ?kK ?kd ?ku ?_; (case k1 => k_asm); (case k2 => k_asm); (case k3 => k_asm); (case k4 => k_asm); (case k5 => k_asm); (case kK => first | exact rfl | assumption); (case kd => ktr_room); (case ku => ktr_units)); (case h1 => (first | assumption | omega | ((try dsimp only); omega) | ((try dsimp only); (simp (disch := decide) only [Int.fdiv_eq_ediv_of_nonneg, Int.fmod_eq_emod_of_nonneg]); omega) | trivial | (refine ⟨?_, ?_, ?_, ?_, ?_, ?_, ?_, ?_, ?_, ?_, ?_, ?_, ?_, ?_⟩ <;> first | assumption | omega) | decide | (exact decide_eq_true (by omega)) | k_extra "pre")); (case h2 => (first | assumption | omega | ((try dsimp only); omega) | ((try dsimp only); (simp (disch := decide) only [Int.fdiv_eq_ediv_of_nonneg, Int.fmod_eq_emod_of_nonneg]); omega) | trivial | (refine ⟨?_, ?_, ?_, ?_, ?_, ?_, ?_, ?_, ?_, ?_, ?_, ?_, ?_, ?_⟩ <;> first | assumption | omega) | decide | (exact decide_eq_true (by omega)) | k_extra "pre")); (case h3 => (first | assumption | omega | ((try dsimp only); omega) | ((try dsimp only); (simp (disch := decide) only [Int.fdiv_eq_ediv_of_nonneg, Int.fmod_eq_emod_of_nonneg]); omega) | trivial | (refine ⟨?_, ?_, ?_, ?_, ?_, ?_, ?_, ?_, ?_, ?_, ?_, ?_, ?_, ?_⟩ <;> first | assumption | omega) | decide | (exact decide_eq_true (by omega)) | k_extra "pre")); intro v9 h9 tk9 F9 N9 R9; (try dsimp only at R9); (subst R9); (try dsimp only); (try k_sweep); (try k_fold))
  k_with "eval ListComp" => ((with_reducible show wpAny _ _ (eval (Expr.ListComp (Expr.Call (Expr.Name "chr" _) [Expr.Name "code" _] _ _) _ _ _) _) _ _ _); walk_at "NZ ECOMP")
  k_with "call ref" => (k_here; (with_reducible show wpAny _ _ (call (Value.ref 315) _) _ _ _); k_dflt (refine' spcp_use (atom_c _ _ _ _ _ _ _ _ _ _ _ _ ?h0 ?h1 ?h2 ?h3 ?h4 ?h5) ?k1 ?k2 ?k3 ?k4 ?k5 ?kK ?kd ?ku ?ki ?_; (case k1 => k_asm); (case k2 => k_asm); (case k3 => k_asm); (case k4 => k_asm); (case k5 => k_asm); (case kK => first | exact rfl | assumption); (case kd => ktr_room); (case ku => ktr_units); (case h0 => assumption); (case ki => exact ⟨_, _, _, _, _, by k_mem, by k_mem, fun p hp => by (repeat (first | exact hp | refine List.Mem.tail _ ?_))⟩)); (case h1 => first | assumption | k_dflt (exact rfl)); (case h2 => (first | assumption | omega | ((try dsimp only); omega) | ((try dsimp only); (simp (disch := decide) only [Int.fdiv_eq_ediv_of_nonneg, Int.fmod_eq_emod_of_nonneg]); omega) | trivial | (refine ⟨?_, ?_, ?_, ?_, ?_, ?_, ?_, ?_, ?_, ?_, ?_, ?_, ?_, ?_⟩ <;> first | assumption | omega) | decide | (exact decide_eq_true (by omega)) | k_extra "pre")); (case h3 => (first | assumption | omega | ((try dsimp only); omega) | ((try dsimp only); (simp (disch := decide) only [Int.fdiv_eq_ediv_of_nonneg, Int.fmod_eq_emod_of_nonneg]); omega) | trivial | (refine ⟨?_, ?_, ?_, ?_, ?_, ?_, ?_, ?_, ?_, ?_, ?_, ?_, ?_, ?_⟩ <;> first | assumption | omega) | decide | (exact decide_eq_true (by omega)) | k_extra "pre")); (case h4 => (first | assumption | omega | ((try dsimp only); omega) | ((try dsimp only); (simp (disch := decide) only [Int.fdiv_eq_ediv_of_nonneg, Int.fmod_eq_emod_of_nonneg]); omega) | trivial | (refine ⟨?_, ?_, ?_, ?_, ?_, ?_, ?_, ?_, ?_, ?_, ?_, ?_, ?_, ?_⟩ <;> first | assumption | omega) | decide | (exact decide_eq_true (by omega)) | k_extra "pre")); (case h5 => (first | assumption | omega | ((try dsimp only); omega) | ((try dsimp only); (simp (disch := decide) only [Int.fdiv_eq_ediv_of_nonneg, Int.fmod_eq_emod_of_nonneg]); omega) | trivial | (refine ⟨?_, ?_, ?_, ?_, ?_, ?_, ?_, ?_, ?_, ?_, ?_, ?_, ?_, ?_⟩ <;> first | assumption | omega) | decide | (exact decide_eq_true (by omega)) | k_extra "pre")); intro v9 h9 tk9 F9 N9 R9; (try dsimp only at R9); (obtain ⟨t9, e9⟩ := R9); (subst e9); (try dsimp only); (try k_sweep); (try k_fold))
  k_with "subscriptTail" => (k_here; (with_reducible show wpAny _ _ (subscriptTail _ (PySem.Expr.Slice none _ none _) (Value.ref _) (Value.ref _)) _ _ _); k_dflt (refine' slice_to2 ?F ?N ?t ?_ ?s ?g; (case F => k_asm); (case N => k_asm); (case t => exact News.isTup (by k_asm) (by k_mem)); (case s => with_unfolding_all rfl); (case g => kmk_pure)); intro D' h' F' N' l1; (try k_lt l1); (try k_sweep))
  k_with "compareOp NotEq ref ref" => (k_here; k_dflt (refine' ne_sb ?N ?a ?b ?u ?_; (case N => k_asm); (case a => k_mem); (case b => k_mem); (case u => ktr_units)))
  k_with "call ref" => (k_here; (with_reducible show wpAny _ _ (call (Value.ref 336) _) _ _ _); k_dflt (refine' spc_use (need_c _ _ _ _ _ _ _ _ _ _ _ _ _ ?h0 ?h1) ?k1 ?k2 ?k3 ?k4 ?k5 ?kK ?kd ?ku ?ki ?_; (case k1 => k_asm); (case k2 => k_asm); (case k3 => k_asm); (case k4 => k_asm); (case k5 => k_asm); (case kK => first | exact rfl | assumption); (case kd => ktr_room); (case ku => ktr_units); (case h0 => assumption); (case ki => exact ⟨_, _, _, _, _, by k_mem, by k_mem, fun p hp => by (repeat (first | exact hp | refine List.Mem.tail _ ?_))⟩)); (case h1 => (first | assumption | omega | ((try dsimp only); omega) | ((try dsimp only); (simp (disch := decide) only [Int.fdiv_eq_ediv_of_nonneg, Int.fmod_eq_emod_of_nonneg]); omega) | trivial | (refine ⟨?_, ?_, ?_, ?_, ?_, ?_, ?_, ?_, ?_, ?_, ?_, ?_, ?_, ?_⟩ <;> first | assumption | omega) | decide | (exact decide_eq_true (by omega)) | k_extra "pre")); intro v9 n9 h9 tk9 F9 N9 R9; (try dsimp only at R9); (obtain ⟨e9, k91, k92, k93, u91, u92, en9⟩ := R9); (subst e9; subst en9); (try dsimp only); (try k_sweep); (try k_fold))
  k_with "call ref" => (k_here; (with_reducible show wpAny _ _ (call (Value.ref 310) _) _ _ _); k_dflt (refine' spcp_use (place_c _ _ _ _ _ _ _ _ _ _ _ ?h0 ?h1 ?h2 ?h3) ?k1 ?k2 ?k3 ?k4 ?k5 ?kK ?kd ?ku ?ki ?_; (case k1 => k_asm); (case k2 => k_asm); (case k3 => k_asm); (case k4 => k_asm); (case k5 => k_asm); (case kK => first | exact rfl | assumption); (case kd => ktr_room); (case ku => ktr_units); (case h0 => assumption); (case ki => exact ⟨_, _, _, _, _, by k_mem, by k_mem, fun p hp => by (repeat (first | exact hp | refine List.Mem.tail _ ?_))⟩)); (case h1 => first | assumption | k_dflt (exact rfl)); (case h2 => (first | assumption | omega | ((try dsimp only); omega) | ((try dsimp only); (simp (disch := decide) only [Int.fdiv_eq_ediv_of_nonneg, Int.fmod_eq_emod_of_nonneg]); omega) | trivial | (refine ⟨?_, ?_, ?_, ?_, ?_, ?_, ?_, ?_, ?_, ?_, ?_, ?_, ?_, ?_⟩ <;> first | assumption | omega) | decide | (exact decide_eq_true (by omega)) | k_extra "pre")); (case h3 => (first | assumption | omega | ((try dsimp only); omega) | ((try dsimp only); (simp (disch := decide) only [Int.fdiv_eq_ediv_of_nonneg, Int.fmod_eq_emod_of_nonneg]); omega) | trivial | (refine ⟨?_, ?_, ?_, ?_, ?_, ?_, ?_, ?_, ?_, ?_, ?_, ?_, ?_, ?_⟩ <;> first | assumption | omega) | decide | (exact decide_eq_true (by omega)) | k_extra "pre")); intro v9 h9 tk9 F9 N9 R9; (try dsimp only at R9); (obtain ⟨t9, e9⟩ := R9); (subst e9); (try dsimp only); (try k_sweep); (try k_fold))
  k_with "call ref" => (k_here; (with_reducible show wpAny _ _ (call (Value.ref 322) _) _ _ _); k_dflt (refine' spc_use (skip_c _ _ _ _ _ _ _ _ _ _ _ _ _ _ _ ?h0 ?h1 ?h2 ?h3 ?h4) ?k1 ?k2 ?k3 ?k4 ?k5 ?kK ?kd ?ku ?ki ?_; (case k1 => k_asm); (case k2 => k_asm); (case k3 => k_asm); (case k4 => k_asm); (case k5 => k_asm); (case kK => first | exact rfl | assumption); (case kd => ktr_room); (case ku => ktr_units); (case h0 => assumption); (case ki => exact ⟨_, _, _, _, _, by k_mem, by k_mem, fun p hp => by (repeat (first | exact hp | refine List.Mem.tail _ ?_))⟩)); (case h1 => first | assumption | k_dflt (exact rfl)); (case h2 => first | assumption | k_dflt (exact rfl)); (case h3 => (first | assumption | omega | ((try dsimp only); omega) | ((try dsimp only); (simp (disch := decide) only [Int.fdiv_eq_ediv_of_nonneg, Int.fmod_eq_emod_of_nonneg]); omega) | trivial | (refine ⟨?_, ?_, ?_, ?_, ?_, ?_, ?_, ?_, ?_, ?_, ?_, ?_, ?_, ?_⟩ <;> first | assumption | omega) | decide | (exact decide_eq_true (by omega)) | k_extra "pre")); (case h4 => (first | assumption | omega | ((try dsimp only); omega) | ((try dsimp only); (simp (disch := decide) only [Int.fdiv_eq_ediv_of_nonneg, Int.fmod_eq_emod_of_nonneg]); omega) | trivial | (refine ⟨?_, ?_, ?_, ?_, ?_, ?_, ?_, ?_, ?_, ?_, ?_, ?_, ?_, ?_⟩ <;> first | assumption | omega) | decide | (exact decide_eq_true (by omega)) | k_extra "pre")); intro v9 n9 h9 tk9 F9 N9 R9; (try dsimp only at R9); (obtain ⟨e9, k91, k92, k93, u91, u92, en9⟩ := R9); (subst e9; subst en9); (try dsimp only); (try k_sweep); (try k_fold))
  k_with "call ref" => (k_here; (with_reducible show wpAny _ _ (call (Value.ref 329) _) _ _ _); k_dflt (refine' spc_use (number_c _ _ _ _ _ _ _ _ _ _ _ _ _ _ _ _ _ _ ?h0 ?h1 ?h2 ?h3 ?f1 ?f4 ?f5 ?f8 ?f9) ?k1 ?k2 ?k3 ?k4 ?k5 ?kK ?kd ?ku ?ki ?_; (case k1 => k_asm); (case k2 => k_asm); (case k3 => k_asm); (case k4 => k_asm); (case k5 => k_asm); (case kK => first | exact rfl | assumption); (case kd => ktr_room); (case ku => ktr_units); (case h0 => assumption); (case ki => exact ⟨_, _, _, _, _, by k_mem, by k_mem, fun p hp => by (repeat (first | exact hp | refine List.Mem.tail _ ?_))⟩)); (case h1 => first | assumption | k_dflt (exact rfl)); (case h2 => (first | assumption | omega | ((try dsimp only); omega) | ((try dsimp only); (simp (disch := decide) only [Int.fdiv_eq_ediv_of_nonneg, Int.fmod_eq_emod_of_nonneg]); omega) | trivial | (refine ⟨?_, ?_, ?_, ?_, ?_, ?_, ?_, ?_, ?_, ?_, ?_, ?_, ?_, ?_⟩ <;> first | assumption | omega) | decide | (exact decide_eq_true (by omega)) | k_extra "pre")); (case h3 => (first | assumption | omega | ((try dsimp only); omega) | ((try dsimp only); (simp (disch := decide) only [Int.fdiv_eq_ediv_of_nonneg, Int.fmod_eq_emod_of_nonneg]); omega) | trivial | (refine ⟨?_, ?_, ?_, ?_, ?_, ?_, ?_, ?_, ?_, ?_, ?_, ?_, ?_, ?_⟩ <;> first | assumption | omega) | decide | (exact decide_eq_true (by omega)) | k_extra "pre")); (case f1 => first | assumption | k_dflt (exact rfl)); (case f4 => (first | assumption | omega | ((try dsimp only); omega) | ((try dsimp only); (simp (disch := decide) only [Int.fdiv_eq_ediv_of_nonneg, Int.fmod_eq_emod_of_nonneg]); omega) | trivial | (refine ⟨?_, ?_, ?_, ?_, ?_, ?_, ?_, ?_, ?_, ?_, ?_, ?_, ?_, ?_⟩ <;> first | assumption | omega) | decide | (exact decide_eq_true (by omega)) | k_extra "pre")); (case f5 => (first | assumption | omega | ((try dsimp only); omega) | ((try dsimp only); (simp (disch := decide) only [Int.fdiv_eq_ediv_of_nonneg, Int.fmod_eq_emod_of_nonneg]); omega) | trivial | (refine ⟨?_, ?_, ?_, ?_, ?_, ?_, ?_, ?_, ?_, ?_, ?_, ?_, ?_, ?_⟩ <;> first | assumption | omega) | decide | (exact decide_eq_true (by omega)) | k_extra "pre")); (case f8 => (first | assumption | omega | ((try dsimp only); omega) | ((try dsimp only); (simp (disch := decide) only [Int.fdiv_eq_ediv_of_nonneg, Int.fmod_eq_emod_of_nonneg]); omega) | trivial | (refine ⟨?_, ?_, ?_, ?_, ?_, ?_, ?_, ?_, ?_, ?_, ?_, ?_, ?_, ?_⟩ <;> first | assumption | omega) | decide | (exact decide_eq_true (by omega)) | k_extra "pre")); (case f9 => (first | assumption | omega | ((try dsimp only); omega) | ((try dsimp only); (simp (disch := decide) only [Int.fdiv_eq_ediv_of_nonneg, Int.fmod_eq_emod_of_nonneg]); omega) | trivial | (refine ⟨?_, ?_, ?_, ?_, ?_, ?_, ?_, ?_, ?_, ?_, ?_, ?_, ?_, ?_⟩ <;> first | assumption | omega) | decide | (exact decide_eq_true (by omega)) | k_extra "pre")); intro v9 n9 h9 tk9 F9 N9 R9; (try dsimp only at R9); (obtain ⟨r9, t91, t92, k91, k92, k93, u91, u92, e9, en9⟩ := R9); (subst e9; subst en9); (try dsimp only); (try k_sweep); (try k_fold))
  k_with "eval Call Name" => (k_here; (with_reducible show wpAny _ _ (eval (Expr.Call (Expr.Name "read_clock" _) _ _ _) _) _ _ _); refine Call_ ?_)
  k_with "call ref" => (k_here; (with_reducible show wpAny _ _ (call (Value.ref 357) _) _ _ _); k_dflt (refine' spc_use (read_clock_c _ _ _ _ _ _ _ _ _ _ _ _ _ ?hi ?h0 ?f1 ?f2 ?f3) ?k1 ?k2 ?k3 ?k4 ?k5 ?kK ?kd ?ku ?ki ?_; (case k1 => k_asm); (case k2 => k_asm); (case k3 => k_asm); (case k4 => k_asm); (case k5 => k_asm); (case kK => first | exact rfl | assumption); (case kd => ktr_room); (case ku => ktr_units); (case h0 => assumption); (case ki => exact ⟨_, _, _, _, _, by k_mem, by k_mem, fun p hp => by (repeat (first | exact hp | refine List.Mem.tail _ ?_))⟩)); (case hi => (first | assumption | omega | ((try dsimp only); omega) | ((try dsimp only); (simp (disch := decide) only [Int.fdiv_eq_ediv_of_nonneg, Int.fmod_eq_emod_of_nonneg]); omega) | trivial | (refine ⟨?_, ?_, ?_, ?_, ?_, ?_, ?_, ?_, ?_, ?_, ?_, ?_, ?_, ?_⟩ <;> first | assumption | omega) | decide | (exact decide_eq_true (by omega)) | k_extra "pre")); (case f1 => (first | assumption | omega | ((try dsimp only); omega) | ((try dsimp only); (simp (disch := decide) only [Int.fdiv_eq_ediv_of_nonneg, Int.fmod_eq_emod_of_nonneg]); omega) | trivial | (refine ⟨?_, ?_, ?_, ?_, ?_, ?_, ?_, ?_, ?_, ?_, ?_, ?_, ?_, ?_⟩ <;> first | assumption | omega) | decide | (exact decide_eq_true (by omega)) | k_extra "pre")); (case f2 => (first | assumption | omega | ((try dsimp only); omega) | ((try dsimp only); (simp (disch := decide) only [Int.fdiv_eq_ediv_of_nonneg, Int.fmod_eq_emod_of_nonneg]); omega) | trivial | (refine ⟨?_, ?_, ?_, ?_, ?_, ?_, ?_, ?_, ?_, ?_, ?_, ?_, ?_, ?_⟩ <;> first | assumption | omega) | decide | (exact decide_eq_true (by omega)) | k_extra "pre")); (case f3 => (first | assumption | omega | ((try dsimp only); omega) | ((try dsimp only); (simp (disch := decide) only [Int.fdiv_eq_ediv_of_nonneg, Int.fmod_eq_emod_of_nonneg]); omega) | trivial | (refine ⟨?_, ?_, ?_, ?_, ?_, ?_, ?_, ?_, ?_, ?_, ?_, ?_, ?_, ?_⟩ <;> first | assumption | omega) | decide | (exact decide_eq_true (by omega)) | k_extra "pre")); intro v9 n9 h9 tk9 F9 N9 R9; (try dsimp only at R9); (obtain ⟨r9, t91, t92, t93, k91, k92, k93, u91, u92, e9, en9⟩ := R9); (subst e9; subst en9); (try dsimp only); (try k_sweep); (try k_fold))
  k_with "eval Call Name" => (k_here; (with_reducible show wpAny _ _ (eval (Expr.Call (Expr.Name "is_leap" _) _ _ _) _) _ _ _); refine Call_ ?_)
  k_with "call ref" => (k_here; (with_reducible show wpAny _ _ (call (Value.ref 172) _) _ _ _); k_dflt (refine' pur_use (is_leap_c _ _ _) ?k1 ?k2 ?k3 ?k4 ?k5 ?kK ?kd ?ku ?_; (case k1 => k_asm); (case k2 => k_asm); (case k3 => k_asm); (case k4 => k_asm); (case k5 => k_asm); (case kK => first | exact rfl | assumption); (case kd => ktr_room); (case ku => ktr_units)); intro v9 h9 tk9 F9 N9 R9; (try dsimp only at R9); (subst R9); (try dsimp only); (try k_sweep); (try k_fold))
  k_with "eval Call Name" => (k_here; (with_reducible show wpAny _ _ (eval (Expr.Call (Expr.Name "month_length" _) _ _ _) _) _ _ _); refine Call_ ?_)
  k_with "call ref" => (k_here; (with_reducible show wpAny _ _ (call (Value.ref 179) _) _ _ _); k_dflt (refine' pur_use (month_length_c _ _ _ _ _) ?k1 ?k2 ?k3 ?k4 ?k5 ?kK ?kd ?ku ?_; (case k1 => k_asm); (case k2 => k_asm); (case k3 => k_asm); (case k4 => k_asm); (case k5 => k_asm); (case kK => first | exact rfl | assumption); (case kd => ktr_room); (case ku => ktr_units)); intro v9 h9 tk9 F9 N9 R9; (try dsimp only at R9); (obtain ⟨t9, e9⟩ := R9); (subst e9); (try dsimp only); (try k_sweep); (try k_fold))
  k_with "eval Call Name" => (k_here; (with_reducible show wpAny _ _ (eval (Expr.Call (Expr.Name "days_before_year" _) _ _ _) _) _ _ _); refine Call_ ?_)
  k_with "call ref" => (k_here; (with_reducible show wpAny _ _ (call (Value.ref 186) _) _ _ _); k_dflt (refine' pur_use (days_before_year_c _ _ _) ?k1 ?k2 ?k3 ?k4 ?k5 ?kK ?kd ?ku ?_; (case k1 => k_asm); (case k2 => k_asm); (case k3 => k_asm); (case k4 => k_asm); (case k5 => k_asm); (case kK => first | exact rfl | assumption); (case kd => ktr_room); (case ku => ktr_units)); intro v9 h9 tk9 F9 N9 R9; (try dsimp only at R9); (obtain ⟨t9, e9⟩ := R9); (subst e9); (try dsimp only); (try k_sweep); (try k_fold))
  trivial
theorem rows_21_43 : True := by
  k_with "eval Call Name" => (k_here; (with_reducible show wpAny _ _ (eval (Expr.Call (Expr.Name "day_number" _) _ _ _) _) _ _ _); refine Call_ ?_)
  k_with "call ref" => (k_here; (with_reducible show wpAny _ _ (call (Value.ref 193) _) _ _ _); k_dflt (refine' pur_use (day_number_c _ _ _ _ _ _ _ ?h1 ?h2) ?k1 ?k2 ?k3 ?k4 ?k5 ?kK ?kd ?ku ?_; (case k1 => k_asm); (case k2 => k_asm); (case k3 => k_asm); (case k4 => k_asm); (case k5 => k_asm); (case kK => first | exact rfl | assumption); (case kd => ktr_room); (case ku => ktr_units)); (case h1 => (first | assumption | omega | ((try dsimp only); omega) | ((try dsimp only); (simp (disch := decide) only [Int.fdiv_eq_ediv_of_nonneg, Int.fmod_eq_emod_of_nonneg]); omega) | trivial | (refine ⟨?_, ?_, ?_, ?_, ?_, ?_, ?_, ?_, ?_, ?_, ?_, ?_, ?_, ?_⟩ <;> first | assumption | omega) | decide | (exact decide_eq_true (by omega)) | k_extra "pre")); (case h2 => (first | assumption | omega | ((try dsimp only); omega) | ((try dsimp only); (simp (disch := decide) only [Int.fdiv_eq_ediv_of_nonneg, Int.fmod_eq_emod_of_nonneg]); omega) | trivial | (refine ⟨?_, ?_, ?_, ?_, ?_, ?_, ?_, ?_, ?_, ?_, ?_, ?_, ?_, ?_⟩ <;> first | assumption | omega) | decide | (exact decide_eq_true (by omega)) | k_extra "pre")); intro v9 h9 tk9 F9 N9 R9; (try dsimp only at R9); (obtain ⟨t9, e9⟩ := R9); (subst e9); (try dsimp only); (try k_sweep); (try k_fold))
  trivial
theorem weekday_c (w : World) (y mo d : Int) (t u v : Tok) (h1 : 1 ≤ mo) (h2 : mo ≤ 12) : Pur w 4 (.ref 207) [.int y t, .int mo u, .int d v] (fun v => ∃ t, v = .int ((dayNum y mo d + 3) % 7) t) := by
  (try unfold Pur)
  unfold Spc
  k_fill
  intro mean mg mb dp un gd cn cs aF ccd cl outer A₀ base h₀ LF mF news sF QF EF B F X N T hk hdp hun hin hret
  refine wpAny_call ?_
  k_dflt cell_enter
  (with_reducible rename Fr _ _ _ (fun nzy => List.lookup nzy _) => F0)
  replace F0 := fr_eq (m' := fun nzy => List.lookup nzy ([(Str.ofString "day", Value.int d v), (Str.ofString "month", Value.int mo u), (Str.ofString "year", Value.int y t)] : List (Str × Value))) F0 (by kernel_rfl)
  k_steps
  all_goals (refine' hret _ _ _ _ ?e2 ?e3 (⟨rfl, ktn_int ?_⟩); (case e2 => k_asm); (case e3 => (first | k_asm | (refine' news_drop ?cbN ?cbS; (case cbN => assumption); (case cbS => kcj_all)))))
  simp only [fm _ 7]
theorem rows_21_44 : True := by
  k_with "eval Call Name" => (k_here; (with_reducible show wpAny _ _ (eval (Expr.Call (Expr.Name "weekday" _) _ _ _) _) _ _ _); refine Call_ ?_)
  k_with "call ref" => (k_here; (with_reducible show wpAny _ _ (call (Value.ref 207) _) _ _ _); k_dflt (refine' pur_use (weekday_c _ _ _ _ _ _ _ ?h1 ?h2) ?k1 ?k2 ?k3 ?k4 ?k5 ?kK ?kd ?ku ?_; (case k1 => k_asm); (case k2 => k_asm); (case k3 => k_asm); (case k4 => k_asm); (case k5 => k_asm); (case kK => first | exact rfl | assumption); (case kd => ktr_room); (case ku => ktr_units)); (case h1 => (first | assumption | omega | ((try dsimp only); omega) | ((try dsimp only); (simp (disch := decide) only [Int.fdiv_eq_ediv_of_nonneg, Int.fmod_eq_emod_of_nonneg]); omega) | trivial | (refine ⟨?_, ?_, ?_, ?_, ?_, ?_, ?_, ?_, ?_, ?_, ?_, ?_, ?_, ?_⟩ <;> first | assumption | omega) | decide | (exact decide_eq_true (by omega)) | k_extra "pre")); (case h2 => (first | assumption | omega | ((try dsimp only); omega) | ((try dsimp only); (simp (disch := decide) only [Int.fdiv_eq_ediv_of_nonneg, Int.fmod_eq_emod_of_nonneg]); omega) | trivial | (refine ⟨?_, ?_, ?_, ?_, ?_, ?_, ?_, ?_, ?_, ?_, ?_, ?_, ?_, ?_⟩ <;> first | assumption | omega) | decide | (exact decide_eq_true (by omega)) | k_extra "pre")); intro v9 h9 tk9 F9 N9 R9; (try dsimp only at R9); (obtain ⟨t9, e9⟩ := R9); (subst e9); (try dsimp only); (try k_sweep); (try k_fold))
  trivial

theorem is_time_c (w : World) (h mi s : Int) (t u v : Tok) (h1 : 0 ≤ h) (h2 : h ≤ 23) (h3 : 0 ≤ mi) (h4 : mi ≤ 59) (h5 : 0 ≤ s) (h6 : s ≤ 59) : Pur w 1 (.ref 221) [.int h t, .int mi u, .int s v] (fun v => v = .bool true) := by
  (try unfold Pur)
  unfold Spc
  k_fill
  intro mean mg mb dp un gd cn cs aF ccd cl outer A₀ base h₀ LF mF news sF QF EF B F X N T hk hdp hun hin hret
  refine wpAny_call ?_
  k_dflt cell_enter
  (with_reducible rename Fr _ _ _ (fun nzy => List.lookup nzy _) => F0)
  replace F0 := fr_eq (m' := fun nzy => List.lookup nzy ([(Str.ofString "second", Value.int s v), (Str.ofString "minute", Value.int mi u), (Str.ofString "hour", Value.int h t)] : List (Str × Value))) F0 (by kernel_rfl)
  k_steps
  all_goals (refine' hret _ _ _ _ ?e2 ?e3 (⟨rfl, ?_⟩); (case e2 => k_asm); (case e3 => (first | k_asm | (refine' news_drop ?cbN ?cbS; (case cbN => assumption); (case cbS => kcj_all)))))
  all_goals (refine congrArg Value.bool (decide_eq_true ?_); omega)
theorem rows_22_45 : True := by
  k_with "eval Call Name" => (k_here; (with_reducible show wpAny _ _ (eval (Expr.Call (Expr.Name "is_time" _) _ _ _) _) _ _ _); refine Call_ ?_)
  k_with "call ref" => (k_here; (with_reducible show wpAny _ _ (call (Value.ref 221) _) _ _ _); k_dflt (refine' pur_use (is_time_c _ _ _ _ _ _ _ ?h1 ?h2 ?h3 ?h4 ?h5 ?h6) ?k1 ?k2 ?k3 ?k4 ?k5 ?kK ?kd ?ku ?_; (case k1 => k_asm); (case k2 => k_asm); (case k3 => k_asm); (case k4 => k_asm); (case k5 => k_asm); (case kK => first | exact rfl | assumption); (case kd => ktr_room); (case ku => ktr_units)); (case h1 => (first | assumption | omega | ((try dsimp only); omega) | ((try dsimp only); (simp (disch := decide) only [Int.fdiv_eq_ediv_of_nonneg, Int.fmod_eq_emod_of_nonneg]); omega) | trivial | (refine ⟨?_, ?_, ?_, ?_, ?_, ?_, ?_, ?_, ?_, ?_, ?_, ?_, ?_, ?_⟩ <;> first | assumption | omega) | decide | (exact decide_eq_true (by omega)) | k_extra "pre")); (case h2 => (first | assumption | omega | ((try dsimp only); omega) | ((try dsimp only); (simp (disch := decide) only [Int.fdiv_eq_ediv_of_nonneg, Int.fmod_eq_emod_of_nonneg]); omega) | trivial | (refine ⟨?_, ?_, ?_, ?_, ?_, ?_, ?_, ?_, ?_, ?_, ?_, ?_, ?_, ?_⟩ <;> first | assumption | omega) | decide | (exact decide_eq_true (by omega)) | k_extra "pre")); (case h3 => (first | assumption | omega | ((try dsimp only); omega) | ((try dsimp only); (simp (disch := decide) only [Int.fdiv_eq_ediv_of_nonneg, Int.fmod_eq_emod_of_nonneg]); omega) | trivial | (refine ⟨?_, ?_, ?_, ?_, ?_, ?_, ?_, ?_, ?_, ?_, ?_, ?_, ?_, ?_⟩ <;> first | assumption | omega) | decide | (exact decide_eq_true (by omega)) | k_extra "pre")); (case h4 => (first | assumption | omega | ((try dsimp only); omega) | ((try dsimp only); (simp (disch := decide) only [Int.fdiv_eq_ediv_of_nonneg, Int.fmod_eq_emod_of_nonneg]); omega) | trivial | (refine ⟨?_, ?_, ?_, ?_, ?_, ?_, ?_, ?_, ?_, ?_, ?_, ?_, ?_, ?_⟩ <;> first | assumption | omega) | decide | (exact decide_eq_true (by omega)) | k_extra "pre")); (case h5 => (first | assumption | omega | ((try dsimp only); omega) | ((try dsimp only); (simp (disch := decide) only [Int.fdiv_eq_ediv_of_nonneg, Int.fmod_eq_emod_of_nonneg]); omega) | trivial | (refine ⟨?_, ?_, ?_, ?_, ?_, ?_, ?_, ?_, ?_, ?_, ?_, ?_, ?_, ?_⟩ <;> first | assumption | omega) | decide | (exact decide_eq_true (by omega)) | k_extra "pre")); (case h6 => (first | assumption | omega | ((try dsimp only); omega) | ((try dsimp only); (simp (disch := decide) only [Int.fdiv_eq_ediv_of_nonneg, Int.fmod_eq_emod_of_nonneg]); omega) | trivial | (refine ⟨?_, ?_, ?_, ?_, ?_, ?_, ?_, ?_, ?_, ?_, ?_, ?_, ?_, ?_⟩ <;> first | assumption | omega) | decide | (exact decide_eq_true (by omega)) | k_extra "pre")); intro v9 h9 tk9 F9 N9 R9; (try dsimp only at R9); (subst R9); (try dsimp only); (try k_sweep); (try k_fold))
  trivial
theorem is_day_c (w : World) (y m d : Int) (t u v : Tok) (h1 : 1 ≤ y) (h2 : y ≤ 9999) (h3 : 1 ≤ m) (h4 : m ≤ 12) (h5 : 1 ≤ d) (h6 : d ≤ mLen y m) : Pur w 3 (.ref 214) [.int y t, .int m u, .int d v] (fun v => v = .bool true) := by
  (try unfold Pur)
  unfold Spc
  k_fill
  intro mean mg mb dp un gd cn cs aF ccd cl outer A₀ base h₀ LF mF news sF QF EF B F X N T hk hdp hun hin hret
  refine wpAny_call ?_
  k_dflt cell_enter
  (with_reducible rename Fr _ _ _ (fun nzy => List.lookup nzy _) => F0)
  replace F0 := fr_eq (m' := fun nzy => List.lookup nzy ([(Str.ofString "day", Value.int d v), (Str.ofString "month", Value.int m u), (Str.ofString "year", Value.int y t)] : List (Str × Value))) F0 (by kernel_rfl)
  k_steps
  all_goals (refine' hret _ _ _ _ ?e2 ?e3 (⟨rfl, ?_⟩); (case e2 => k_asm); (case e3 => (first | k_asm | (refine' news_drop ?cbN ?cbS; (case cbN => assumption); (case cbS => kcj_all)))))
  all_goals (refine congrArg Value.bool (decide_eq_true ?_); omega)
theorem rows_22_46 : True := by
  k_with "eval Call Name" => (k_here; (with_reducible show wpAny _ _ (eval (Expr.Call (Expr.Name "is_day" _) _ _ _) _) _ _ _); refine Call_ ?_)
  k_with "call ref" => (k_here; (with_reducible show wpAny _ _ (call (Value.ref 214) _) _ _ _); k_dflt (refine' pur_use (is_day_c _ _ _ _ _ _ _ ?h1 ?h2 ?h3 ?h4 ?h5 ?h6) ?k1 ?k2 ?k3 ?k4 ?k5 ?kK ?kd ?ku ?_; (case k1 => k_asm); (case k2 => k_asm); (case k3 => k_asm); (case k4 => k_asm); (case k5 => k_asm); (case kK => first | exact rfl | assumption); (case kd => ktr_room); (case ku => ktr_units)); (case h1 => (first | assumption | omega | ((try dsimp only); omega) | ((try dsimp only); (simp (disch := decide) only [Int.fdiv_eq_ediv_of_nonneg, Int.fmod_eq_emod_of_nonneg]); omega) | trivial | (refine ⟨?_, ?_, ?_, ?_, ?_, ?_, ?_, ?_, ?_, ?_, ?_, ?_, ?_, ?_⟩ <;> first | assumption | omega) | decide | (exact decide_eq_true (by omega)) | k_extra "pre")); (case h2 => (first | assumption | omega | ((try dsimp only); omega) | ((try dsimp only); (simp (disch := decide) only [Int.fdiv_eq_ediv_of_nonneg, Int.fmod_eq_emod_of_nonneg]); omega) | trivial | (refine ⟨?_, ?_, ?_, ?_, ?_, ?_, ?_, ?_, ?_, ?_, ?_, ?_, ?_, ?_⟩ <;> first | assumption | omega) | decide | (exact decide_eq_true (by omega)) | k_extra "pre")); (case h3 => (first | assumption | omega | ((try dsimp only); omega) | ((try dsimp only); (simp (disch := decide) only [Int.fdiv_eq_ediv_of_nonneg, Int.fmod_eq_emod_of_nonneg]); omega) | trivial | (refine ⟨?_, ?_, ?_, ?_, ?_, ?_, ?_, ?_, ?_, ?_, ?_, ?_, ?_, ?_⟩ <;> first | assumption | omega) | decide | (exact decide_eq_true (by omega)) | k_extra "pre")); (case h4 => (first | assumption | omega | ((try dsimp only); omega) | ((try dsimp only); (simp (disch := decide) only [Int.fdiv_eq_ediv_of_nonneg, Int.fmod_eq_emod_of_nonneg]); omega) | trivial | (refine ⟨?_, ?_, ?_, ?_, ?_, ?_, ?_, ?_, ?_, ?_, ?_, ?_, ?_, ?_⟩ <;> first | assumption | omega) | decide | (exact decide_eq_true (by omega)) | k_extra "pre")); (case h5 => (first | assumption | omega | ((try dsimp only); omega) | ((try dsimp only); (simp (disch := decide) only [Int.fdiv_eq_ediv_of_nonneg, Int.fmod_eq_emod_of_nonneg]); omega) | trivial | (refine ⟨?_, ?_, ?_, ?_, ?_, ?_, ?_, ?_, ?_, ?_, ?_, ?_, ?_, ?_⟩ <;> first | assumption | omega) | decide | (exact decide_eq_true (by omega)) | k_extra "pre")); (case h6 => (first | assumption | omega | ((try dsimp only); omega) | ((try dsimp only); (simp (disch := decide) only [Int.fdiv_eq_ediv_of_nonneg, Int.fmod_eq_emod_of_nonneg]); omega) | trivial | (refine ⟨?_, ?_, ?_, ?_, ?_, ?_, ?_, ?_, ?_, ?_, ?_, ?_, ?_, ?_⟩ <;> first | assumption | omega) | decide | (exact decide_eq_true (by omega)) | k_extra "pre")); intro v9 h9 tk9 F9 N9 R9; (try dsimp only at R9); (subst R9); (try dsimp only); (try k_sweep); (try k_fold))
  trivial

theorem dby_first (n : Int) (h1 : 0 ≤ n) (h2 : n ≤ 3652058) : 1 ≤ (n * 400) / 146097 + 1 ∧ (n * 400) / 146097 + 1 ≤ 10000 := by omega
theorem dby_mono1 (y : Int) : dby y + 365 ≤ dby (y + 1) ∧ dby (y + 1) ≤ dby y + 366 := by unfold dby; omega
theorem dby_pos (y n : Int) (h : n < dby y) (hn : 0 ≤ n) : 2 ≤ y := by unfold dby at h; omega
theorem dby_le (y n : Int) (h : dby y ≤ n) (h1 : 1 ≤ y) : y ≤ n + 1 := by unfold dby at h; omega
theorem dby_top (y n : Int) (h : dby y ≤ n) (hn : n ≤ 3652058) : y ≤ 9999 := by unfold dby at h; omega
theorem mSum_one (y : Int) : mSum y 1 = 0 := rfl
theorem mSum_succ (y m : Int) (h1 : 1 ≤ m) (_h2 : m ≤ 12) : mSum y (m + 1) = mSum y m + mLen y m := by
  obtain ⟨n, rfl⟩ : ∃ n : Nat, m = 1 + n := ⟨(m - 1).toNat, by omega⟩
  unfold mSum
  rw [show (1 + (n : Int) + 1 - 1).toNat = n + 1 by omega, show (1 + (n : Int) - 1).toNat = n by omega]
  simp [rangeKs, List.range_succ]
theorem dby_leap (y : Int) (_h : 1 ≤ y) : dby (y + 1) = dby y + 365 + (if isLeap y then 1 else 0) := by
  have a4 : y / 4 = (y - 1) / 4 + (if y % 4 = 0 then 1 else 0) := by split <;> omega
  have a1 : y / 100 = (y - 1) / 100 + (if y % 100 = 0 then 1 else 0) := by split <;> omega
  have a0 : y / 400 = (y - 1) / 400 + (if y % 400 = 0 then 1 else 0) := by split <;> omega
  have c1 : y % 100 = 0 → y % 4 = 0 := by omega
  have c0 : y % 400 = 0 → y % 100 = 0 := by omega
  unfold dby isLeap
  rw [Int.add_sub_cancel, a4, a1, a0]
  generalize (y - 1) / 4 = p at *
  generalize (y - 1) / 100 = q at *
  generalize (y - 1) / 400 = r at *
  generalize y % 4 = u at *
  generalize y % 100 = v at *
  generalize y % 400 = z at *
  clear a4 a1 a0
  by_cases h4 : u = 0
  · by_cases h1 : v = 0
    · by_cases h0 : z = 0
      · simp [h4, h1, h0]; omega
      · simp [h4, h1, h0]; omega
    · have h0 : z ≠ 0 := fun e => h1 (c0 e)
      simp [h4, h1, h0]; omega
  · have h1 : v ≠ 0 := fun e => h4 (c1 e)
    have h0 : z ≠ 0 := fun e => h1 (c0 e)
    simp [h4, h1, h0]; omega
theorem mSum_year (y : Int) (h : 1 ≤ y) : mSum y 12 + mLen y 12 = dby (y + 1) - dby y := by
  rw [dby_leap y h]
  cases hl : isLeap y <;> simp [mSum, rangeKs, mLen, List.range, List.range.loop, hl] <;> omega
theorem mLen_pos (y m : Int) : 28 ≤ mLen y m ∧ mLen y m ≤ 31 := by unfold mLen; (repeat' split) <;> omega
theorem t1_start (n : Int) (h1 : -719162 ≤ n) : 1 ≤ ((n + 719162) * 400).fdiv 146097 + 1 := by rw [fd _ 146097]; omega
theorem t3_start (y n : Int) (h0 : 1 ≤ y) (h1 : dby y ≤ n + 719162) (hy : ¬ dby (y + 1) ≤ n + 719162) :
    1 ≤ y ∧ ¬ dby (y + 1) ≤ n + 719162 ∧ (1 : Int) ≤ 1 ∧ (1 : Int) ≤ 12 ∧ 0 ≤ n + 719162 - dby y ∧ (n + 719162 - dby y) + mSum y 1 = n + 719162 - dby y := by
  rw [mSum_one]; omega
theorem t3_turn (y n rest m : Int) (h0 : 1 ≤ y) (h1 : ¬ dby (y + 1) ≤ n + 719162) (h2 : 1 ≤ m) (h3 : m ≤ 12) (h4 : 0 ≤ rest) (h5 : rest + mSum y m = n + 719162 - dby y) (hl : mLen y m ≤ rest) :
    1 ≤ y ∧ ¬ dby (y + 1) ≤ n + 719162 ∧ 1 ≤ m + 1 ∧ m + 1 ≤ 12 ∧ 0 ≤ rest - mLen y m ∧ (rest - mLen y m) + mSum y (m + 1) = n + 719162 - dby y := by
  have := mSum_succ y m h2 h3
  have hy := mSum_year y h0
  have h12 : m ≠ 12 := by rintro rfl; omega
  omega
theorem t3_end (y n rest m : Int) (h5 : rest + mSum y m = n + 719162 - dby y) (hl : ¬ mLen y m ≤ rest) (h0 : 1 ≤ y) (h2 : 1 ≤ m) (h3 : m ≤ 12) (h4 : 0 ≤ rest) (hn : n ≤ 2932896) (hn0 : dby y ≤ n + 719162) :
    1 ≤ y ∧ y ≤ 9999 ∧ 1 ≤ m ∧ m ≤ 12 ∧ 1 ≤ rest + 1 ∧ rest + 1 ≤ mLen y m ∧ dayNum y m (rest + 1) = n := by
  have := dby_top y (n + 719162) hn0 (by omega)
  unfold dayNum; omega
theorem day_told_c (w : World) (n : Int) (t : Tok) (h1 : -719162 ≤ n) (h2 : n ≤ 2932896) : Spc w 3 (.ref 200) [.int n t] (fun _ => True) (fun news v news' => ∃ x y m d t1 t2 t3, v = .ref x ∧ news' = (x, { cls := .type "tuple", data := .seq #[.int y t1, .int m t2, .int d t3] }) :: news ∧ 1 ≤ y ∧ y ≤ 9999 ∧ 1 ≤ m ∧ m ≤ 12 ∧ 1 ≤ d ∧ d ≤ mLen y m ∧ dayNum y m d = n) := by
  (try unfold Pur)
  unfold Spc
  k_fill
  intro mean mg mb dp un gd cn cs aF ccd cl outer A₀ base h₀ LF mF news sF QF EF B F X N T hk hdp hun hin hret
  refine wpAny_call ?_
  k_dflt cell_enter
  (with_reducible rename Fr _ _ _ (fun nzy => List.lookup nzy _) => F0)
  replace F0 := fr_eq (m' := fun nzy => List.lookup nzy ([(Str.ofString "number", Value.int n t)] : List (Str × Value))) F0 (by kernel_rfl)
  k_with "measure" => (have := dby_le _ (n + 719162) (by assumption) (by omega); omega)
  k_with "state" => exact t1_start n h1
  k_with "state" => (have := dby_pos _ _ (by assumption) (by omega); omega)
  k_with "state" => exact t3_start _ n (by assumption) (by assumption) (by assumption)
  k_with "state" => exact t3_turn _ n _ _ (by assumption) (by assumption) (by assumption) (by assumption) (by assumption) (by assumption) (by assumption)
  k_with "exec While Compare cons nil" => k_while (fun _ year => 1 ≤ year) (fun _ year => year.toNat) "year"
  k_with "exec While Compare cons nil" => k_while (fun _ year => 1 ≤ year ∧ dby year ≤ n + 719162) (fun _ year => (n + 719164 - year).toNat) "year"
  k_with "exec While Compare cons nil" => k_while_given ["year"] (fun y _ rest month => 1 ≤ y ∧ ¬ dby (y + 1) ≤ n + 719162 ∧ 1 ≤ month ∧ month ≤ 12 ∧ 0 ≤ rest ∧ rest + mSum y month = n + 719162 - dby y) (fun y _ rest month => (13 - month).toNat) "rest" "month"
  k_steps
  refine' hret _ _ _ _ ?e2 ?e3 ⟨_, _, _, _, _, _, _, rfl, rfl, t3_end _ n _ _ (by assumption) (by assumption) (by assumption) (by assumption) (by assumption) (by assumption) h2 (by assumption)⟩
  case e2 => k_asm
  case e3 => k_asm
theorem rows_23_47 : True := by
  k_with_none
  k_with "NZ LOOK" => ((repeat (first | exact if_hit | refine if_miss (by kernel_rfl) ?_ | exact lk_hit | refine lk_miss (by kernel_rfl) ?_ | assumption)); done)
  k_with "ite" => (k_closed; first | (with_reducible refine ite_neg Bool.false_ne_true ?_) | (with_reducible refine ite_pos rfl ?_) | (with_reducible refine ite_neg (by decide +kernel) ?_) | (with_reducible refine ite_pos (by decide +kernel) ?_))
  k_with "subscriptTail" => ((with_reducible show wpAny _ _ (subscriptTail (Expr.Attribute _ _ _) _ _ _) _ _ _); walk_at "last subscriptTail")
  k_with "NZ SUB" => (intro p9 hp9; (repeat (first | exact hp9 | exact List.mem_append_left _ hp9 | (refine (‹∀ p : Addr × Obj, p ∈ _ → p ∈ _› p9 ?_); exact hp9) | refine List.Mem.tail _ ?_)))
  k_with "eval Name" => (k_here; (with_reducible rename Fr _ _ _ _ => kF); with_reducible (refine' nameX_K kF ?nzX ?nzT ?nze ?_ ?nzk ?nza ?nzb; (case nzX => assumption); (case nzT => k_asm); (case nze => k_is); (case nzk => first | exact rfl | assumption); (case nza => kernel_rfl); (case nzb => kernel_rfl); k_whole))
  k_with "eval Name" => (k_here; (with_reducible rename Fr _ _ _ _ => kF); with_reducible (refine' nameX_L kF ?nzv ?_ ?nzk ?nza ?nzb; (case nza => kernel_rfl!); (case nzv => walk_at "NZ LOOK"); (case nzk => first | exact rfl | assumption); (case nzb => kernel_rfl); k_whole))
  k_with "callWith ref" => (k_here; with_reducible (refine' cw_some ?nzx ?nzk ?_ ?nzhe ?nzhp; (case nzx => assumption); (case nzk => k_is); (case nzhe => kernel_rfl); (case nzhp => kernel_rfl); k_whole))
  k_with "callWith ref" => (k_here; with_reducible (refine' cw_none ?nzx ?nzF ?nzk ?_; (case nzx => assumption); (case nzF => assumption); (case nzk => k_is); k_whole))
  k_with "CompEnd" => (k_dflt (refine' end_same ?a1 ?a2 ?a3 ?a4 ?_; (case a1 => k_asm); (case a2 => k_asm); (case a3 => assumption); (case a4 => lcg_src)))
  k_with "NZ TUP" => (k_dflt (refine' GSrc.tup ?a1 ?a2 ?a3 ?a4 ?a5 ?_; (case a1 => rfl); (case a2 => k_asm); (case a3 => k_asm); (case a4 => first | exact Or.inr ⟨_, by k_mem, rfl, _, rfl⟩ | exact Or.inl (by assumption)); (case a5 => first | exact Nat.le_of_ble_eq_true rfl | size_fits)); intro g')
  k_with "NZ TURN" => (refine ⟨_, _, rfl, by k_asm, by (first | k_asm | (refine' news_drop ?cbN ?cbS; (case cbN => assumption); (case cbS => kcj_all))), ?_⟩)
  k_with "NZ ACOMP" => (k_here; k_dflt (refine Assign_ListComp_G (by k_asm) (by rfl) (by with_unfolding_all rfl) (by rfl) (by decide) (by rfl) (by decide) (by rfl) (by rfl) (by rfl) ?_))
  k_with "NZ ECOMP" => (k_here; k_dflt (refine ListComp_G (by k_asm) (by rfl) (by decide) (by rfl) (by decide) (by rfl) ?_))
  k_with "compareOp In int" => (k_here; (with_reducible show wpAny _ _ (compareOp CmpOp.In (Value.int _ _) (Value.bytes _ _)) _ _ _); (refine By.int_in_bytes (by omega) (by omega) ?_))
  k_with "compareOp In bytes" => (k_here; (with_reducible show wpAny _ _ (compareOp CmpOp.In (Value.bytes _ _) (Value.bytes _ _)) _ _ _); k_dflt (refine' By.bytes_in_bytes ?k1 ?k2 ?k3 ?_; (case k1 => rfl); (case k2 => k_asm); (case k3 => k_asm)); intro h9 tk9 F9 N9; (try k_sweep))
  k_with "exec Assign cons ListComp" => ((with_reducible show wpAny _ _ (exec (Stmt.Assign _ (Expr.ListComp (Expr.Call (Expr.Name "int" _) [Expr.Name "cell" _] _ _) _ _ _) _) _) _ _ _); walk_at "NZ ACOMP")
  k_with "call ref" => (k_here; (with_reducible show wpAny _ _ (call (Value.ref 407) _) _ _ _); k_dflt (refine' spcl_use (law_box_c _ _ _ _ ?h1 ?h2) ?k1 ?k2 ?k3 ?k4 ?k5 ?kK ?kd ?ku ?ki ?kL ?_; (case k1 => k_asm); (case k2 => k_asm); (case k3 => k_asm); (case k4 => k_asm); (case k5 => k_asm); (case kK => first | exact rfl | assumption); (case kd => ktr_room); (case ku => ktr_units); (case ki => exact trivial)); (case kL => with_reducible assumption); (case h1 => with_reducible assumption); (case h2 => omega); intro v9 n9 h9 tk9 F9 N9 R9; (try dsimp only at R9); (obtain ⟨p9, c9, ys9, ks9, cap9, cap29, g9, st9, t91, t92, t93, e9, en9, hy9, hk9, hg90, hg91, hs90, hs91, hcp9, hl9, ho9⟩ := R9); (subst e9; subst en9); (try simp only [AllLt, and_true] at hl9); (try simp only [LCg.Off1, and_true] at ho9); (try dsimp only); (try k_sweep); (try k_fold))
  k_with "call ref" => (k_here; (with_reducible show wpAny _ _ (call (Value.ref 414) _) _ _ _); (try walk_at "NZ SPLIT"); k_dflt (refine' draw_use ?k1 ?k2 ?k3 ?k4 ?k5 ?kK ?kd ?ku ?h1 ?h2 ?h3 ?h4 ?h5 ?h6 ?h7 ?h8 ?h9 ?h10 ?h11 ?h12 ?h13 ?_; (case k1 => k_asm); (case k2 => k_asm); (case k3 => k_asm); (case k4 => k_asm); (case k5 => k_asm); (case kK => first | exact rfl | assumption); (case kd => ktr_room); (case ku => ktr_units)); (case h1 => intro o9; k_upd); (case h2 => k_dflt k_mem); (case h3 => k_ne); (case h4 => with_reducible assumption); (case h5 => with_reducible assumption); (case h6 => with_reducible first | assumption | decide); (case h7 => with_reducible assumption); (case h8 => with_reducible assumption); (case h9 => with_reducible assumption); (case h10 => omega); (case h11 => omega); (case h12 => decide); (case h13 => decide); intro k9 t9 g9 st9 cap9 t91 t92 t93 h9 tk9 F9 N9 hk90 hk91 hg90 hg91 hs90 hs91; (try dsimp only at N9); (try dsimp only); (try k_sweep); (try k_fold))
  k_with "eval Call Name" => (k_here; (with_reducible show wpAny _ _ (eval (Expr.Call (Expr.Name "is_atom_code" _) _ _ _) _) _ _ _); refine Call_ ?_)
  k_with "call ref" => (k_here; (with_reducible show wpAny _ _ (call (Value.ref 74) _) _ _ _); k_dflt (refine' pur_use (is_atom_code_c _ _ _ ?h1) ?k1 ?k2 ?k3 ?k4 ?k5 ?kK ?kd ?ku ?_; (case k1 => k_asm); (case k2 => k_asm); (case k3 => k_asm); (case k4 => k_asm); (case k5 => k_asm); (case kK => first | exact rfl | assumption); (case kd => ktr_room); (case ku => ktr_units)); (case h1 => (first | assumption | omega | ((try dsimp only); omega) | ((try dsimp only); (simp (disch := decide) only [Int.fdiv_eq_ediv_of_nonneg, Int.fmod_eq_emod_of_nonneg]); omega) | trivial | (refine ⟨?_, ?_, ?_, ?_, ?_, ?_, ?_, ?_, ?_, ?_, ?_, ?_, ?_, ?_⟩ <;> first | assumption | omega) | decide | (exact decide_eq_true (by omega)) | k_extra "pre")); intro v9 h9 tk9 F9 N9 R9; (try dsimp only at R9); (subst R9); (try dsimp only); (try k_sweep); (try k_fold))
  k_with "eval Call Name" => (k_here; (with_reducible show wpAny _ _ (eval (Expr.Call (Expr.Name "line_end" _) _ _ _) _) _ _ _); refine Call_ ?_)
  k_with "call ref" => (k_here; (with_reducible show wpAny _ _ (call (Value.ref 81) _) _ _ _); k_dflt (refine' pur_use (line_end_c _ _ _ _ _ _ ?h1 ?h2 ?h3 ?h4 ?h5 ?h6) ?k1 ?k2 ?k3 ?k4 ?k5 ?kK ?kd ?ku ?_; (case k1 => k_asm); (case k2 => k_asm); (case k3 => k_asm); (case k4 => k_asm); (case k5 => k_asm); (case kK => first | exact rfl | assumption); (case kd => ktr_room); (case ku => ktr_units)); (case h1 => (first | assumption | omega | ((try dsimp only); omega) | ((try dsimp only); (simp (disch := decide) only [Int.fdiv_eq_ediv_of_nonneg, Int.fmod_eq_emod_of_nonneg]); omega) | trivial | (refine ⟨?_, ?_, ?_, ?_, ?_, ?_, ?_, ?_, ?_, ?_, ?_, ?_, ?_, ?_⟩ <;> first | assumption | omega) | decide | (exact decide_eq_true (by omega)) | k_extra "pre")); (case h2 => (first | assumption | omega | ((try dsimp only); omega) | ((try dsimp only); (simp (disch := decide) only [Int.fdiv_eq_ediv_of_nonneg, Int.fmod_eq_emod_of_nonneg]); omega) | trivial | (refine ⟨?_, ?_, ?_, ?_, ?_, ?_, ?_, ?_, ?_, ?_, ?_, ?_, ?_, ?_⟩ <;> first | assumption | omega) | decide | (exact decide_eq_true (by omega)) | k_extra "pre")); (case h3 => (first | assumption | omega | ((try dsimp only); omega) | ((try dsimp only); (simp (disch := decide) only [Int.fdiv_eq_ediv_of_nonneg, Int.fmod_eq_emod_of_nonneg]); omega) | trivial | (refine ⟨?_, ?_, ?_, ?_, ?_, ?_, ?_, ?_, ?_, ?_, ?_, ?_, ?_, ?_⟩ <;> first | assumption | omega) | decide | (exact decide_eq_true (by omega)) | k_extra "pre")); (case h4 => (first | assumption | omega | ((try dsimp only); omega) | ((try dsimp only); (simp (disch := decide) only [Int.fdiv_eq_ediv_of_nonneg, Int.fmod_eq_emod_of_nonneg]); omega) | trivial | (refine ⟨?_, ?_, ?_, ?_, ?_, ?_, ?_, ?_, ?_, ?_, ?_, ?_, ?_, ?_⟩ <;> first | assumption | omega) | decide | (exact decide_eq_true (by omega)) | k_extra "pre")); (case h5 => (first | assumption | omega | ((try dsimp only); omega) | ((try dsimp only); (simp (disch := decide) only [Int.fdiv_eq_ediv_of_nonneg, Int.fmod_eq_emod_of_nonneg]); omega) | trivial | (refine ⟨?_, ?_, ?_, ?_, ?_, ?_, ?_, ?_, ?_, ?_, ?_, ?_, ?_, ?_⟩ <;> first | assumption | omega) | decide | (exact decide_eq_true (by omega)) | k_extra "pre")); (case h6 => (first | assumption | omega | ((try dsimp only); omega) | ((try dsimp only); (simp (disch := decide) only [Int.fdiv_eq_ediv_of_nonneg, Int.fmod_eq_emod_of_nonneg]); omega) | trivial | (refine ⟨?_, ?_, ?_, ?_, ?_, ?_, ?_, ?_, ?_, ?_, ?_, ?_, ?_, ?_⟩ <;> first | assumption | omega) | decide | (exact decide_eq_true (by omega)) | k_extra "pre")); intro v9 h9 tk9 F9 N9 R9; (try dsimp only at R9); (obtain ⟨t9, e9⟩ := R9); (subst e9); (try dsimp only); (try k_sweep); (try k_fold))
  k_with "eval Call Name" => (k_here; (with_reducible show wpAny _ _ (eval (Expr.Call (Expr.Name "past_white" _) _ _ _) _) _ _ _); refine Call_ ?_)
  k_with "call ref" => (k_here; (with_reducible show wpAny _ _ (call (Value.ref 123) _) _ _ _); k_dflt (refine' pur_use (past_white_c _ _ _ _ _ _ _ ?h1 ?h2) ?k1 ?k2 ?k3 ?k4 ?k5 ?kK ?kd ?ku ?_; (case k1 => k_asm); (case k2 => k_asm); (case k3 => k_asm); (case k4 => k_asm); (case k5 => k_asm); (case kK => first | exact rfl | assumption); (case kd => ktr_room); (case ku => ktr_units)); (case h1 => (first | assumption | omega | ((try dsimp only); omega) | ((try dsimp only); (simp (disch := decide) only [Int.fdiv_eq_ediv_of_nonneg, Int.fmod_eq_emod_of_nonneg]); omega) | trivial | (refine ⟨?_, ?_, ?_, ?_, ?_, ?_, ?_, ?_, ?_, ?_, ?_, ?_, ?_, ?_⟩ <;> first | assumption | omega) | decide | (exact decide_eq_true (by omega)) | k_extra "pre")); (case h2 => (first | assumption | omega | ((try dsimp only); omega) | ((try dsimp only); (simp (disch := decide) only [Int.fdiv_eq_ediv_of_nonneg, Int.fmod_eq_emod_of_nonneg]); omega) | trivial | (refine ⟨?_, ?_, ?_, ?_, ?_, ?_, ?_, ?_, ?_, ?_, ?_, ?_, ?_, ?_⟩ <;> first | assumption | omega) | decide | (exact decide_eq_true (by omega)) | k_extra "pre")); intro v9 h9 tk9 F9 N9 R9; (try dsimp only at R9); (obtain ⟨t9, e9⟩ := R9); (subst e9); (try dsimp only); (try k_sweep); (try k_fold))
  k_with "eval Call Name" => (k_here; (with_reducible show wpAny _ _ (eval (Expr.Call (Expr.Name "atom_at" _) _ _ _) _) _ _ _); refine Call_ ?_)
  k_with "call ref" => (k_here; (with_reducible show wpAny _ _ (call (Value.ref 109) _) _ _ _); k_dflt (refine' spc_use (atom_at_c _ _ _ _ _ _ _ ?h1 ?h2) ?k1 ?k2 ?k3 ?k4 ?k5 ?kK ?kd ?ku ?ki ?_; (case k1 => k_asm); (case k2 => k_asm); (case k3 => k_asm); (case k4 => k_asm); (case k5 => k_asm); (case kK => first | exact rfl | assumption); (case kd => ktr_room); (case ku => ktr_units); (case ki => exact trivial)); (case h1 => (first | assumption | omega | ((try dsimp only); omega) | ((try dsimp only); (simp (disch := decide) only [Int.fdiv_eq_ediv_of_nonneg, Int.fmod_eq_emod_of_nonneg]); omega) | trivial | (refine ⟨?_, ?_, ?_, ?_, ?_, ?_, ?_, ?_, ?_, ?_, ?_, ?_, ?_, ?_⟩ <;> first | assumption | omega) | decide | (exact decide_eq_true (by omega)) | k_extra "pre")); (case h2 => (first | assumption | omega | ((try dsimp only); omega) | ((try dsimp only); (simp (disch := decide) only [Int.fdiv_eq_ediv_of_nonneg, Int.fmod_eq_emod_of_nonneg]); omega) | trivial | (refine ⟨?_, ?_, ?_, ?_, ?_, ?_, ?_, ?_, ?_, ?_, ?_, ?_, ?_, ?_⟩ <;> first | assumption | omega) | decide | (exact decide_eq_true (by omega)) | k_extra "pre")); intro v9 n9 h9 tk9 F9 N9 R9; (try dsimp only at R9); (obtain ⟨x9, t91, t92, e9, en9, hl9⟩ := R9); (subst e9; subst en9; (try simp only [AllLt, and_true] at hl9)); (try dsimp only); (try k_sweep); (try k_fold))
  k_with "eval Call Name" => (k_here; (with_reducible show wpAny _ _ (eval (Expr.Call (Expr.Name "token_at" _) _ _ _) _) _ _ _); refine Call_ ?_)
  k_with "call ref" => (k_here; (with_reducible show wpAny _ _ (call (Value.ref 116) _) _ _ _); k_dflt (refine' spc_use (token_a_c _ _ _ _ _ _ _ ?h1 ?h2) ?k1 ?k2 ?k3 ?k4 ?k5 ?kK ?kd ?ku ?ki ?_; (case k1 => k_asm); (case k2 => k_asm); (case k3 => k_asm); (case k4 => k_asm); (case k5 => k_asm); (case kK => first | exact rfl | assumption); (case kd => ktr_room); (case ku => ktr_units); (case ki => exact trivial)); (case h1 => (first | assumption | omega | ((try dsimp only); omega) | ((try dsimp only); (simp (disch := decide) only [Int.fdiv_eq_ediv_of_nonneg, Int.fmod_eq_emod_of_nonneg]); omega) | trivial | (refine ⟨?_, ?_, ?_, ?_, ?_, ?_, ?_, ?_, ?_, ?_, ?_, ?_, ?_, ?_⟩ <;> first | assumption | omega) | decide | (exact decide_eq_true (by omega)) | k_extra "pre")); (case h2 => (first | assumption | omega | ((try dsimp only); omega) | ((try dsimp only); (simp (disch := decide) only [Int.fdiv_eq_ediv_of_nonneg, Int.fmod_eq_emod_of_nonneg]); omega) | trivial | (refine ⟨?_, ?_, ?_, ?_, ?_, ?_, ?_, ?_, ?_, ?_, ?_, ?_, ?_, ?_⟩ <;> first | assumption | omega) | decide | (exact decide_eq_true (by omega)) | k_extra "pre")); intro v9 n9 h9 tk9 F9 N9 R9; (try dsimp only at R9); (obtain ⟨x9, y9, t91, t92, t93, t94, e9, en9, hl9, hm9⟩ := R9); (subst e9; subst en9; (try simp only [AllLt, and_true] at hl9); (replace hm9 := ltN hm9)); (try dsimp only); (try k_sweep); (try k_fold))
  k_with "eval Call Name" => (k_here; (with_reducible show wpAny _ _ (eval (Expr.Call (Expr.Name "token_at" _) _ _ _) _) _ _ _); refine Call_ ?_)
  k_with "call ref" => (k_here; (with_reducible show wpAny _ _ (call (Value.ref 116) _) _ _ _); k_dflt (refine' spc_use (token_s_c _ _ _ _ _ _ _ _ ?h1 ?h2) ?k1 ?k2 ?k3 ?k4 ?k5 ?kK ?kd ?ku ?ki ?_; (case k1 => k_asm); (case k2 => k_asm); (case k3 => k_asm); (case k4 => k_asm); (case k5 => k_asm); (case kK => first | exact rfl | assumption); (case kd => ktr_room); (case ku => ktr_units); (case ki => exact trivial)); (case h1 => (first | assumption | omega | ((try dsimp only); omega) | ((try dsimp only); (simp (disch := decide) only [Int.fdiv_eq_ediv_of_nonneg, Int.fmod_eq_emod_of_nonneg]); omega) | trivial | (refine ⟨?_, ?_, ?_, ?_, ?_, ?_, ?_, ?_, ?_, ?_, ?_, ?_, ?_, ?_⟩ <;> first | assumption | omega) | decide | (exact decide_eq_true (by omega)) | k_extra "pre")); (case h2 => (first | assumption | omega | ((try dsimp only); omega) | ((try dsimp only); (simp (disch := decide) only [Int.fdiv_eq_ediv_of_nonneg, Int.fmod_eq_emod_of_nonneg]); omega) | trivial | (refine ⟨?_, ?_, ?_, ?_, ?_, ?_, ?_, ?_, ?_, ?_, ?_, ?_, ?_, ?_⟩ <;> first | assumption | omega) | decide | (exact decide_eq_true (by omega)) | k_extra "pre")); intro v9 n9 h9 tk9 F9 N9 R9; (try dsimp only at R9); (obtain ⟨x9, y9, t91, t92, t93, t94, e9, en9, hl9, hm9⟩ := R9); (subst e9; subst en9; (try simp only [AllLt, and_true] at hl9); (replace hm9 := ltN hm9)); (try dsimp only); (try k_sweep); (try k_fold))
  k_with "eval Call Name" => (k_here; (with_reducible show wpAny _ _ (eval (Expr.Call (Expr.Name "token_at" _) _ _ _) _) _ _ _); refine Call_ ?_)
  k_with "call ref" => (k_here; (with_reducible show wpAny _ _ (call (Value.ref 116) _) _ _ _); k_dflt (refine' spc_use (token_c _ _ _ _ _ _ _ ?h1 ?h2 ?h3) ?k1 ?k2 ?k3 ?k4 ?k5 ?kK ?kd ?ku ?ki ?_; (case k1 => k_asm); (case k2 => k_asm); (case k3 => k_asm); (case k4 => k_asm); (case k5 => k_asm); (case kK => first | exact rfl | assumption); (case kd => ktr_room); (case ku => ktr_units); (case ki => exact trivial)); (case h1 => (first | assumption | omega | ((try dsimp only); omega) | ((try dsimp only); (simp (disch := decide) only [Int.fdiv_eq_ediv_of_nonneg, Int.fmod_eq_emod_of_nonneg]); omega) | trivial | (refine ⟨?_, ?_, ?_, ?_, ?_, ?_, ?_, ?_, ?_, ?_, ?_, ?_, ?_, ?_⟩ <;> first | assumption | omega) | decide | (exact decide_eq_true (by omega)) | k_extra "pre")); (case h2 => (first | assumption | omega | ((try dsimp only); omega) | ((try dsimp only); (simp (disch := decide) only [Int.fdiv_eq_ediv_of_nonneg, Int.fmod_eq_emod_of_nonneg]); omega) | trivial | (refine ⟨?_, ?_, ?_, ?_, ?_, ?_, ?_, ?_, ?_, ?_, ?_, ?_, ?_, ?_⟩ <;> first | assumption | omega) | decide | (exact decide_eq_true (by omega)) | k_extra "pre")); (case h3 => (first | assumption | omega | ((try dsimp only); omega) | ((try dsimp only); (simp (disch := decide) only [Int.fdiv_eq_ediv_of_nonneg, Int.fmod_eq_emod_of_nonneg]); omega) | trivial | (refine ⟨?_, ?_, ?_, ?_, ?_, ?_, ?_, ?_, ?_, ?_, ?_, ?_, ?_, ?_⟩ <;> first | assumption | omega) | decide | (exact decide_eq_true (by omega)) | k_extra "pre")); intro v9 n9 h9 tk9 F9 N9 R9; (try dsimp only at R9); (obtain ⟨x9, y9, t91, t92, t93, t94, e9, en9, hl9, hm9⟩ := R9); (subst e9; subst en9; (try simp only [AllLt, and_true] at hl9); (replace hm9 := ltN hm9)); (try dsimp only); (try k_sweep); (try k_fold))
  k_with "eval Call Name" => (k_here; (with_reducible show wpAny _ _ (eval (Expr.Call (Expr.Name "tokens_of" _) _ _ _) _) _ _ _); refine Call_ ?_)
  k_with "call ref" => (k_here; (with_reducible show wpAny _ _ (call (Value.ref 130) _) _ _ _); k_dflt (refine' spc_use (tokens_of_c _ _ _ _ _ ?h1 ?h2) ?k1 ?k2 ?k3 ?k4 ?k5 ?kK ?kd ?ku ?ki ?_; (case k1 => k_asm); (case k2 => k_asm); (case k3 => k_asm); (case k4 => k_asm); (case k5 => k_asm); (case kK => first | exact rfl | assumption); (case kd => ktr_room); (case ku => ktr_units); (case ki => exact trivial)); (case h1 => (first | assumption | omega | ((try dsimp only); omega) | ((try dsimp only); (simp (disch := decide) only [Int.fdiv_eq_ediv_of_nonneg, Int.fmod_eq_emod_of_nonneg]); omega) | trivial | (refine ⟨?_, ?_, ?_, ?_, ?_, ?_, ?_, ?_, ?_, ?_, ?_, ?_, ?_, ?_⟩ <;> first | assumption | omega) | decide | (exact decide_eq_true (by omega)) | k_extra "pre")); (case h2 => (first | assumption | omega | ((try dsimp only); omega) | ((try dsimp only); (simp (disch := decide) only [Int.fdiv_eq_ediv_of_nonneg, Int.fmod_eq_emod_of_nonneg]); omega) | trivial | (refine ⟨?_, ?_, ?_, ?_, ?_, ?_, ?_, ?_, ?_, ?_, ?_, ?_, ?_, ?_⟩ <;> first | assumption | omega) | decide | (exact decide_eq_true (by omega)) | k_extra "pre")); intro v9 n9 h9 tk9 F9 N9 R9; (try dsimp only at R9); (obtain ⟨f9, vs9, cap9, made9, e9, en9, hT9, hsub9, hne9⟩ := R9); (subst e9; subst en9); (try dsimp only); (try k_sweep); (try k_fold))
  k_with "eval Call Name" => (k_here; (with_reducible show wpAny _ _ (eval (Expr.Call (Expr.Name "lower_code" _) _ _ _) _) _ _ _); refine Call_ ?_)
  k_with "call ref" => (k_here; (with_reducible show wpAny _ _ (call (Value.ref 61) _) _ _ _); k_dflt (refine' pur_use (lower_code_c _ _ _) ?k1 ?k2 ?k3 ?k4 ?k5 ?kK ?kd ?ku ?_; (case k1 => k_asm); (case k2 => k_asm); (case k3 => k_asm); (case k4 => k_asm); (case k5 => k_asm); (case kK => first | exact rfl | assumption); (case kd => ktr_room); (case ku => ktr_units)); intro v9 h9 tk9 F9 N9 R9; (try dsimp only at R9); (obtain ⟨t9, e9⟩ := R9); (subst e9); (try dsimp only); (try k_sweep); (try k_fold))
  k_with "eval ListComp" => ((with_reducible show wpAny _ _ (eval (Expr.ListComp (Expr.Call (Expr.Name "chr" _) [Expr.Call (Expr.Name "lower_code" _) _ _ _] _ _) _ _ _) _) _ _ _); walk_at "NZ ECOMP")
  k_with "eval Call Name" => (k_here; (with_reducible show wpAny _ _ (eval (Expr.Call (Expr.Name "lower_text" _) _ _ _) _) _ _ _); refine Call_ ?_)
  k_with "call ref" => (k_here; (with_reducible show wpAny _ _ (call (Value.ref 66) _) _ _ _); k_dflt (refine' pur_use (lower_text_c _ _ _ ?h1 ?h2) ?k1 ?k2 ?k3 ?k4 ?k5 ?kK ?kd ?ku ?_; (case k1 => k_asm); (case k2 => k_asm); (case k3 => k_asm); (case k4 => k_asm); (case k5 => k_asm); (case kK => first | exact rfl | assumption); (case kd => ktr_room); (case ku => ktr_units)); (case h1 => (first | assumption | omega | ((try dsimp only); omega) | ((try dsimp only); (simp (disch := decide) only [Int.fdiv_eq_ediv_of_nonneg, Int.fmod_eq_emod_of_nonneg]); omega) | trivial | (refine ⟨?_, ?_, ?_, ?_, ?_, ?_, ?_, ?_, ?_, ?_, ?_, ?_, ?_, ?_⟩ <;> first | assumption | omega) | decide | (exact decide_eq_true (by omega)) | k_extra "pre")); (case h2 => (first | assumption | omega | ((try dsimp only); omega) | ((try dsimp only); (simp (disch := decide) only [Int.fdiv_eq_ediv_of_nonneg, Int.fmod_eq_emod_of_nonneg]); omega) | trivial | (refine ⟨?_, ?_, ?_, ?_, ?_, ?_, ?_, ?_, ?_, ?_, ?_, ?_, ?_, ?_⟩ <;> first | assumption | omega) | decide | (exact decide_eq_true (by omega)) | k_extra "pre")); intro v9 h9 tk9 F9 N9 R9; (try dsimp only at R9); (obtain ⟨t9, e9, hl9⟩ := R9); (subst e9); (try dsimp only); (try k_sweep); (try k_fold))
  k_with "eval Call Name" => (k_here; (with_reducible show wpAny _ _ (eval (Expr.Call (Expr.Name "without_comments" _) _ _ _) _) _ _ _); refine Call_ ?_)
  k_with "call ref" => (k_here; (with_reducible show wpAny _ _ (call (Value.ref 135) _) _ _ _); k_dflt (refine' spc_use (without_comments_c _ _ _ _ _ _) ?k1 ?k2 ?k3 ?k4 ?k5 ?kK ?kd ?ku ?ki ?_; (case k1 => k_asm); (case k2 => k_asm); (case k3 => k_asm); (case k4 => k_asm); (case k5 => k_asm); (case kK => first | exact rfl | assumption); (case kd => ktr_room); (case ku => ktr_units); (case ki => exact ⟨by k_mem, TkIn.mono (by assumption) (by walk_at "NZ SUB")⟩)); intro v9 n9 h9 tk9 F9 N9 R9; (try dsimp only at R9); (obtain ⟨d9, e9, en9, hd9⟩ := R9); (subst e9; subst en9); (try dsimp only); (try k_sweep); (try k_fold))
  k_with "eval Call Name" => (k_here; (with_reducible show wpAny _ _ (eval (Expr.Call (Expr.Name "DateReader" _) _ _ _) _) _ _ _); refine Call_ ?_)
  k_with "call ref" => (k_here; (with_reducible show wpAny _ _ (call (Value.ref 339) _) _ _ _); k_dflt (refine' spc_use (reader_c _ _ _ _ _ ?h1 ?h2) ?k1 ?k2 ?k3 ?k4 ?k5 ?kK ?kd ?ku ?ki ?_; (case k1 => k_asm); (case k2 => k_asm); (case k3 => k_asm); (case k4 => k_asm); (case k5 => k_asm); (case kK => first | exact rfl | assumption); (case kd => ktr_room); (case ku => ktr_units); (case ki => exact trivial)); (case h1 => (first | assumption | omega | ((try dsimp only); omega) | ((try dsimp only); (simp (disch := decide) only [Int.fdiv_eq_ediv_of_nonneg, Int.fmod_eq_emod_of_nonneg]); omega) | trivial | (refine ⟨?_, ?_, ?_, ?_, ?_, ?_, ?_, ?_, ?_, ?_, ?_, ?_, ?_, ?_⟩ <;> first | assumption | omega) | decide | (exact decide_eq_true (by omega)) | k_extra "pre")); (case h2 => (first | assumption | omega | ((try dsimp only); omega) | ((try dsimp only); (simp (disch := decide) only [Int.fdiv_eq_ediv_of_nonneg, Int.fmod_eq_emod_of_nonneg]); omega) | trivial | (refine ⟨?_, ?_, ?_, ?_, ?_, ?_, ?_, ?_, ?_, ?_, ?_, ?_, ?_, ?_⟩ <;> first | assumption | omega) | decide | (exact decide_eq_true (by omega)) | k_extra "pre")); intro v9 n9 h9 tk9 F9 N9 R9; (try dsimp only at R9); (obtain ⟨rx9, dx9, dl9, vs9, rest9, k91, k92, k93, u91, u92, e9, en9, hsub9, hR9⟩ := R9); (subst e9; subst en9; (have hx9 := ltN hR9.lt); (have hne9 := hR9.ne); (have gl9 := hR9.gl); (have hz9 := hR9.size)); (try dsimp only); (try k_sweep); (try k_fold))
  k_with "eval Call Name" => (k_here; (with_reducible show wpAny _ _ (eval (Expr.Call (Expr.Name "is_figures" _) _ _ _) _) _ _ _); refine Call_ ?_)
  k_with "call ref" => (k_here; (with_reducible show wpAny _ _ (call (Value.ref 277) _) _ _ _); k_dflt (refine' pur_use (is_figures_c _ _ _ ?h1 ?h2 ?h3) ?k1 ?k2 ?k3 ?k4 ?k5 ?kK ?kd ?ku ?_; (case k1 => k_asm); (case k2 => k_asm); (case k3 => k_asm); (case k4 => k_asm); (case k5 => k_asm); (case kK => first | exact rfl | assumption); (case kd => ktr_room); (case ku => ktr_units)); (case h1 => (first | assumption | omega | ((try dsimp only); omega) | ((try dsimp only); (simp (disch := decide) only [Int.fdiv_eq_ediv_of_nonneg, Int.fmod_eq_emod_of_nonneg]); omega) | trivial | (refine ⟨?_, ?_, ?_, ?_, ?_, ?_, ?_, ?_, ?_, ?_, ?_, ?_, ?_, ?_⟩ <;> first | assumption | omega) | decide | (exact decide_eq_true (by omega)) | k_extra "pre")); (case h2 => (first | assumption | omega | ((try dsimp only); omega) | ((try dsimp only); (simp (disch := decide) only [Int.fdiv_eq_ediv_of_nonneg, Int.fmod_eq_emod_of_nonneg]); omega) | trivial | (refine ⟨?_, ?_, ?_, ?_, ?_, ?_, ?_, ?_, ?_, ?_, ?_, ?_, ?_, ?_⟩ <;> first | assumption | omega) | decide | (exact decide_eq_true (by omega)) | k_extra "pre")); (case h3 => (first | assumption | omega | ((try dsimp only); omega) | ((try dsimp only); (simp (disch := decide) only [Int.fdiv_eq_ediv_of_nonneg, Int.fmod_eq_emod_of_nonneg]); omega) | trivial | (refine ⟨?_, ?_, ?_, ?_, ?_, ?_, ?_, ?_, ?_, ?_, ?_, ?_, ?_, ?_⟩ <;> first | assumption | omega) | decide | (exact decide_eq_true (by omega)) | k_extra "pre")); intro v9 h9 tk9 F9 N9 R9; (try dsimp only at R9); (subst R9); (try dsimp only); (try k_sweep); (try k_fold))
  k_with "eval ListComp" => ((with_reducible show wpAny _ _ (eval (Expr.ListComp (Expr.Call (Expr.Name "chr" _) [Expr.Name "code" _] _ _) _ _ _) _) _ _ _); walk_at "NZ ECOMP")
  k_with "call ref" => (k_here; (with_reducible show wpAny _ _ (call (Value.ref 315) _) _ _ _); k_dflt (refine' spcp_use (atom_c _ _ _ _ _ _ _ _ _ _ _ _ ?h0 ?h1 ?h2 ?h3 ?h4 ?h5) ?k1 ?k2 ?k3 ?k4 ?k5 ?kK ?kd ?ku ?ki ?_; (case k1 => k_asm); (case k2 => k_asm); (case k3 => k_asm); (case k4 => k_asm); (case k5 => k_asm); (case kK => first | exact rfl | assumption); (case kd => ktr_room); (case ku => ktr_units); (case h0 => assumption); (case ki => exact ⟨_, _, _, _, _, by k_mem, by k_mem, fun p hp => by (repeat (first | exact hp | refine List.Mem.tail _ ?_))⟩)); (case h1 => first | assumption | k_dflt (exact rfl)); (case h2 => (first | assumption | omega | ((try dsimp only); omega) | ((try dsimp only); (simp (disch := decide) only [Int.fdiv_eq_ediv_of_nonneg, Int.fmod_eq_emod_of_nonneg]); omega) | trivial | (refine ⟨?_, ?_, ?_, ?_, ?_, ?_, ?_, ?_, ?_, ?_, ?_, ?_, ?_, ?_⟩ <;> first | assumption | omega) | decide | (exact decide_eq_true (by omega)) | k_extra "pre")); (case h3 => (first | assumption | omega | ((try dsimp only); omega) | ((try dsimp only); (simp (disch := decide) only [Int.fdiv_eq_ediv_of_nonneg, Int.fmod_eq_emod_of_nonneg]); omega) | trivial | (refine ⟨?_, ?_, ?_, ?_, ?_, ?_, ?_, ?_, ?_, ?_, ?_, ?_, ?_, ?_⟩ <;> first | assumption | omega) | decide | (exact decide_eq_true (by omega)) | k_extra "pre")); (case h4 => (first | assumption | omega | ((try dsimp only); omega) | ((try dsimp only); (simp (disch := decide) only [Int.fdiv_eq_ediv_of_nonneg, Int.fmod_eq_emod_of_nonneg]); omega) | trivial | (refine ⟨?_, ?_, ?_, ?_, ?_, ?_, ?_, ?_, ?_, ?_, ?_, ?_, ?_, ?_⟩ <;> first | assumption | omega) | decide | (exact decide_eq_true (by omega)) | k_extra "pre")); (case h5 => (first | assumption | omega | ((try dsimp only); omega) | ((try dsimp only); (simp (disch := decide) only [Int.fdiv_eq_ediv_of_nonneg, Int.fmod_eq_emod_of_nonneg]); omega) | trivial | (refine ⟨?_, ?_, ?_, ?_, ?_, ?_, ?_, ?_, ?_, ?_, ?_, ?_, ?_, ?_⟩ <;> first | assumption | omega) | decide | (exact decide_eq_true (by omega)) | k_extra "pre")); intro v9 h9 tk9 F9 N9 R9; (try dsimp only at R9); (obtain ⟨t9, e9⟩ := R9); (subst e9); (try dsimp only); (try k_sweep); (try k_fold))
  k_with "subscriptTail" => (k_here; (with_reducible show wpAny _ _ (subscriptTail _ (PySem.Expr.Slice none _ none _) (Value.ref _) (Value.ref _)) _ _ _); k_dflt (refine' slice_to2 ?F ?N ?t ?_ ?s ?g; (case F => k_asm); (case N => k_asm); (case t => exact News.isTup (by k_asm) (by k_mem)); (case s => with_unfolding_all rfl); (case g => kmk_pure)); intro D' h' F' N' l1; (try k_lt l1); (try k_sweep))
  k_with "compareOp NotEq ref ref" => (k_here; k_dflt (refine' ne_sb ?N ?a ?b ?u ?_; (case N => k_asm); (case a => k_mem); (case b => k_mem); (case u => ktr_units)))
  k_with "call ref" => (k_here; (with_reducible show wpAny _ _ (call (Value.ref 336) _) _ _ _); k_dflt (refine' spc_use (need_c _ _ _ _ _ _ _ _ _ _ _ _ _ ?h0 ?h1) ?k1 ?k2 ?k3 ?k4 ?k5 ?kK ?kd ?ku ?ki ?_; (case k1 => k_asm); (case k2 => k_asm); (case k3 => k_asm); (case k4 => k_asm); (case k5 => k_asm); (case kK => first | exact rfl | assumption); (case kd => ktr_room); (case ku => ktr_units); (case h0 => assumption); (case ki => exact ⟨_, _, _, _, _, by k_mem, by k_mem, fun p hp => by (repeat (first | exact hp | refine List.Mem.tail _ ?_))⟩)); (case h1 => (first | assumption | omega | ((try dsimp only); omega) | ((try dsimp only); (simp (disch := decide) only [Int.fdiv_eq_ediv_of_nonneg, Int.fmod_eq_emod_of_nonneg]); omega) | trivial | (refine ⟨?_, ?_, ?_, ?_, ?_, ?_, ?_, ?_, ?_, ?_, ?_, ?_, ?_, ?_⟩ <;> first | assumption | omega) | decide | (exact decide_eq_true (by omega)) | k_extra "pre")); intro v9 n9 h9 tk9 F9 N9 R9; (try dsimp only at R9); (obtain ⟨e9, k91, k92, k93, u91, u92, en9⟩ := R9); (subst e9; subst en9); (try dsimp only); (try k_sweep); (try k_fold))
  k_with "call ref" => (k_here; (with_reducible show wpAny _ _ (call (Value.ref 310) _) _ _ _); k_dflt (refine' spcp_use (place_c _ _ _ _ _ _ _ _ _ _ _ ?h0 ?h1 ?h2 ?h3) ?k1 ?k2 ?k3 ?k4 ?k5 ?kK ?kd ?ku ?ki ?_; (case k1 => k_asm); (case k2 => k_asm); (case k3 => k_asm); (case k4 => k_asm); (case k5 => k_asm); (case kK => first | exact rfl | assumption); (case kd => ktr_room); (case ku => ktr_units); (case h0 => assumption); (case ki => exact ⟨_, _, _, _, _, by k_mem, by k_mem, fun p hp => by (repeat (first | exact hp | refine List.Mem.tail _ ?_))⟩)); (case h1 => first | assumption | k_dflt (exact rfl)); (case h2 => (first | assumption | omega | ((try dsimp only); omega) | ((try dsimp only); (simp (disch := decide) only [Int.fdiv_eq_ediv_of_nonneg, Int.fmod_eq_emod_of_nonneg]); omega) | trivial | (refine ⟨?_, ?_, ?_, ?_, ?_, ?_, ?_, ?_, ?_, ?_, ?_, ?_, ?_, ?_⟩ <;> first | assumption | omega) | decide | (exact decide_eq_true (by omega)) | k_extra "pre")); (case h3 => (first | assumption | omega | ((try dsimp only); omega) | ((try dsimp only); (simp (disch := decide) only [Int.fdiv_eq_ediv_of_nonneg, Int.fmod_eq_emod_of_nonneg]); omega) | trivial | (refine ⟨?_, ?_, ?_, ?_, ?_, ?_, ?_, ?_, ?_, ?_, ?_, ?_, ?_, ?_⟩ <;> first | assumption | omega) | decide | (exact decide_eq_true (by omega)) | k_extra "pre")); intro v9 h9 tk9 F9 N9 R9; (try dsimp only at R9); (obtain ⟨t9, e9⟩ := R9); (subst e9); (try dsimp only); (try k_sweep); (try k_fold))
  k_with "call ref" => (k_here; (with_reducible show wpAny _ _ (call (Value.ref 322) _) _ _ _); k_dflt (refine' spc_use (skip_c _ _ _ _ _ _ _ _ _ _ _ _ _ _ _ ?h0 ?h1 ?h2 ?h3 ?h4) ?k1 ?k2 ?k3 ?k4 ?k5 ?kK ?kd ?ku ?ki ?_; (case k1 => k_asm); (case k2 => k_asm); (case k3 => k_asm); (case k4 => k_asm); (case k5 => k_asm); (case kK => first | exact rfl | assumption); (case kd => ktr_room); (case ku => ktr_units); (case h0 => assumption); (case ki => exact ⟨_, _, _, _, _, by k_mem, by k_mem, fun p hp => by (repeat (first | exact hp | refine List.Mem.tail _ ?_))⟩)); (case h1 => first | assumption | k_dflt (exact rfl)); (case h2 => first | assumption | k_dflt (exact rfl)); (case h3 => (first | assumption | omega | ((try dsimp only); omega) | ((try dsimp only); (simp (disch := decide) only [Int.fdiv_eq_ediv_of_nonneg, Int.fmod_eq_emod_of_nonneg]); omega) | trivial | (refine ⟨?_, ?_, ?_, ?_, ?_, ?_, ?_, ?_, ?_, ?_, ?_, ?_, ?_, ?_⟩ <;> first | assumption | omega) | decide | (exact decide_eq_true (by omega)) | k_extra "pre")); (case h4 => (first | assumption | omega | ((try dsimp only); omega) | ((try dsimp only); (simp (disch := decide) only [Int.fdiv_eq_ediv_of_nonneg, Int.fmod_eq_emod_of_nonneg]); omega) | trivial | (refine ⟨?_, ?_, ?_, ?_, ?_, ?_, ?_, ?_, ?_, ?_, ?_, ?_, ?_, ?_⟩ <;> first | assumption | omega) | decide | (exact decide_eq_true (by omega)) | k_extra "pre")); intro v9 n9 h9 tk9 F9 N9 R9; (try dsimp only at R9); (obtain ⟨e9, k91, k92, k93, u91, u92, en9⟩ := R9); (subst e9; subst en9); (try dsimp only); (try k_sweep); (try k_fold))
  k_with "call ref" => (k_here; (with_reducible show wpAny _ _ (call (Value.ref 329) _) _ _ _); k_dflt (refine' spc_use (number_c _ _ _ _ _ _ _ _ _ _ _ _ _ _ _ _ _ _ ?h0 ?h1 ?h2 ?h3 ?f1 ?f4 ?f5 ?f8 ?f9) ?k1 ?k2 ?k3 ?k4 ?k5 ?kK ?kd ?ku ?ki ?_; (case k1 => k_asm); (case k2 => k_asm); (case k3 => k_asm); (case k4 => k_asm); (case k5 => k_asm); (case kK => first | exact rfl | assumption); (case kd => ktr_room); (case ku => ktr_units); (case h0 => assumption); (case ki => exact ⟨_, _, _, _, _, by k_mem, by k_mem, fun p hp => by (repeat (first | exact hp | refine List.Mem.tail _ ?_))⟩)); (case h1 => first | assumption | k_dflt (exact rfl)); (case h2 => (first | assumption | omega | ((try dsimp only); omega) | ((try dsimp only); (simp (disch := decide) only [Int.fdiv_eq_ediv_of_nonneg, Int.fmod_eq_emod_of_nonneg]); omega) | trivial | (refine ⟨?_, ?_, ?_, ?_, ?_, ?_, ?_, ?_, ?_, ?_, ?_, ?_, ?_, ?_⟩ <;> first | assumption | omega) | decide | (exact decide_eq_true (by omega)) | k_extra "pre")); (case h3 => (first | assumption | omega | ((try dsimp only); omega) | ((try dsimp only); (simp (disch := decide) only [Int.fdiv_eq_ediv_of_nonneg, Int.fmod_eq_emod_of_nonneg]); omega) | trivial | (refine ⟨?_, ?_, ?_, ?_, ?_, ?_, ?_, ?_, ?_, ?_, ?_, ?_, ?_, ?_⟩ <;> first | assumption | omega) | decide | (exact decide_eq_true (by omega)) | k_extra "pre")); (case f1 => first | assumption | k_dflt (exact rfl)); (case f4 => (first | assumption | omega | ((try dsimp only); omega) | ((try dsimp only); (simp (disch := decide) only [Int.fdiv_eq_ediv_of_nonneg, Int.fmod_eq_emod_of_nonneg]); omega) | trivial | (refine ⟨?_, ?_, ?_, ?_, ?_, ?_, ?_, ?_, ?_, ?_, ?_, ?_, ?_, ?_⟩ <;> first | assumption | omega) | decide | (exact decide_eq_true (by omega)) | k_extra "pre")); (case f5 => (first | assumption | omega | ((try dsimp only); omega) | ((try dsimp only); (simp (disch := decide) only [Int.fdiv_eq_ediv_of_nonneg, Int.fmod_eq_emod_of_nonneg]); omega) | trivial | (refine ⟨?_, ?_, ?_, ?_, ?_, ?_, ?_, ?_, ?_, ?_, ?_, ?_, ?_, ?_⟩ <;> first | assumption | omega) | decide | (exact decide_eq_true (by omega)) | k_extra "pre")); (case f8 => (first | assumption | omega | ((try dsimp only); omega) | ((try dsimp only); (simp (disch := decide) only [Int.fdiv_eq_ediv_of_nonneg, Int.fmod_eq_emod_of_nonneg]); omega) | trivial | (refine ⟨?_, ?_, ?_, ?_, ?_, ?_, ?_, ?_, ?_, ?_, ?_, ?_, ?_, ?_⟩ <;> first | assumption | omega) | decide | (exact decide_eq_true (by omega)) | k_extra "pre")); (case f9 => (first | assumption | omega | ((try dsimp only); omega) | ((try dsimp only); (simp (disch := decide) only [Int.fdiv_eq_ediv_of_nonneg, Int.fmod_eq_emod_of_nonneg]); omega) | trivial | (refine ⟨?_, ?_, ?_, ?_, ?_, ?_, ?_, ?_, ?_, ?_, ?_, ?_, ?_, ?_⟩ <;> first | assumption | omega) | decide | (exact decide_eq_true (by omega)) | k_extra "pre")); intro v9 n9 h9 tk9 F9 N9 R9; (try dsimp only at R9); (obtain ⟨r9, t91, t92, k91, k92, k93, u91, u92, e9, en9⟩ := R9); (subst e9; subst en9); (try dsimp only); (try k_sweep); (try k_fold))
  k_with "eval Call Name" => (k_here; (with_reducible show wpAny _ _ (eval (Expr.Call (Expr.Name "read_clock" _) _ _ _) _) _ _ _); refine Call_ ?_)
  k_with "call ref" => (k_here; (with_reducible show wpAny _ _ (call (Value.ref 357) _) _ _ _); k_dflt (refine' spc_use (read_clock_c _ _ _ _ _ _ _ _ _ _ _ _ _ ?hi ?h0 ?f1 ?f2 ?f3) ?k1 ?k2 ?k3 ?k4 ?k5 ?kK ?kd ?ku ?ki ?_; (case k1 => k_asm); (case k2 => k_asm); (case k3 => k_asm); (case k4 => k_asm); (case k5 => k_asm); (case kK => first | exact rfl | assumption); (case kd => ktr_room); (case ku => ktr_units); (case h0 => assumption); (case ki => exact ⟨_, _, _, _, _, by k_mem, by k_mem, fun p hp => by (repeat (first | exact hp | refine List.Mem.tail _ ?_))⟩)); (case hi => (first | assumption | omega | ((try dsimp only); omega) | ((try dsimp only); (simp (disch := decide) only [Int.fdiv_eq_ediv_of_nonneg, Int.fmod_eq_emod_of_nonneg]); omega) | trivial | (refine ⟨?_, ?_, ?_, ?_, ?_, ?_, ?_, ?_, ?_, ?_, ?_, ?_, ?_, ?_⟩ <;> first | assumption | omega) | decide | (exact decide_eq_true (by omega)) | k_extra "pre")); (case f1 => (first | assumption | omega | ((try dsimp only); omega) | ((try dsimp only); (simp (disch := decide) only [Int.fdiv_eq_ediv_of_nonneg, Int.fmod_eq_emod_of_nonneg]); omega) | trivial | (refine ⟨?_, ?_, ?_, ?_, ?_, ?_, ?_, ?_, ?_, ?_, ?_, ?_, ?_, ?_⟩ <;> first | assumption | omega) | decide | (exact decide_eq_true (by omega)) | k_extra "pre")); (case f2 => (first | assumption | omega | ((try dsimp only); omega) | ((try dsimp only); (simp (disch := decide) only [Int.fdiv_eq_ediv_of_nonneg, Int.fmod_eq_emod_of_nonneg]); omega) | trivial | (refine ⟨?_, ?_, ?_, ?_, ?_, ?_, ?_, ?_, ?_, ?_, ?_, ?_, ?_, ?_⟩ <;> first | assumption | omega) | decide | (exact decide_eq_true (by omega)) | k_extra "pre")); (case f3 => (first | assumption | omega | ((try dsimp only); omega) | ((try dsimp only); (simp (disch := decide) only [Int.fdiv_eq_ediv_of_nonneg, Int.fmod_eq_emod_of_nonneg]); omega) | trivial | (refine ⟨?_, ?_, ?_, ?_, ?_, ?_, ?_, ?_, ?_, ?_, ?_, ?_, ?_, ?_⟩ <;> first | assumption | omega) | decide | (exact decide_eq_true (by omega)) | k_extra "pre")); intro v9 n9 h9 tk9 F9 N9 R9; (try dsimp only at R9); (obtain ⟨r9, t91, t92, t93, k91, k92, k93, u91, u92, e9, en9⟩ := R9); (subst e9; subst en9); (try dsimp only); (try k_sweep); (try k_fold))
  k_with "eval Call Name" => (k_here; (with_reducible show wpAny _ _ (eval (Expr.Call (Expr.Name "is_leap" _) _ _ _) _) _ _ _); refine Call_ ?_)
  k_with "call ref" => (k_here; (with_reducible show wpAny _ _ (call (Value.ref 172) _) _ _ _); k_dflt (refine' pur_use (is_leap_c _ _ _) ?k1 ?k2 ?k3 ?k4 ?k5 ?kK ?kd ?ku ?_; (case k1 => k_asm); (case k2 => k_asm); (case k3 => k_asm); (case k4 => k_asm); (case k5 => k_asm); (case kK => first | exact rfl | assumption); (case kd => ktr_room); (case ku => ktr_units)); intro v9 h9 tk9 F9 N9 R9; (try dsimp only at R9); (subst R9); (try dsimp only); (try k_sweep); (try k_fold))
  k_with "eval Call Name" => (k_here; (with_reducible show wpAny _ _ (eval (Expr.Call (Expr.Name "month_length" _) _ _ _) _) _ _ _); refine Call_ ?_)
  k_with "call ref" => (k_here; (with_reducible show wpAny _ _ (call (Value.ref 179) _) _ _ _); k_dflt (refine' pur_use (month_length_c _ _ _ _ _) ?k1 ?k2 ?k3 ?k4 ?k5 ?kK ?kd ?ku ?_; (case k1 => k_asm); (case k2 => k_asm); (case k3 => k_asm); (case k4 => k_asm); (case k5 => k_asm); (case kK => first | exact rfl | assumption); (case kd => ktr_room); (case ku => ktr_units)); intro v9 h9 tk9 F9 N9 R9; (try dsimp only at R9); (obtain ⟨t9, e9⟩ := R9); (subst e9); (try dsimp only); (try k_sweep); (try k_fold))
  k_with "eval Call Name" => (k_here; (with_reducible show wpAny _ _ (eval (Expr.Call (Expr.Name "days_before_year" _) _ _ _) _) _ _ _); refine Call_ ?_)
  k_with "call ref" => (k_here; (with_reducible show wpAny _ _ (call (Value.ref 186) _) _ _ _); k_dflt (refine' pur_use (days_before_year_c _ _ _) ?k1 ?k2 ?k3 ?k4 ?k5 ?kK ?kd ?ku ?_; (case k1 => k_asm); (case k2 => k_asm); (case k3 => k_asm); (case k4 => k_asm); (case k5 => k_asm); (case kK => first | exact rfl | assumption); (case kd => ktr_room); (case ku => ktr_units)); intro v9 h9 tk9 F9 N9 R9; (try dsimp only at R9); (obtain ⟨t9, e9⟩ := R9); (subst e9); (try dsimp only); (try k_sweep); (try k_fold))
  k_with "eval Call Name" => (k_here; (with_reducible show wpAny _ _ (eval (Expr.Call (Expr.Name "day_number" _) _ _ _) _) _ _ _); refine Call_ ?_)
  k_with "call ref" => (k_here; (with_reducible show wpAny _ _ (call (Value.ref 193) _) _ _ _); k_dflt (refine' pur_use (day_number_c _ _ _ _ _ _ _ ?h1 ?h2) ?k1 ?k2 ?k3 ?k4 ?k5 ?kK ?kd ?ku ?_; (case k1 => k_asm); (case k2 => k_asm); (case k3 => k_asm); (case k4 => k_asm); (case k5 => k_asm); (case kK => first | exact rfl | assumption); (case kd => ktr_room); (case ku => ktr_units)); (case h1 => (first | assumption | omega | ((try dsimp only); omega) | ((try dsimp only); (simp (disch := decide) only [Int.fdiv_eq_ediv_of_nonneg, Int.fmod_eq_emod_of_nonneg]); omega) | trivial | (refine ⟨?_, ?_, ?_, ?_, ?_, ?_, ?_, ?_, ?_, ?_, ?_, ?_, ?_, ?_⟩ <;> first | assumption | omega) | decide | (exact decide_eq_true (by omega)) | k_extra "pre")); (case h2 => (first | assumption | omega | ((try dsimp only); omega) | ((try dsimp only); (simp (disch := decide) only [Int.fdiv_eq_ediv_of_nonneg, Int.fmod_eq_emod_of_nonneg]); omega) | trivial | (refine ⟨?_, ?_, ?_, ?_, ?_, ?_, ?_, ?_, ?_, ?_, ?_, ?_, ?_, ?_⟩ <;> first | assumption | omega) | decide | (exact decide_eq_true (by omega)) | k_extra "pre")); intro v9 h9 tk9 F9 N9 R9; (try dsimp only at R9); (obtain ⟨t9, e9⟩ := R9); (subst e9); (try dsimp only); (try k_sweep); (try k_fold))
  k_with "eval Call Name" => (k_here; (with_reducible show wpAny _ _ (eval (Expr.Call (Expr.Name "weekday" _) _ _ _) _) _ _ _); refine Call_ ?_)
  k_with "call ref" => (k_here; (with_reducible show wpAny _ _ (call (Value.ref 207) _) _ _ _); k_dflt (refine' pur_use (weekday_c _ _ _ _ _ _ _ ?h1 ?h2) ?k1 ?k2 ?k3 ?k4 ?k5 ?kK ?kd ?ku ?_; (case k1 => k_asm); (case k2 => k_asm); (case k3 => k_asm); (case k4 => k_asm); (case k5 => k_asm); (case kK => first | exact rfl | assumption); (case kd => ktr_room); (case ku => ktr_units)); (case h1 => (first | assumption | omega | ((try dsimp only); omega) | ((try dsimp only); (simp (disch := decide) only [Int.fdiv_eq_ediv_of_nonneg, Int.fmod_eq_emod_of_nonneg]); omega) | trivial | (refine ⟨?_, ?_, ?_, ?_, ?_, ?_, ?_, ?_, ?_, ?_, ?_, ?_, ?_, ?_⟩ <;> first | assumption | omega) | decide | (exact decide_eq_true (by omega)) | k_extra "pre")); (case h2 => (first | assumption | omega | ((try dsimp only); omega) | ((try dsimp only); (simp (disch := decide) only [Int.fdiv_eq_ediv_of_nonneg, Int.fmod_eq_emod_of_nonneg]); omega) | trivial | (refine ⟨?_, ?_, ?_, ?_, ?_, ?_, ?_, ?_, ?_, ?_, ?_, ?_, ?_, ?_⟩ <;> first | assumption | omega) | decide | (exact decide_eq_true (by omega)) | k_extra "pre")); intro v9 h9 tk9 F9 N9 R9; (try dsimp only at R9); (obtain ⟨t9, e9⟩ := R9); (subst e9); (try dsimp only); (try k_sweep); (try k_fold))
  k_with "eval Call Name" => (k_here; (with_reducible show wpAny _ _ (eval (Expr.Call (Expr.Name "is_time" _) _ _ _) _) _ _ _); refine Call_ ?_)
  k_with "call ref" => (k_here; (with_reducible show wpAny _ _ (call (Value.ref 221) _) _ _ _); k_dflt (refine' pur_use (is_time_c _ _ _ _ _ _ _ ?h1 ?h2 ?h3 ?h4 ?h5 ?h6) ?k1 ?k2 ?k3 ?k4 ?k5 ?kK ?kd ?ku ?_; (case k1 => k_asm); (case k2 => k_asm); (case k3 => k_asm); (case k4 => k_asm); (case k5 => k_asm); (case kK => first | exact rfl | assumption); (case kd => ktr_room); (case ku => ktr_units)); (case h1 => (first | assumption | omega | ((try dsimp only); omega) | ((try dsimp only); (simp (disch := decide) only [Int.fdiv_eq_ediv_of_nonneg, Int.fmod_eq_emod_of_nonneg]); omega) | trivial | (refine ⟨?_, ?_, ?_, ?_, ?_, ?_, ?_, ?_, ?_, ?_, ?_, ?_, ?_, ?_⟩ <;> first | assumption | omega) | decide | (exact decide_eq_true (by omega)) | k_extra "pre")); (case h2 => (first | assumption | omega | ((try dsimp only); omega) | ((try dsimp only); (simp (disch := decide) only [Int.fdiv_eq_ediv_of_nonneg, Int.fmod_eq_emod_of_nonneg]); omega) | trivial | (refine ⟨?_, ?_, ?_, ?_, ?_, ?_, ?_, ?_, ?_, ?_, ?_, ?_, ?_, ?_⟩ <;> first | assumption | omega) | decide | (exact decide_eq_true (by omega)) | k_extra "pre")); (case h3 => (first | assumption | omega | ((try dsimp only); omega) | ((try dsimp only); (simp (disch := decide) only [Int.fdiv_eq_ediv_of_nonneg, Int.fmod_eq_emod_of_nonneg]); omega) | trivial | (refine ⟨?_, ?_, ?_, ?_, ?_, ?_, ?_, ?_, ?_, ?_, ?_, ?_, ?_, ?_⟩ <;> first | assumption | omega) | decide | (exact decide_eq_true (by omega)) | k_extra "pre")); (case h4 => (first | assumption | omega | ((try dsimp only); omega) | ((try dsimp only); (simp (disch := decide) only [Int.fdiv_eq_ediv_of_nonneg, Int.fmod_eq_emod_of_nonneg]); omega) | trivial | (refine ⟨?_, ?_, ?_, ?_, ?_, ?_, ?_, ?_, ?_, ?_, ?_, ?_, ?_, ?_⟩ <;> first | assumption | omega) | decide | (exact decide_eq_true (by omega)) | k_extra "pre")); (case h5 => (first | assumption | omega | ((try dsimp only); omega) | ((try dsimp only); (simp (disch := decide) only [Int.fdiv_eq_ediv_of_nonneg, Int.fmod_eq_emod_of_nonneg]); omega) | trivial | (refine ⟨?_, ?_, ?_, ?_, ?_, ?_, ?_, ?_, ?_, ?_, ?_, ?_, ?_, ?_⟩ <;> first | assumption | omega) | decide | (exact decide_eq_true (by omega)) | k_extra "pre")); (case h6 => (first | assumption | omega | ((try dsimp only); omega) | ((try dsimp only); (simp (disch := decide) only [Int.fdiv_eq_ediv_of_nonneg, Int.fmod_eq_emod_of_nonneg]); omega) | trivial | (refine ⟨?_, ?_, ?_, ?_, ?_, ?_, ?_, ?_, ?_, ?_, ?_, ?_, ?_, ?_⟩ <;> first | assumption | omega) | decide | (exact decide_eq_true (by omega)) | k_extra "pre")); intro v9 h9 tk9 F9 N9 R9; (try dsimp only at R9); (subst R9); (try dsimp only); (try k_sweep); (try k_fold))
  k_with "eval Call Name" => (k_here; (with_reducible show wpAny _ _ (eval (Expr.Call (Expr.Name "is_day" _) _ _ _) _) _ _ _); refine Call_ ?_)
  k_with "call ref" => (k_here; (with_reducible show wpAny _ _ (call (Value.ref 214) _) _ _ _); k_dflt (refine' pur_use (is_day_c _ _ _ _ _ _ _ ?h1 ?h2 ?h3 ?h4 ?h5 ?h6) ?k1 ?k2 ?k3 ?k4 ?k5 ?kK ?kd ?ku ?_; (case k1 => k_asm); (case k2 => k_asm); (case k3 => k_asm); (case k4 => k_asm); (case k5 => k_asm); (case kK => first | exact rfl | assumption); (case kd => ktr_room); (case ku => ktr_units)); (case h1 => (first | assumption | omega | ((try dsimp only); omega) | ((try dsimp only); (simp (disch := decide) only [Int.fdiv_eq_ediv_of_nonneg, Int.fmod_eq_emod_of_nonneg]); omega) | trivial | (refine ⟨?_, ?_, ?_, ?_, ?_, ?_, ?_, ?_, ?_, ?_, ?_, ?_, ?_, ?_⟩ <;> first | assumption | omega) | decide | (exact decide_eq_true (by omega)) | k_extra "pre")); (case h2 => (first | assumption | omega | ((try dsimp only); omega) | ((try dsimp only); (simp (disch := decide) only [Int.fdiv_eq_ediv_of_nonneg, Int.fmod_eq_emod_of_nonneg]); omega) | trivial | (refine ⟨?_, ?_, ?_, ?_, ?_, ?_, ?_, ?_, ?_, ?_, ?_, ?_, ?_, ?_⟩ <;> first | assumption | omega) | decide | (exact decide_eq_true (by omega)) | k_extra "pre")); (case h3 => (first | assumption | omega | ((try dsimp only); omega) | ((try dsimp only); (simp (disch := decide) only [Int.fdiv_eq_ediv_of_nonneg, Int.fmod_eq_emod_of_nonneg]); omega) | trivial | (refine ⟨?_, ?_, ?_, ?_, ?_, ?_, ?_, ?_, ?_, ?_, ?_, ?_, ?_, ?_⟩ <;> first | assumption | omega) | decide | (exact decide_eq_true (by omega)) | k_extra "pre")); (case h4 => (first | assumption | omega | ((try dsimp only); omega) | ((try dsimp only); (simp (disch := decide) only [Int.fdiv_eq_ediv_of_nonneg, Int.fmod_eq_emod_of_nonneg]); omega) | trivial | (refine ⟨?_, ?_, ?_, ?_, ?_, ?_, ?_, ?_, ?_, ?_, ?_, ?_, ?_, ?_⟩ <;> first | assumption | omega) | decide | (exact decide_eq_true (by omega)) | k_extra "pre")); (case h5 => (first | assumption | omega | ((try dsimp only); omega) | ((try dsimp only); (simp (disch := decide) only [Int.fdiv_eq_ediv_of_nonneg, Int.fmod_eq_emod_of_nonneg]); omega) | trivial | (refine ⟨?_, ?_, ?_, ?_, ?_, ?_, ?_, ?_, ?_, ?_, ?_, ?_, ?_, ?_⟩ <;> first | assumption | omega) | decide | (exact decide_eq_true (by omega)) | k_extra "pre")); (case h6 => (first | assumption | omega | ((try dsimp only); omega) | ((try dsimp only); (simp (disch := decide) only [Int.fdiv_eq_ediv_of_nonneg, Int.fmod_eq_emod_of_nonneg]); omega) | trivial | (refine ⟨?_, ?_, ?_, ?_, ?_, ?_, ?_, ?_, ?_, ?_, ?_, ?_, ?_, ?_⟩ <;> first | assumption | omega) | decide | (exact decide_eq_true (by omega)) | k_extra "pre")); intro v9 h9 tk9 F9 N9 R9; (try dsimp only at R9); (subst R9); (try dsimp only); (try k_sweep); (try k_fold))
  trivial
theorem rows_23_48 : True := by
  k_with "eval Call Name" => (k_here; (with_reducible show wpAny _ _ (eval (Expr.Call (Expr.Name "day_told" _) _ _ _) _) _ _ _); refine Call_ ?_)
  k_with "call ref" => (k_here; (with_reducible show wpAny _ _ (call (Value.ref 200) _) _ _ _); k_dflt (refine' spc_use (day_told_c _ _ _ ?h1 ?h2) ?k1 ?k2 ?k3 ?k4 ?k5 ?kK ?kd ?ku ?ki ?_; (case k1 => k_asm); (case k2 => k_asm); (case k3 => k_asm); (case k4 => k_asm); (case k5 => k_asm); (case kK => first | exact rfl | assumption); (case kd => ktr_room); (case ku => ktr_units); (case ki => exact trivial)); (case h1 => (first | assumption | omega | ((try dsimp only); omega) | ((try dsimp only); (simp (disch := decide) only [Int.fdiv_eq_ediv_of_nonneg, Int.fmod_eq_emod_of_nonneg]); omega) | trivial | (refine ⟨?_, ?_, ?_, ?_, ?_, ?_, ?_, ?_, ?_, ?_, ?_, ?_, ?_, ?_⟩ <;> first | assumption | omega) | decide | (exact decide_eq_true (by omega)) | k_extra "pre")); (case h2 => (first | assumption | omega | ((try dsimp only); omega) | ((try dsimp only); (simp (disch := decide) only [Int.fdiv_eq_ediv_of_nonneg, Int.fmod_eq_emod_of_nonneg]); omega) | trivial | (refine ⟨?_, ?_, ?_, ?_, ?_, ?_, ?_, ?_, ?_, ?_, ?_, ?_, ?_, ?_⟩ <;> first | assumption | omega) | decide | (exact decide_eq_true (by omega)) | k_extra "pre")); intro v9 n9 h9 tk9 F9 N9 R9; (try dsimp only at R9); (obtain ⟨x9, y9, m9, d9, t91, t92, t93, e9, en9, hy1, hy2, hm1, hm2, hd1, hd2, hn9⟩ := R9); (subst e9; subst en9); (try dsimp only); (try k_sweep); (try k_fold))
  trivial

abbrev ent (w : World) (nm : String) (k : Tok) (v : Int) (t : Tok) : DictEntry := { hash := PyData.keyHash w.params (Str.ofString nm), key := Value.str (Str.ofString nm) k, val := Value.int v t }
abbrev momObj (w : World) (k1 k2 k3 k4 k5 k6 k7 : Tok) (y mo d h mi s z : Int) (t1 t2 t3 t4 t5 t6 t7 : Tok) : Obj :=
  dictOf [ent w "year" k1 y t1, ent w "month" k2 mo t2, ent w "day" k3 d t3, ent w "hour" k4 h t4, ent w "minute" k5 mi t5, ent w "second" k6 s t6, ent w "zone" k7 z t7] 7
inductive MomIn (w : World) (x : Addr) (y mo d h mi s z : Int) (news : List (Addr × Obj)) : Prop where
  | intro (dx : Addr) (k1 k2 k3 k4 k5 k6 k7 t1 t2 t3 t4 t5 t6 t7 : Tok) (h1 : (x, instObj 161 dx) ∈ news) (h2 : (dx, momObj w k1 k2 k3 k4 k5 k6 k7 y mo d h mi s z t1 t2 t3 t4 t5 t6 t7) ∈ news) : MomIn w x y mo d h mi s z news
theorem MomIn.mk {w : World} {x dx : Addr} {k1 k2 k3 k4 k5 k6 k7 t1 t2 t3 t4 t5 t6 t7 : Tok} {y mo d h mi s z : Int} {news : List (Addr × Obj)} (h1 : (x, instObj 161 dx) ∈ news)
    (h2 : (dx, momObj w k1 k2 k3 k4 k5 k6 k7 y mo d h mi s z t1 t2 t3 t4 t5 t6 t7) ∈ news) : MomIn w x y mo d h mi s z news := .intro _ _ _ _ _ _ _ _ _ _ _ _ _ _ _ h1 h2
def Valid (y mo d h mi s z : Int) : Prop :=
  1 ≤ y ∧ y ≤ 9999 ∧ 1 ≤ mo ∧ mo ≤ 12 ∧ 1 ≤ d ∧ d ≤ mLen y mo ∧ 0 ≤ h ∧ h ≤ 23 ∧ 0 ≤ mi ∧ mi ≤ 59 ∧ 0 ≤ s ∧ s ≤ 59 ∧ -5999 ≤ z ∧ z ≤ 5999
def inst (y mo d h mi s z : Int) : Int := dayNum y mo d * 86400 + h * 3600 + (mi - z) * 60 + s
theorem sec_of {y mo d h mi s z n : Int} (e : inst y mo d h mi s z = n) (h0 : 0 ≤ s) (h1 : s ≤ 59) : s = n % 60 := by unfold inst at e; omega
/-- A new Moment stands at the ledger's head. -/
inductive MomNew (w : World) (y mo d h mi s z : Int) (news : List (Addr × Obj)) : Value → List (Addr × Obj) → Prop where
  | intro (x dx : Addr) (k1 k2 k3 k4 k5 k6 k7 t1 t2 t3 t4 t5 t6 t7 : Tok) (h1 : AllLt dx news) (h2 : @LT.lt Nat _ dx x) :
    MomNew w y mo d h mi s z news (.ref x) ((x, instObj 161 dx) :: (dx, momObj w k1 k2 k3 k4 k5 k6 k7 y mo d h mi s z t1 t2 t3 t4 t5 t6 t7) :: news)
theorem MomNew.mk {w : World} {y mo d h mi s z : Int} {news : List (Addr × Obj)} {x dx : Addr} {k1 k2 k3 k4 k5 k6 k7 t1 t2 t3 t4 t5 t6 t7 : Tok} (h1 : AllLt dx news) (h2 : @LT.lt Nat _ dx x) :
    MomNew w y mo d h mi s z news (.ref x) ((x, instObj 161 dx) :: (dx, momObj w k1 k2 k3 k4 k5 k6 k7 y mo d h mi s z t1 t2 t3 t4 t5 t6 t7) :: news) := .intro _ _ _ _ _ _ _ _ _ _ _ _ _ _ _ _ h1 h2
/-- A new Moment of the instant n in the zone z. -/
inductive MomOf (w : World) (n z : Int) (news : List (Addr × Obj)) (v : Value) (news' : List (Addr × Obj)) : Prop where
  | intro (y mo d h mi s : Int) (hm : MomNew w y mo d h mi s z news v news') (hv : Valid y mo d h mi s z) (hi : inst y mo d h mi s z = n) : MomOf w n z news v news'
theorem mom_use {w : World} {dep : Nat} {f : Value} {vs : List Value} {In : List (Addr × Obj) → Prop} {y mo d h mi s z : Int}
    (C : Spc w dep f vs In (fun news v news' => MomNew w y mo d h mi s z news v news'))
    {mean : ExcName → Option Value} {mg mb : Str → Option Value} {dp un : Nat} {gd : Option (List Code)} {cn : Str} {cs : Scope} {a : Addr} {ccd : Value} {cl : List (Str × Addr)} {outer : List Env} {A₀ : Around} {base h₀ : Heap} {L : Addr} {m : Str → Option Value} {news : List (Addr × Obj)} {sh : Shared} {Q E : Value → Shared → Prop}
    (B : Below A₀ base outer h₀) (F : Fr h₀ L sh.heap m) (X : (hd.heap_39 w.params).In h₀) (N : News h₀ L sh.heap news) (T : Top hd.view_39 lo mean mg mb h₀) (hk : cs.kind = .function)
    (hd' : dp + dep < recursionLimit) (hu : un + 8 * dep < cLine) (hi : In news)
    (ret : ∀ x dx k1 k2 k3 k4 k5 k6 k7 t1 t2 t3 t4 t5 t6 t7 h' tk', Fr h₀ L h' m → News h₀ L h' ((x, instObj 161 dx) :: (dx, momObj w k1 k2 k3 k4 k5 k6 k7 y mo d h mi s z t1 t2 t3 t4 t5 t6 t7) :: news) → AllLt dx news → @LT.lt Nat _ dx x → Q (.ref x) { sh with heap := h', toks := tk' }) :
    wpAny (model PySem.Challenge.rw_nz0313_01.row.prog w) (ktrTop dp un gd cn cs L a ccd cl outer) (call f vs) Q E sh :=
  spc_use C B F X N T hk hd' hu hi (by
    intro v n' h' tk' F' N' R
    cases R with
    | intro x dx k1 k2 k3 k4 k5 k6 k7 t1 t2 t3 t4 t5 t6 t7 a1 a2 => exact ret _ _ _ _ _ _ _ _ _ _ _ _ _ _ _ _ h' tk' F' N' a1 a2)
theorem Moment_c (w : World) (y mo d h mi s z : Int) (t1 t2 t3 t4 t5 t6 t7 : Tok) : Spc w 4 (.ref 161) [.int y t1, .int mo t2, .int d t3, .int h t4, .int mi t5, .int s t6, .int z t7] (fun _ => True)
    (fun news v news' => MomNew w y mo d h mi s z news v news') := by
  (try unfold Pur)
  unfold Spc
  k_fill
  intro mean mg mb dp un gd cn cs aF ccd cl outer A₀ base h₀ LF mF news sF QF EF B F X N T hk hdp hun hin hret
  k_dflt (refine' call_cls ?k1 ?k2 ?k3 ?k4 ?k5 ?k6 ?_; (case k1 => k_asm); (case k2 => k_asm); (case k3 => k_asm); (case k4 => k_is); (case k5 => k_is); (case k6 => k_is); k_whole; intro x' d' h' F' N' l1 l2; (try k_lt l1); (try k_lt2 l2); (try k_sweep); cell_enter)
  k_steps
  refine' hret _ _ _ _ ?e2 ?e3 (MomNew.mk ?e4 ?e5)
  case e2 => k_asm
  case e3 => k_asm
  case e4 => first | assumption | exact allLt_of (by assumption)
  case e5 => assumption
theorem rows_24_49 : True := by
  k_with "eval Call Name" => (k_here; (with_reducible show wpAny _ _ (eval (Expr.Call (Expr.Name "Moment" _) _ _ _) _) _ _ _); refine Call_ ?_)
  k_with "call ref" => (k_here; (with_reducible show wpAny _ _ (call (Value.ref 161) _) _ _ _); k_dflt (refine' mom_use (Moment_c _ _ _ _ _ _ _ _ _ _ _ _ _ _ _) ?k1 ?k2 ?k3 ?k4 ?k5 ?kK ?kd ?ku ?ki ?_; (case k1 => k_asm); (case k2 => k_asm); (case k3 => k_asm); (case k4 => k_asm); (case k5 => k_asm); (case kK => first | exact rfl | assumption); (case kd => ktr_room); (case ku => ktr_units); (case ki => exact trivial)); intro x9 dx9 k91 k92 k93 k94 k95 k96 k97 t91 t92 t93 t94 t95 t96 t97 h9 tk9 F9 N9 hl9 hx9; (try dsimp only at N9); (replace hx9 := ltN hx9); (try simp only [AllLt, and_true] at hl9); (try dsimp only); (try k_sweep); (try k_fold))
  trivial
theorem mof_use {w : World} {dep : Nat} {f : Value} {vs : List Value} {In : List (Addr × Obj) → Prop} {n z : Int}
    (C : Spc w dep f vs In (MomOf w n z))
    {mean : ExcName → Option Value} {mg mb : Str → Option Value} {dp un : Nat} {gd : Option (List Code)} {cn : Str} {cs : Scope} {a : Addr} {ccd : Value} {cl : List (Str × Addr)} {outer : List Env} {A₀ : Around} {base h₀ : Heap} {L : Addr} {m : Str → Option Value} {news : List (Addr × Obj)} {sh : Shared} {Q E : Value → Shared → Prop}
    (B : Below A₀ base outer h₀) (F : Fr h₀ L sh.heap m) (X : (hd.heap_39 w.params).In h₀) (N : News h₀ L sh.heap news) (T : Top hd.view_39 lo mean mg mb h₀) (hk : cs.kind = .function)
    (hd' : dp + dep < recursionLimit) (hu : un + 8 * dep < cLine) (hi : In news)
    (ret : ∀ y mo d h mi s x dx k1 k2 k3 k4 k5 k6 k7 t1 t2 t3 t4 t5 t6 t7 h' tk', Fr h₀ L h' m → News h₀ L h' ((x, instObj 161 dx) :: (dx, momObj w k1 k2 k3 k4 k5 k6 k7 y mo d h mi s z t1 t2 t3 t4 t5 t6 t7) :: news) → AllLt dx news → @LT.lt Nat _ dx x → Valid y mo d h mi s z → inst y mo d h mi s z = n → 1 ≤ mo → mo ≤ 12 → s = n % 60 → Q (.ref x) { sh with heap := h', toks := tk' }) :
    wpAny (model PySem.Challenge.rw_nz0313_01.row.prog w) (ktrTop dp un gd cn cs L a ccd cl outer) (call f vs) Q E sh :=
  spc_use C B F X N T hk hd' hu hi (by
    intro v n' h' tk' F' N' R
    cases R with
    | intro y mo d h mi s hm b1 b2 => cases hm with
    | intro x dx k1 k2 k3 k4 k5 k6 k7 t1 t2 t3 t4 t5 t6 t7 a1 a2 => exact ret _ _ _ _ _ _ _ _ _ _ _ _ _ _ _ _ _ _ _ _ _ _ h' tk' F' N' a1 a2 b1 b2 b1.2.2.1 b1.2.2.2.1 (sec_of b2 b1.2.2.2.2.2.2.2.2.2.2.1 b1.2.2.2.2.2.2.2.2.2.2.2.1))
theorem moment_of_c (w : World) (n z : Int) (t u : Tok) (h1 : -62035200000 ≤ n) (h2 : n ≤ 253324800000) (h3 : -5999 ≤ z) (h4 : z ≤ 5999) : Spc w 6 (.ref 243) [.int n t, .int z u] (fun _ => True)
    (MomOf w n z) := by
  (try unfold Pur)
  unfold Spc
  k_fill
  intro mean mg mb dp un gd cn cs aF ccd cl outer A₀ base h₀ LF mF news sF QF EF B F X N T hk hdp hun hin hret
  refine wpAny_call ?_
  k_dflt (refine' code_def ?k1 ?k2 ?k3 ?k4 ?k5 ?kA ?kF ?kK ?k6 ?k7 ?k8 ?k9 ?kB ?_ ?c2 ?c3 ?c4 ?c5; (case kA => exact rfl); (case kF => exact rfl); (case kK => assumption); (case k1 => k_asm); (case k2 => k_asm); (case k3 => k_asm); (case k4 => k_asm); (case k5 => k_asm); (case k6 => k_is); (case k7 => k_is); (case k8 => ktr_room); (case k9 => first | exact BindsTo.of_eq rfl | exact binds_K (by k_in) rfl (by k_is) rfl rfl rfl); (case c5 => decide); (case kB => exact locs rfl); (case c2 => exact rfl); (case c3 => exact rfl); (case c4 => exact rfl); k_whole; intro g' L' h' FG' F' N' B' X' T'; (try dsimp only); (try k_lift B'); (try k_fold))
  (with_reducible rename Fr _ _ _ (fun nzy => List.lookup nzy _) => F0)
  replace F0 := fr_eq (m' := fun nzy => List.lookup nzy ([(Str.ofString "zone", Value.int z u), (Str.ofString "seconds", Value.int n t)] : List (Str × Value))) F0 (by kernel_rfl)
  k_steps
  refine' hret _ _ _ _ ?e2 ?e3 (.intro _ _ _ _ _ _ (MomNew.mk ?e4 ?e5) ?e6 ?e7)
  case e2 => k_asm
  case e3 => refine' news_drop ?cbN ?cbS; (case cbN => assumption); (case cbS => exact List.forall_mem_cons.mpr ⟨by k_mem, List.forall_mem_cons.mpr ⟨by k_mem, fun p hp => by simp [hp]⟩⟩)
  case e4 => exact (‹_ ∧ AllLt _ news›).2
  case e5 => assumption
  case e6 => unfold Valid; simp only [fm _ 86400, fd _ 3600, fd _ 60, fm _ 60]; refine ⟨by assumption, by assumption, by assumption, by assumption, by assumption, by assumption, ?_⟩; omega
  case e7 =>
    have hn9 := ‹dayNum _ _ _ = _›
    unfold inst; rw [hn9]; simp only [fm _ 86400, fd _ 86400, fd _ 3600, fd _ 60, fm _ 60]; omega
theorem rows_24_50 : True := by
  k_with "eval Call Name" => (k_here; (with_reducible show wpAny _ _ (eval (Expr.Call (Expr.Name "moment_of" _) _ _ _) _) _ _ _); refine Call_ ?_)
  k_with "call ref" => (k_here; (with_reducible show wpAny _ _ (call (Value.ref 243) _) _ _ _); k_dflt (refine' mof_use (moment_of_c _ _ _ _ _ ?h1 ?h2 ?h3 ?h4) ?k1 ?k2 ?k3 ?k4 ?k5 ?kK ?kd ?ku ?ki ?_; (case k1 => k_asm); (case k2 => k_asm); (case k3 => k_asm); (case k4 => k_asm); (case k5 => k_asm); (case kK => first | exact rfl | assumption); (case kd => ktr_room); (case ku => ktr_units); (case ki => exact trivial)); (case h1 => (first | assumption | omega | ((try dsimp only); omega) | ((try dsimp only); (simp (disch := decide) only [Int.fdiv_eq_ediv_of_nonneg, Int.fmod_eq_emod_of_nonneg]); omega) | trivial | (refine ⟨?_, ?_, ?_, ?_, ?_, ?_, ?_, ?_, ?_, ?_, ?_, ?_, ?_, ?_⟩ <;> first | assumption | omega) | decide | (exact decide_eq_true (by omega)) | k_extra "pre")); (case h2 => (first | assumption | omega | ((try dsimp only); omega) | ((try dsimp only); (simp (disch := decide) only [Int.fdiv_eq_ediv_of_nonneg, Int.fmod_eq_emod_of_nonneg]); omega) | trivial | (refine ⟨?_, ?_, ?_, ?_, ?_, ?_, ?_, ?_, ?_, ?_, ?_, ?_, ?_, ?_⟩ <;> first | assumption | omega) | decide | (exact decide_eq_true (by omega)) | k_extra "pre")); (case h3 => (first | assumption | omega | ((try dsimp only); omega) | ((try dsimp only); (simp (disch := decide) only [Int.fdiv_eq_ediv_of_nonneg, Int.fmod_eq_emod_of_nonneg]); omega) | trivial | (refine ⟨?_, ?_, ?_, ?_, ?_, ?_, ?_, ?_, ?_, ?_, ?_, ?_, ?_, ?_⟩ <;> first | assumption | omega) | decide | (exact decide_eq_true (by omega)) | k_extra "pre")); (case h4 => (first | assumption | omega | ((try dsimp only); omega) | ((try dsimp only); (simp (disch := decide) only [Int.fdiv_eq_ediv_of_nonneg, Int.fmod_eq_emod_of_nonneg]); omega) | trivial | (refine ⟨?_, ?_, ?_, ?_, ?_, ?_, ?_, ?_, ?_, ?_, ?_, ?_, ?_, ?_⟩ <;> first | assumption | omega) | decide | (exact decide_eq_true (by omega)) | k_extra "pre")); intro y9 mo9 d9 hh9 mi9 s9 x9 dx9 k91 k92 k93 k94 k95 k96 k97 t91 t92 t93 t94 t95 t96 t97 h9 tk9 F9 N9 hl9 hx9 hV9 hn9 hm1 hm2 hq9; (try dsimp only at N9); (replace hx9 := ltN hx9); (try simp only [AllLt, and_true] at hl9); (try dsimp only); (try k_sweep); (try k_fold))
  trivial
theorem instant_of_c (w : World) (x : Addr) (y mo d h mi s z : Int) (h1 : 1 ≤ mo) (h2 : mo ≤ 12) : Spc w 5 (.ref 235) [.ref x] (MomIn w x y mo d h mi s z) (fun news v news' => news' = news ∧ ∃ t, v = .int (inst y mo d h mi s z) t) := by
  (try unfold Pur)
  unfold Spc
  k_fill
  intro mean mg mb dp un gd cn cs aF ccd cl outer A₀ base h₀ LF mF news sF QF EF B F X N T hk hdp hun hin hret
  refine wpAny_call ?_
  k_dflt cell_enter
  (with_reducible rename Fr _ _ _ (fun nzy => List.lookup nzy _) => F0)
  replace F0 := fr_eq (m' := fun nzy => List.lookup nzy ([(Str.ofString "moment", Value.ref x)] : List (Str × Value))) F0 (by kernel_rfl)
  obtain ⟨dx, k1, k2, k3, k4, k5, k6, k7, t1, t2, t3, t4, t5, t6, t7, hm1, hm2⟩ := hin
  k_steps
  all_goals (refine' hret _ _ _ _ ?e2 ?e3 (⟨rfl, ktn_int ?_⟩); (case e2 => k_asm); (case e3 => (first | k_asm | (refine' news_drop ?cbN ?cbS; (case cbN => assumption); (case cbS => kcj_all)))))
  unfold inst; rfl
theorem rows_24_51 : True := by
  k_with "eval Call Name" => (k_here; (with_reducible show wpAny _ _ (eval (Expr.Call (Expr.Name "instant_of" _) _ _ _) _) _ _ _); refine Call_ ?_)
  k_with "call ref" => (k_here; (with_reducible show wpAny _ _ (call (Value.ref 235) _) _ _ _); k_dflt (refine' spcp_use (instant_of_c _ _ _ _ _ _ _ _ _ ?h1 ?h2) ?k1 ?k2 ?k3 ?k4 ?k5 ?kK ?kd ?ku ?ki ?_; (case k1 => k_asm); (case k2 => k_asm); (case k3 => k_asm); (case k4 => k_asm); (case k5 => k_asm); (case kK => first | exact rfl | assumption); (case kd => ktr_room); (case ku => ktr_units); (case ki => (refine' MomIn.mk ?m1 ?m2; (case m1 => k_mem); (case m2 => k_mem)))); (case h1 => (first | assumption | omega | ((try dsimp only); omega) | ((try dsimp only); (simp (disch := decide) only [Int.fdiv_eq_ediv_of_nonneg, Int.fmod_eq_emod_of_nonneg]); omega) | trivial | (refine ⟨?_, ?_, ?_, ?_, ?_, ?_, ?_, ?_, ?_, ?_, ?_, ?_, ?_, ?_⟩ <;> first | assumption | omega) | decide | (exact decide_eq_true (by omega)) | k_extra "pre")); (case h2 => (first | assumption | omega | ((try dsimp only); omega) | ((try dsimp only); (simp (disch := decide) only [Int.fdiv_eq_ediv_of_nonneg, Int.fmod_eq_emod_of_nonneg]); omega) | trivial | (refine ⟨?_, ?_, ?_, ?_, ?_, ?_, ?_, ?_, ?_, ?_, ?_, ?_, ?_, ?_⟩ <;> first | assumption | omega) | decide | (exact decide_eq_true (by omega)) | k_extra "pre")); intro v9 h9 tk9 F9 N9 R9; (try dsimp only at R9); (obtain ⟨t9, e9⟩ := R9); (subst e9); (try dsimp only); (try k_sweep); (try k_fold))
  trivial
theorem law_clock_c (w : World) (x : Addr) (y mo d h mi s z : Int) (h1 : 1 ≤ mo) (h2 : mo ≤ 12) : Spc w 5 (.ref 421) [.ref x] (MomIn w x y mo d h mi s z) (fun news v news' => news' = news ∧ ∃ t, v = .int (inst y mo d h mi s z + 60 * z) t) := by
  (try unfold Pur)
  unfold Spc
  k_fill
  intro mean mg mb dp un gd cn cs aF ccd cl outer A₀ base h₀ LF mF news sF QF EF B F X N T hk hdp hun hin hret
  refine wpAny_call ?_
  k_dflt cell_enter
  (with_reducible rename Fr _ _ _ (fun nzy => List.lookup nzy _) => F0)
  replace F0 := fr_eq (m' := fun nzy => List.lookup nzy ([(Str.ofString "moment", Value.ref x)] : List (Str × Value))) F0 (by kernel_rfl)
  obtain ⟨dx, k1, k2, k3, k4, k5, k6, k7, t1, t2, t3, t4, t5, t6, t7, hm1, hm2⟩ := hin
  k_steps
  all_goals (refine' hret _ _ _ _ ?e2 ?e3 (⟨rfl, ktn_int ?_⟩); (case e2 => k_asm); (case e3 => (first | k_asm | (refine' news_drop ?cbN ?cbS; (case cbN => assumption); (case cbS => kcj_all)))))
  unfold inst; omega
theorem rows_24_52 : True := by
  k_with "eval Call Name" => (k_here; (with_reducible show wpAny _ _ (eval (Expr.Call (Expr.Name "_law_clock" _) _ _ _) _) _ _ _); refine Call_ ?_)
  k_with "call ref" => (k_here; (with_reducible show wpAny _ _ (call (Value.ref 421) _) _ _ _); k_dflt (refine' spcp_use (law_clock_c _ _ _ _ _ _ _ _ _ ?h1 ?h2) ?k1 ?k2 ?k3 ?k4 ?k5 ?kK ?kd ?ku ?ki ?_; (case k1 => k_asm); (case k2 => k_asm); (case k3 => k_asm); (case k4 => k_asm); (case k5 => k_asm); (case kK => first | exact rfl | assumption); (case kd => ktr_room); (case ku => ktr_units); (case ki => (refine' MomIn.mk ?m1 ?m2; (case m1 => k_mem); (case m2 => k_mem)))); (case h1 => (first | assumption | omega | ((try dsimp only); omega) | ((try dsimp only); (simp (disch := decide) only [Int.fdiv_eq_ediv_of_nonneg, Int.fmod_eq_emod_of_nonneg]); omega) | trivial | (refine ⟨?_, ?_, ?_, ?_, ?_, ?_, ?_, ?_, ?_, ?_, ?_, ?_, ?_, ?_⟩ <;> first | assumption | omega) | decide | (exact decide_eq_true (by omega)) | k_extra "pre")); (case h2 => (first | assumption | omega | ((try dsimp only); omega) | ((try dsimp only); (simp (disch := decide) only [Int.fdiv_eq_ediv_of_nonneg, Int.fmod_eq_emod_of_nonneg]); omega) | trivial | (refine ⟨?_, ?_, ?_, ?_, ?_, ?_, ?_, ?_, ?_, ?_, ?_, ?_, ?_, ?_⟩ <;> first | assumption | omega) | decide | (exact decide_eq_true (by omega)) | k_extra "pre")); intro v9 h9 tk9 F9 N9 R9; (try dsimp only at R9); (obtain ⟨t9, e9⟩ := R9); (subst e9); (try dsimp only); (try k_sweep); (try k_fold))
  trivial
theorem check_moment_c (w : World) (x : Addr) (y mo d h mi s z : Int) (hv : Valid y mo d h mi s z) : Spc w 5 (.ref 228) [.ref x] (MomIn w x y mo d h mi s z) (fun news v news' => news' = news ∧ v = .none) := by
  (try unfold Pur)
  unfold Spc
  k_fill
  intro mean mg mb dp un gd cn cs aF ccd cl outer A₀ base h₀ LF mF news sF QF EF B F X N T hk hdp hun hin hret
  refine wpAny_call ?_
  k_dflt cell_enter
  (with_reducible rename Fr _ _ _ (fun nzy => List.lookup nzy _) => F0)
  replace F0 := fr_eq (m' := fun nzy => List.lookup nzy ([(Str.ofString "moment", Value.ref x)] : List (Str × Value))) F0 (by kernel_rfl)
  obtain ⟨dx, k1, k2, k3, k4, k5, k6, k7, t1, t2, t3, t4, t5, t6, t7, hm1, hm2⟩ := hin
  obtain ⟨hy1, hy2, hm1, hm2, hd1, hd2, hh1, hh2, hi1, hi2, hs1, hs2, hz1, hz2⟩ := hv
  k_steps
  all_goals (refine' hret _ _ _ _ ?e2 ?e3 (⟨rfl, rfl⟩); (case e2 => k_asm); (case e3 => (first | k_asm | (refine' news_drop ?cbN ?cbS; (case cbN => assumption); (case cbS => kcj_all)))))
theorem rows_24_53 : True := by
  k_with "eval Call Name" => (k_here; (with_reducible show wpAny _ _ (eval (Expr.Call (Expr.Name "check_moment" _) _ _ _) _) _ _ _); refine Call_ ?_)
  k_with "call ref" => (k_here; (with_reducible show wpAny _ _ (call (Value.ref 228) _) _ _ _); k_dflt (refine' spcp_use (check_moment_c _ _ _ _ _ _ _ _ _ ?h1) ?k1 ?k2 ?k3 ?k4 ?k5 ?kK ?kd ?ku ?ki ?_; (case k1 => k_asm); (case k2 => k_asm); (case k3 => k_asm); (case k4 => k_asm); (case k5 => k_asm); (case kK => first | exact rfl | assumption); (case kd => ktr_room); (case ku => ktr_units); (case ki => (refine' MomIn.mk ?m1 ?m2; (case m1 => k_mem); (case m2 => k_mem)))); (case h1 => (first | assumption | omega | ((try dsimp only); omega) | ((try dsimp only); (simp (disch := decide) only [Int.fdiv_eq_ediv_of_nonneg, Int.fmod_eq_emod_of_nonneg]); omega) | trivial | (refine ⟨?_, ?_, ?_, ?_, ?_, ?_, ?_, ?_, ?_, ?_, ?_, ?_, ?_, ?_⟩ <;> first | assumption | omega) | decide | (exact decide_eq_true (by omega)) | k_extra "pre")); intro v9 h9 tk9 F9 N9 R9; (try dsimp only at R9); (subst R9); (try dsimp only); (try k_sweep); (try k_fold))
  trivial

def d2 (n : Nat) : List Nat := [48 + n / 10, 48 + n % 10]
def d4 (n : Nat) : List Nat := [48 + n / 1000, 48 + n / 100 % 10, 48 + n / 10 % 10, 48 + n % 10]
def padT (n k : Int) : Str := Txt.mul (Str.ofString "0") (k - (Str.ofString (toString n)).length) ++ Str.ofString (toString n)
theorem padT_2 : ∀ n : Fin 100, (padT (n.val : Int) 2).cps.toList = d2 n.val := by decide +kernel
theorem pad2 (n : Int) (h0 : 0 ≤ n) (h1 : n < 100) : (padT n 2).cps.toList = d2 n.toNat := by
  have := padT_2 ⟨n.toNat, by omega⟩
  simpa [Int.toNat_of_nonneg h0] using this
theorem padded2_c (w : World) (n : Int) (t u : Tok) (h1 : 0 ≤ n) (h2 : n < 100) : Pur w 2 (.ref 260) [.int n t, .int 2 u] (fun v => ∃ y t, v = .str y t ∧ y.cps.toList = d2 n.toNat ∧ y.length = 2) := by
  (try unfold Pur)
  unfold Spc
  k_fill
  intro mean mg mb dp un gd cn cs aF ccd cl outer A₀ base h₀ LF mF news sF QF EF B F X N T hk hdp hun hin hret
  refine wpAny_call ?_
  k_dflt cell_enter
  (with_reducible rename Fr _ _ _ (fun nzy => List.lookup nzy _) => F0)
  replace F0 := fr_eq (m' := fun nzy => List.lookup nzy ([(Str.ofString "width", Value.int 2 u), (Str.ofString "number", Value.int n t)] : List (Str × Value))) F0 (by kernel_rfl)
  k_steps
  all_goals (refine' hret _ _ _ _ ?e2 ?e3 (⟨rfl, _, _, rfl, ?_⟩); (case e2 => k_asm); (case e3 => (first | k_asm | (refine' news_drop ?cbN ?cbS; (case cbN => assumption); (case cbS => kcj_all)))))
  all_goals (have e := pad2 n h1 h2; unfold padT at e; refine ⟨e, ?_⟩; rw [Str.length, ← Array.length_toList, e]; rfl)
theorem rows_31_54 : True := by
  k_with "eval Call Name" => (k_here; (with_reducible show wpAny _ _ (eval (Expr.Call (Expr.Name "padded" _) _ _ _) _) _ _ _); refine Call_ ?_)
  k_with "call ref" => (k_here; (with_reducible show wpAny _ _ (call (Value.ref 260) _) _ _ _); k_dflt (refine' pur_use (padded2_c _ _ _ _ ?h1 ?h2) ?k1 ?k2 ?k3 ?k4 ?k5 ?kK ?kd ?ku ?_; (case k1 => k_asm); (case k2 => k_asm); (case k3 => k_asm); (case k4 => k_asm); (case k5 => k_asm); (case kK => first | exact rfl | assumption); (case kd => ktr_room); (case ku => ktr_units)); (case h1 => (first | assumption | omega | ((try dsimp only); omega) | ((try dsimp only); (simp (disch := decide) only [Int.fdiv_eq_ediv_of_nonneg, Int.fmod_eq_emod_of_nonneg]); omega) | trivial | (refine ⟨?_, ?_, ?_, ?_, ?_, ?_, ?_, ?_, ?_, ?_, ?_, ?_, ?_, ?_⟩ <;> first | assumption | omega) | decide | (exact decide_eq_true (by omega)) | k_extra "pre")); (case h2 => (first | assumption | omega | ((try dsimp only); omega) | ((try dsimp only); (simp (disch := decide) only [Int.fdiv_eq_ediv_of_nonneg, Int.fmod_eq_emod_of_nonneg]); omega) | trivial | (refine ⟨?_, ?_, ?_, ?_, ?_, ?_, ?_, ?_, ?_, ?_, ?_, ?_, ?_, ?_⟩ <;> first | assumption | omega) | decide | (exact decide_eq_true (by omega)) | k_extra "pre")); intro v9 h9 tk9 F9 N9 R9; (try dsimp only at R9); (obtain ⟨y9, t9, e9, hy9, hl9⟩ := R9); (subst e9); (try dsimp only); (try k_sweep); (try k_fold))
  trivial
open PySem.NumText in
theorem num_signs (m : Nat) (n : Nat) (cs : List Nat) (hl : cs.length = n + 1) (hd : AllDigits cs) (hh : n = 0 ∨ ∃ c r, cs = c :: r ∧ 49 ≤ c) (hv : digitsVal cs = m) : (Str.ofString (toString ((m : Nat) : Int))).cps.toList = cs := by
  rw [PySem.W.KIN.signs_num, ← hv, toDigits_digitsVal n cs hl hd hh, List.map_map]
  refine (List.map_congr_left (g := id) fun c hc => ?_).trans (List.map_id cs)
  have h := hd c hc
  obtain ⟨k, hk, rfl⟩ : ∃ k, k < 10 ∧ c = 48 + k := ⟨c - 48, by omega, by omega⟩
  have : ∀ k : Fin 10, (Char.ofNat (48 + k.val)).toNat = 48 + k.val := by decide
  exact this ⟨k, hk⟩
open PySem.NumText in
theorem pad4 (n : Int) (h0 : 0 ≤ n) (h1 : n < 10000) : (padT n 4).cps.toList = d4 n.toNat := by
  obtain ⟨m, rfl⟩ := Int.eq_ofNat_of_zero_le h0
  have hm : m < 10000 := by omega
  have key : ∀ cs : List Nat, (Str.ofString (toString ((m : Nat) : Int))).cps.toList = cs → ∀ k : Nat, k + cs.length = 4 → (padT (m : Int) 4).cps.toList = List.replicate k 48 ++ cs := by
    intro cs hcs k hk
    have hlen : (Str.ofString (toString ((m : Nat) : Int))).length = cs.length := by rw [Str.length, ← Array.length_toList, hcs]
    have e : (4 : Int) - ((Str.ofString (toString ((m : Nat) : Int))).length : Nat) = (k : Int) := by rw [hlen]; omega
    unfold padT
    rw [Str.cps_append, Array.toList_append, hcs, e]
    have hz : ∀ k : Fin 5, (Txt.mul (Str.ofString "0") ((k.val : Nat) : Int)).cps.toList = List.replicate k.val 48 := by decide +kernel
    rw [hz ⟨k, by omega⟩]
  have ed : d4 ((m : Int).toNat) = [48 + m / 1000, 48 + m / 100 % 10, 48 + m / 10 % 10, 48 + m % 10] := rfl
  rw [ed]
  by_cases a : m < 10
  · rw [key [48 + m] (num_signs m 0 _ rfl (by intro c hc; simp at hc; omega) (.inl rfl) (by simp [digitsVal])) 3 rfl]
    have : m / 1000 = 0 := by omega
    have : m / 100 % 10 = 0 := by omega
    have : m / 10 % 10 = 0 := by omega
    have : m % 10 = m := by omega
    simp [*]
  by_cases b : m < 100
  · rw [key [48 + m / 10, 48 + m % 10] (num_signs m 1 _ rfl (by intro c hc; simp at hc; omega) (.inr ⟨_, _, rfl, by omega⟩) (by simp [digitsVal]; omega)) 2 rfl]
    have : m / 1000 = 0 := by omega
    have : m / 100 % 10 = 0 := by omega
    have : m / 10 % 10 = m / 10 := by omega
    simp [*]
  by_cases c : m < 1000
  · rw [key [48 + m / 100, 48 + m / 10 % 10, 48 + m % 10] (num_signs m 2 _ rfl (by intro c hc; simp at hc; omega) (.inr ⟨_, _, rfl, by omega⟩) (by simp [digitsVal]; omega)) 1 rfl]
    have : m / 1000 = 0 := by omega
    have : m / 100 % 10 = m / 100 := by omega
    simp [*]
  · rw [key [48 + m / 1000, 48 + m / 100 % 10, 48 + m / 10 % 10, 48 + m % 10] (num_signs m 3 _ rfl (by intro c hc; simp at hc; omega) (.inr ⟨_, _, rfl, by omega⟩) (by simp [digitsVal]; omega)) 0 rfl]
    rfl
theorem padded4_c (w : World) (n : Int) (t u : Tok) (h1 : 0 ≤ n) (h2 : n < 10000) : Pur w 2 (.ref 260) [.int n t, .int 4 u] (fun v => ∃ y t, v = .str y t ∧ y.cps.toList = d4 n.toNat ∧ y.length = 4) := by
  (try unfold Pur)
  unfold Spc
  k_fill
  intro mean mg mb dp un gd cn cs aF ccd cl outer A₀ base h₀ LF mF news sF QF EF B F X N T hk hdp hun hin hret
  refine wpAny_call ?_
  k_dflt cell_enter
  (with_reducible rename Fr _ _ _ (fun nzy => List.lookup nzy _) => F0)
  replace F0 := fr_eq (m' := fun nzy => List.lookup nzy ([(Str.ofString "width", Value.int 4 u), (Str.ofString "number", Value.int n t)] : List (Str × Value))) F0 (by kernel_rfl)
  k_steps
  all_goals (refine' hret _ _ _ _ ?e2 ?e3 (⟨rfl, _, _, rfl, ?_⟩); (case e2 => k_asm); (case e3 => (first | k_asm | (refine' news_drop ?cbN ?cbS; (case cbN => assumption); (case cbS => kcj_all)))))
  all_goals (have e := pad4 n h1 h2; unfold padT at e; refine ⟨e, ?_⟩; rw [Str.length, ← Array.length_toList, e]; rfl)
theorem rows_31_55 : True := by
  k_with "call ref" => (k_here; (with_reducible show wpAny _ _ (call (Value.ref 260) _) _ _ _); k_dflt (refine' pur_use (padded4_c _ _ _ _ ?h1 ?h2) ?k1 ?k2 ?k3 ?k4 ?k5 ?kK ?kd ?ku ?_; (case k1 => k_asm); (case k2 => k_asm); (case k3 => k_asm); (case k4 => k_asm); (case k5 => k_asm); (case kK => first | exact rfl | assumption); (case kd => ktr_room); (case ku => ktr_units)); (case h1 => (first | assumption | omega | ((try dsimp only); omega) | ((try dsimp only); (simp (disch := decide) only [Int.fdiv_eq_ediv_of_nonneg, Int.fmod_eq_emod_of_nonneg]); omega) | trivial | (refine ⟨?_, ?_, ?_, ?_, ?_, ?_, ?_, ?_, ?_, ?_, ?_, ?_, ?_, ?_⟩ <;> first | assumption | omega) | decide | (exact decide_eq_true (by omega)) | k_extra "pre")); (case h2 => (first | assumption | omega | ((try dsimp only); omega) | ((try dsimp only); (simp (disch := decide) only [Int.fdiv_eq_ediv_of_nonneg, Int.fmod_eq_emod_of_nonneg]); omega) | trivial | (refine ⟨?_, ?_, ?_, ?_, ?_, ?_, ?_, ?_, ?_, ?_, ?_, ?_, ?_, ?_⟩ <;> first | assumption | omega) | decide | (exact decide_eq_true (by omega)) | k_extra "pre")); intro v9 h9 tk9 F9 N9 R9; (try dsimp only at R9); (obtain ⟨y9, t9, e9, hy9, hl9⟩ := R9); (subst e9); (try dsimp only); (try k_sweep); (try k_fold))
  trivial
def dDay (n : Nat) : List Nat := if n < 10 then [48 + n] else d2 n
theorem str_day : ∀ d : Fin 32, (Str.ofString (toString ((d.val : Nat) : Int))).cps.toList = dDay d.val := by decide +kernel

def dZone (z : Int) : List Nat := (if z < 0 then 45 else 43) :: (d2 (z.natAbs / 60) ++ d2 (z.natAbs % 60))
theorem zone_h (z : Int) : ((if z < 0 then -z else z).fdiv 60).toNat = z.natAbs / 60 := by rw [fd _ 60]; split <;> omega
theorem zone_m (z : Int) : ((if z < 0 then -z else z).fmod 60).toNat = z.natAbs % 60 := by rw [fm _ 60]; split <;> omega
theorem len_of {x : Str} {l : List Nat} (h : x.cps.toList = l) : x.length = l.length := by rw [Str.length, ← Array.length_toList, h]
theorem app_list (a b : Str) : (a ++ b).cps.toList = a.cps.toList ++ b.cps.toList := by rw [Str.cps_append, Array.toList_append]
theorem zone_text_c (w : World) (z : Int) (t : Tok) (h1 : -5999 ≤ z) (h2 : z ≤ 5999) : Pur w 4 (.ref 267) [.int z t] (fun v => ∃ y t, v = .str y t ∧ y.cps.toList = dZone z ∧ y.length = 5) := by
  (try unfold Pur)
  unfold Spc
  k_fill
  intro mean mg mb dp un gd cn cs aF ccd cl outer A₀ base h₀ LF mF news sF QF EF B F X N T hk hdp hun hin hret
  refine wpAny_call ?_
  k_dflt cell_enter
  (with_reducible rename Fr _ _ _ (fun nzy => List.lookup nzy _) => F0)
  replace F0 := fr_eq (m' := fun nzy => List.lookup nzy ([(Str.ofString "zone", Value.int z t)] : List (Str × Value))) F0 (by kernel_rfl)
  k_steps
  all_goals (refine' hret _ _ _ _ ?e2 ?e3 (⟨rfl, _, _, rfl, ?_⟩); (case e2 => k_asm); (case e3 => (first | k_asm | (refine' news_drop ?cbN ?cbS; (case cbN => assumption); (case cbS => kcj_all)))))
  all_goals (
    have e1 := ‹_ = d2 (Int.fdiv _ 60).toNat›
    have e2 := ‹_ = d2 (Int.fmod _ 60).toNat›
    rw [zone_h] at e1
    rw [zone_m] at e2
    have em : (Str.ofString "-").cps.toList = [45] := by decide +kernel
    have ep : (Str.ofString "+").cps.toList = [43] := by decide +kernel
    refine (fun e => ⟨e, len_of e⟩) ?_
    rw [app_list, app_list, e1, e2]
    unfold dZone)
  · rw [em, if_pos ‹z < 0›]; rfl
  · rw [ep, if_neg ‹¬ z < 0›]; rfl
theorem rows_33_56 : True := by
  k_with "eval Call Name" => (k_here; (with_reducible show wpAny _ _ (eval (Expr.Call (Expr.Name "zone_text" _) _ _ _) _) _ _ _); refine Call_ ?_)
  k_with "call ref" => (k_here; (with_reducible show wpAny _ _ (call (Value.ref 267) _) _ _ _); k_dflt (refine' pur_use (zone_text_c _ _ _ ?h1 ?h2) ?k1 ?k2 ?k3 ?k4 ?k5 ?kK ?kd ?ku ?_; (case k1 => k_asm); (case k2 => k_asm); (case k3 => k_asm); (case k4 => k_asm); (case k5 => k_asm); (case kK => first | exact rfl | assumption); (case kd => ktr_room); (case ku => ktr_units)); (case h1 => (first | assumption | omega | ((try dsimp only); omega) | ((try dsimp only); (simp (disch := decide) only [Int.fdiv_eq_ediv_of_nonneg, Int.fmod_eq_emod_of_nonneg]); omega) | trivial | (refine ⟨?_, ?_, ?_, ?_, ?_, ?_, ?_, ?_, ?_, ?_, ?_, ?_, ?_, ?_⟩ <;> first | assumption | omega) | decide | (exact decide_eq_true (by omega)) | k_extra "pre")); (case h2 => (first | assumption | omega | ((try dsimp only); omega) | ((try dsimp only); (simp (disch := decide) only [Int.fdiv_eq_ediv_of_nonneg, Int.fmod_eq_emod_of_nonneg]); omega) | trivial | (refine ⟨?_, ?_, ?_, ?_, ?_, ?_, ?_, ?_, ?_, ?_, ?_, ?_, ?_, ?_⟩ <;> first | assumption | omega) | decide | (exact decide_eq_true (by omega)) | k_extra "pre")); intro v9 h9 tk9 F9 N9 R9; (try dsimp only at R9); (obtain ⟨y9, t9, e9, hy9, hl9⟩ := R9); (subst e9); (try dsimp only); (try k_sweep); (try k_fold))
  trivial
def dClock (h mi s z : Int) : List Nat := d2 h.toNat ++ 58 :: (d2 mi.toNat ++ 58 :: (d2 s.toNat ++ 32 :: dZone z))
theorem rows_33_57 : True := by
  k_with "exec Assign cons ListComp" => ((with_reducible show wpAny _ _ (exec (Stmt.Assign _ (Expr.ListComp (Expr.Call (Expr.Name "padded" _) _ _ _) _ _ _) _) _) _ _ _); walk_at "NZ ACOMP")
  trivial
theorem clock_text_c (w : World) (x : Addr) (y mo d h mi s z : Int) (hv : Valid y mo d h mi s z) : Spc w 6 (.ref 272) [.ref x] (MomIn w x y mo d h mi s z) (fun news v news' => news' = news ∧ ∃ y t, v = .str y t ∧ y.cps.toList = dClock h mi s z ∧ y.length = 14) := by
  (try unfold Pur)
  unfold Spc
  k_fill
  intro mean mg mb dp un gd cn cs aF ccd cl outer A₀ base h₀ LF mF news sF QF EF B F X N T hk hdp hun hin hret
  refine wpAny_call ?_
  k_dflt cell_enter
  (with_reducible rename Fr _ _ _ (fun nzy => List.lookup nzy _) => F0)
  replace F0 := fr_eq (m' := fun nzy => List.lookup nzy ([(Str.ofString "moment", Value.ref x)] : List (Str × Value))) F0 (by kernel_rfl)
  obtain ⟨dx, k1, k2, k3, k4, k5, k6, k7, t1, t2, t3, t4, t5, t6, t7, hm1, hm2⟩ := hin
  obtain ⟨hy1, hy2, hm1, hm2, hd1, hd2, hh1, hh2, hi1, hi2, hs1, hs2, hz1, hz2⟩ := hv
  k_steps
  walk_at "NZ TUP"
  refine rest_items [h, mi, s] (fun k v => ∃ t, v = .int k t) (fun k v => ∃ y t, v = .str y t ∧ y.cps.toList = d2 k.toNat ∧ y.length = 2) (Or.inr ⟨_, by k_mem, rfl, _, rfl⟩) (.cons ⟨_, rfl⟩ (.cons ⟨_, rfl⟩ (.cons ⟨_, rfl⟩ .nil))) ?_ ?_
  · intro d v I oI C oC D m₂ ys h tk E' hd hv hC hx F N off ne
    obtain ⟨t, rfl⟩ := hv
    k_fold
    have hb : 0 ≤ d ∧ d < 100 := by simp only [List.mem_cons, List.not_mem_nil, or_false] at hd; omega
    obtain ⟨hb1, hb2⟩ := hb
    k_steps
    all_goals k_asm
  · intro ys hy
    obtain _ | ⟨⟨ya, ta, rfl, ea, la⟩, _ | ⟨⟨yb, tb, rfl, eb, lb⟩, _ | ⟨⟨yc, tc, rfl, ec, lc⟩, _ | _⟩⟩⟩ := hy
    have hj : (Txt.join (Str.ofString ":") [ya, yb, yc]).cps.toList = d2 h.toNat ++ 58 :: (d2 mi.toNat ++ 58 :: d2 s.toNat) := by
      have e1 : (Str.ofString ":").cps.toList = [58] := by decide +kernel
      simp [Txt.join, Builtin.Str.glued, ea, eb, ec, e1]
    have hl : (Txt.join (Str.ofString ":") [ya, yb, yc]).length = 8 := len_of hj
    k_steps
    all_goals (refine' hret _ _ _ _ ?e2 ?e3 (⟨rfl, _, _, rfl, ?_⟩); (case e2 => k_asm); (case e3 => (first | k_asm | (refine' news_drop ?cbN ?cbS; (case cbN => assumption); (case cbS => kcj_all)))))
    all_goals (
      have ez := ‹_ = dZone z›
      have es : (Str.ofString " ").cps.toList = [32] := by decide +kernel
      refine (fun e => ⟨e, len_of e⟩) ?_
      rw [app_list, app_list, hj, ez, es]
      unfold dClock
      simp)
theorem rows_33_58 : True := by
  k_with "eval Call Name" => (k_here; (with_reducible show wpAny _ _ (eval (Expr.Call (Expr.Name "clock_text" _) _ _ _) _) _ _ _); refine Call_ ?_)
  k_with "call ref" => (k_here; (with_reducible show wpAny _ _ (call (Value.ref 272) _) _ _ _); k_dflt (refine' spcp_use (clock_text_c _ _ _ _ _ _ _ _ _ ?h1) ?k1 ?k2 ?k3 ?k4 ?k5 ?kK ?kd ?ku ?ki ?_; (case k1 => k_asm); (case k2 => k_asm); (case k3 => k_asm); (case k4 => k_asm); (case k5 => k_asm); (case kK => first | exact rfl | assumption); (case kd => ktr_room); (case ku => ktr_units); (case ki => (refine' MomIn.mk ?m1 ?m2; (case m1 => k_mem); (case m2 => k_mem)))); (case h1 => (first | assumption | omega | ((try dsimp only); omega) | ((try dsimp only); (simp (disch := decide) only [Int.fdiv_eq_ediv_of_nonneg, Int.fmod_eq_emod_of_nonneg]); omega) | trivial | (refine ⟨?_, ?_, ?_, ?_, ?_, ?_, ?_, ?_, ?_, ?_, ?_, ?_, ?_, ?_⟩ <;> first | assumption | omega) | decide | (exact decide_eq_true (by omega)) | k_extra "pre")); intro v9 h9 tk9 F9 N9 R9; (try dsimp only at R9); (obtain ⟨y9, t9, e9, hy9, hl9⟩ := R9); (subst e9); (try dsimp only); (try k_sweep); (try k_fold))
  trivial

theorem isStrOf_at {k : Str} : ∀ {vs : List Value} {ys : List Str}, StrsAre vs ys → ∀ (j : Nat) (h1 : j < vs.length) (h2 : j < ys.length), isStrOf k vs[j] = (ys[j] == k)
  | _, _, .cons y t r, 0, h1, h2 => rfl
  | _, _, .cons y t r, j + 1, h1, h2 => isStrOf_at r j (by simpa using h1) (by simpa using h2)
theorem strs_len : ∀ {vs : List Value} {ys : List Str}, StrsAre vs ys → vs.length = ys.length
  | _, _, .nil => rfl
  | _, _, .cons _ _ r => by rw [List.length_cons, List.length_cons, strs_len r]
section
variable {prog : Program} {w : World} {A : Around} {E : Value → Shared → Prop} {s : Shared}
theorem index_list_strs {l : Addr} {vs : List Value} {ys : List Str} {k : Str} {t : Tok} {Q : Value → Shared → Prop} (hl : s.heap.IsList l vs.toArray) (hi : StrsAre vs ys) (hs : ys.length ≤ 1000) (hk : k ∈ ys) (h : Q (.int (ys.idxOf k : Nat) s.toks) { s with toks := s.toks + 1 }) :
    wpAny (model prog w) A (call (.builtin "list.index") [.ref l, .str k t]) Q E s := by
  obtain ⟨⟨cls, dd, data, sl⟩, ho, hc, n, hd⟩ := id hl
  simp only at hc hd
  subst hc hd
  have hlen := strs_len hi
  have hj : ys.idxOf k < ys.length := List.idxOf_lt_length_iff.mpr hk
  refine call_meets PySem.F.slot_list_index ⟨_, ho, rfl⟩ PySem.F.entry_list_index (PySem.F.args_list_index_2 _ _)
    (SeqAt.list_indexAt l vs.toArray n dd sl (.str k t) (isStrOf k) (ys.idxOf k) (by simpa [hlen] using hj) (by omega) ?_ ?_) ⟨ho, fun y hy => (eq_isStrOf k t hi y (by simpa using hy)).at _ _, h⟩
  · show isStrOf k vs[ys.idxOf k] = true
    rw [isStrOf_at hi _ (by omega) hj]
    simpa using List.getElem_idxOf hj
  · intro j hjs hlt
    show isStrOf k vs[j] = false
    rw [isStrOf_at hi j (by simpa using hjs) (by omega)]
    exact (by simpa using List.not_of_lt_findIdx (p := (· == k)) hlt)
end
abbrev MON : List Str := [Str.ofString "Jan", Str.ofString "Feb", Str.ofString "Mar", Str.ofString "Apr", Str.ofString "May", Str.ofString "Jun", Str.ofString "Jul", Str.ofString "Aug", Str.ofString "Sep", Str.ofString "Oct", Str.ofString "Nov", Str.ofString "Dec"]
abbrev DAY : List Str := [Str.ofString "Mon", Str.ofString "Tue", Str.ofString "Wed", Str.ofString "Thu", Str.ofString "Fri", Str.ofString "Sat", Str.ofString "Sun"]
theorem each_strsAre : ∀ {vs : List Value} {ys : List Str}, StrsAre vs ys → Each (fun x v => ∃ t, v = .str x t) ys vs
  | _, _, .nil => .nil
  | _, _, .cons _ t r => .cons ⟨t, rfl⟩ (each_strsAre r)
theorem short_mon : ∀ x ∈ MON, x.length = 3 ∧ ∀ c ∈ x.cps.toList, c < 128 := by decide +kernel
theorem short_day : ∀ x ∈ DAY, x.length = 3 ∧ ∀ c ∈ x.cps.toList, c < 128 := by decide +kernel
theorem low_any_mon : ∀ x ∈ MON, (MON.map lowT).any (· == lowT x) = true := by decide +kernel
theorem low_mem_mon : ∀ x ∈ MON, lowT x ∈ MON.map lowT := fun _ h => List.mem_map_of_mem h
theorem low_any_day : ∀ x ∈ DAY, (DAY.map lowT).any (· == lowT x) = true := by decide +kernel
theorem rows_36_59 : True := by
  k_with "exec Assign cons ListComp" => ((with_reducible show wpAny _ _ (exec (Stmt.Assign _ (Expr.ListComp (Expr.Call (Expr.Name "lower_text" _) _ _ _) _ _ _) _) _) _ _ _); walk_at "NZ ACOMP")
  k_with "eval ListComp" => ((with_reducible show wpAny _ _ (eval (Expr.ListComp (Expr.Call (Expr.Name "lower_text" _) _ _ _) _ _ _) _) _ _ _); walk_at "NZ ECOMP")
  trivial
theorem month_number_c (w : World) (x : Str) (k : Int) (t : Tok) (h : x ∈ MON) (hidx : (((MON.map lowT).idxOf (lowT x) : Nat) : Int) + 1 = k) : Pur w 8 (.ref 248) [.str x t] (fun v => ∃ t, v = .int k t) := by
  (try unfold Pur)
  unfold Spc
  k_fill
  intro mean mg mb dp un gd cn cs aF ccd cl outer A₀ base h₀ LF mF news sF QF EF B F X N T hk hdp hun hin hret
  refine wpAny_call ?_
  k_dflt cell_enter
  (with_reducible rename Fr _ _ _ (fun nzy => List.lookup nzy _) => F0)
  replace F0 := fr_eq (m' := fun nzy => List.lookup nzy ([(Str.ofString "text", Value.str x t)] : List (Str × Value))) F0 (by kernel_rfl)
  obtain ⟨h1, h2⟩ := short_mon x h
  k_steps
  k_dflt (refine' GSrc.tup ?a1 ?a2 ?a3 ?a4 ?a5 ?a6; (case a1 => rfl); (case a2 => k_asm); (case a3 => k_asm); (case a4 => exact Or.inl ⟨_, (show (hd.heap_39 w.params).In _ by k_asm) _ _ (by k_is), rfl, _, rfl⟩); (case a5 => exact Nat.le_of_ble_eq_true rfl))
  intro g'
  refine rest_items MON (fun x v => ∃ t, v = .str x t) (fun x v => ∃ t, v = .str (lowT x) t) (Or.inl ⟨_, (show (hd.heap_39 w.params).In _ by k_asm) _ _ (by k_is), rfl, _, rfl⟩) (by repeat (first | exact .nil | refine .cons ⟨_, rfl⟩ ?_)) ?_ ?_
  · intro d v I oI C oC D m₂ ys h tk E' hd hv hC hx F N off ne
    obtain ⟨t, rfl⟩ := hv
    k_fold
    obtain ⟨hm1, hm2⟩ := short_mon d hd
    k_steps
    all_goals first | k_asm | trace_state
  · intro ys hy
    have hS := each_strs lowT hy
    have hL : (lowT x).length = 3 := by rw [← h1]; simp [lowT, Str.length]
    k_steps
    · refine index_list_strs (News.isList (by k_asm) (by k_mem)) hS (by decide) (low_mem_mon x h) ?_
      k_steps
      all_goals (refine' hret _ _ _ _ ?e2 ?e3 (⟨rfl, ktn_int hidx⟩); (case e2 => k_asm); (case e3 => (first | k_asm | (refine' news_drop ?cbN ?cbS; (case cbN => assumption); (case cbS => kcj_all)))))
    · exact absurd ((low_any_mon x h).symm.trans ‹_ = false›) (by decide)
theorem idx_mon : ∀ i : Fin 12, (MON.map lowT).idxOf (lowT (MON.getD i.val Str.empty)) = i.val := by decide +kernel
theorem mon_mem (i : Nat) (h : i < 12) : MON.getD i Str.empty ∈ MON := by
  have : ∀ i : Fin 12, MON.getD i.val Str.empty ∈ MON := by decide +kernel
  exact this ⟨i, h⟩
theorem rows_36_60 : True := by
  k_with "eval Call Name" => (k_here; (with_reducible show wpAny _ _ (eval (Expr.Call (Expr.Name "month_number" _) _ _ _) _) _ _ _); refine Call_ ?_)
  k_with "call ref" => (k_here; (with_reducible show wpAny _ _ (call (Value.ref 248) _) _ _ _); k_dflt (refine' pur_use (month_number_c _ _ _ _ ?h1 ?h2) ?k1 ?k2 ?k3 ?k4 ?k5 ?kK ?kd ?ku ?_; (case k1 => k_asm); (case k2 => k_asm); (case k3 => k_asm); (case k4 => k_asm); (case k5 => k_asm); (case kK => first | exact rfl | assumption); (case kd => ktr_room); (case ku => ktr_units)); (case h1 => (first | assumption | omega | ((try dsimp only); omega) | ((try dsimp only); (simp (disch := decide) only [Int.fdiv_eq_ediv_of_nonneg, Int.fmod_eq_emod_of_nonneg]); omega) | trivial | (refine ⟨?_, ?_, ?_, ?_, ?_, ?_, ?_, ?_, ?_, ?_, ?_, ?_, ?_, ?_⟩ <;> first | assumption | omega) | decide | (exact decide_eq_true (by omega)) | k_extra "pre")); (case h2 => (first | assumption | omega | ((try dsimp only); omega) | ((try dsimp only); (simp (disch := decide) only [Int.fdiv_eq_ediv_of_nonneg, Int.fmod_eq_emod_of_nonneg]); omega) | trivial | (refine ⟨?_, ?_, ?_, ?_, ?_, ?_, ?_, ?_, ?_, ?_, ?_, ?_, ?_, ?_⟩ <;> first | assumption | omega) | decide | (exact decide_eq_true (by omega)) | k_extra "pre")); intro v9 h9 tk9 F9 N9 R9; (try dsimp only at R9); (obtain ⟨t9, e9⟩ := R9); (subst e9); (try dsimp only); (try k_sweep); (try k_fold))
  trivial
theorem is_day_name_c (w : World) (x : Str) (t : Tok) (h : x ∈ DAY) : Pur w 8 (.ref 253) [.str x t] (fun v => v = .bool true) := by
  (try unfold Pur)
  unfold Spc
  k_fill
  intro mean mg mb dp un gd cn cs aF ccd cl outer A₀ base h₀ LF mF news sF QF EF B F X N T hk hdp hun hin hret
  refine wpAny_call ?_
  k_dflt cell_enter
  (with_reducible rename Fr _ _ _ (fun nzy => List.lookup nzy _) => F0)
  replace F0 := fr_eq (m' := fun nzy => List.lookup nzy ([(Str.ofString "text", Value.str x t)] : List (Str × Value))) F0 (by kernel_rfl)
  obtain ⟨h1, h2⟩ := short_day x h
  k_steps
  k_dflt (refine' GSrc.tup ?a1 ?a2 ?a3 ?a4 ?a5 ?a6; (case a1 => rfl); (case a2 => k_asm); (case a3 => k_asm); (case a4 => exact Or.inl ⟨_, (show (hd.heap_39 w.params).In _ by k_asm) _ _ (by k_is), rfl, _, rfl⟩); (case a5 => exact Nat.le_of_ble_eq_true rfl))
  intro g'
  refine rest_items DAY (fun x v => ∃ t, v = .str x t) (fun x v => ∃ t, v = .str (lowT x) t) (Or.inl ⟨_, (show (hd.heap_39 w.params).In _ by k_asm) _ _ (by k_is), rfl, _, rfl⟩) (by repeat (first | exact .nil | refine .cons ⟨_, rfl⟩ ?_)) ?_ ?_
  · intro d v I oI C oC D m₂ ys h tk E' hd hv hC hx F N off ne
    obtain ⟨t, rfl⟩ := hv
    k_fold
    obtain ⟨hm1, hm2⟩ := short_day d hd
    k_steps
    all_goals first | k_asm | trace_state
  · intro ys hy
    have hS := each_strs lowT hy
    k_steps
    all_goals (refine' hret _ _ _ _ ?e2 ?e3 (⟨rfl, congrArg Value.bool (low_any_day x h)⟩); (case e2 => k_asm); (case e3 => (first | k_asm | (refine' news_drop ?cbN ?cbS; (case cbN => assumption); (case cbS => kcj_all)))))
theorem rows_36_61 : True := by
  k_with "eval Call Name" => (k_here; (with_reducible show wpAny _ _ (eval (Expr.Call (Expr.Name "is_day_name" _) _ _ _) _) _ _ _); refine Call_ ?_)
  k_with "call ref" => (k_here; (with_reducible show wpAny _ _ (call (Value.ref 253) _) _ _ _); k_dflt (refine' pur_use (is_day_name_c _ _ _ ?h1) ?k1 ?k2 ?k3 ?k4 ?k5 ?kK ?kd ?ku ?_; (case k1 => k_asm); (case k2 => k_asm); (case k3 => k_asm); (case k4 => k_asm); (case k5 => k_asm); (case kK => first | exact rfl | assumption); (case kd => ktr_room); (case ku => ktr_units)); (case h1 => (first | assumption | omega | ((try dsimp only); omega) | ((try dsimp only); (simp (disch := decide) only [Int.fdiv_eq_ediv_of_nonneg, Int.fmod_eq_emod_of_nonneg]); omega) | trivial | (refine ⟨?_, ?_, ?_, ?_, ?_, ?_, ?_, ?_, ?_, ?_, ?_, ?_, ?_, ?_⟩ <;> first | assumption | omega) | decide | (exact decide_eq_true (by omega)) | k_extra "pre")); intro v9 h9 tk9 F9 N9 R9; (try dsimp only at R9); (subst R9); (try dsimp only); (try k_sweep); (try k_fold))
  trivial

def monL (i : Nat) : List Nat := (MON.getD i Str.empty).cps.toList
theorem monL_len : ∀ i : Fin 12, (MON.getD i.val Str.empty).length = 3 := by decide +kernel
def dDate (y mo d : Int) : List Nat := dDay d.toNat ++ 45 :: (monL (mo - 1).toNat ++ 45 :: d4 y.toNat)
theorem day_text_c (w : World) (y mo d : Int) (t u v : Tok) (h1 : 1 ≤ y) (h2 : y ≤ 9999) (h3 : 1 ≤ mo) (h4 : mo ≤ 12) (h5 : 1 ≤ d) (h6 : d ≤ 31) : Pur w 4 (.ref 383) [.int y t, .int mo u, .int d v] (fun v => ∃ x t, v = .str x t ∧ x.cps.toList = dDate y mo d ∧ (x.length : Int) = (if d < 10 then 10 else 11)) := by
  (try unfold Pur)
  unfold Spc
  k_fill
  intro mean mg mb dp un gd cn cs aF ccd cl outer A₀ base h₀ LF mF news sF QF EF B F X N T hk hdp hun hin hret
  refine wpAny_call ?_
  k_dflt cell_enter
  (with_reducible rename Fr _ _ _ (fun nzy => List.lookup nzy _) => F0)
  replace F0 := fr_eq (m' := fun nzy => List.lookup nzy ([(Str.ofString "day", Value.int d v), (Str.ofString "month", Value.int mo u), (Str.ofString "year", Value.int y t)] : List (Str × Value))) F0 (by kernel_rfl)
  have hm : ([Str.ofString "Jan", Str.ofString "Feb", Str.ofString "Mar", Str.ofString "Apr", Str.ofString "May", Str.ofString "Jun", Str.ofString "Jul", Str.ofString "Aug", Str.ofString "Sep", Str.ofString "Oct", Str.ofString "Nov", Str.ofString "Dec"].getD (mo - 1).toNat Str.empty).length = 3 := monL_len ⟨(mo - 1).toNat, by omega⟩
  have hd : (Str.ofString (toString d)).cps.toList = dDay d.toNat := by
    have := str_day ⟨d.toNat, by omega⟩
    simpa [Int.toNat_of_nonneg (show 0 ≤ d by omega)] using this
  have hdl : ((Str.ofString (toString d)).length : Int) = (if d < 10 then 1 else 2) := by
    rw [len_of hd]; unfold dDay
    by_cases h : d < 10
    · rw [if_pos h, if_pos (by omega)]; rfl
    · rw [if_neg h, if_neg (by omega)]; rfl
  have hdl2 : (Str.ofString (toString d)).length ≤ 2 := by split at hdl <;> omega
  k_steps
  all_goals (refine' hret _ _ _ _ ?e2 ?e3 (⟨rfl, _, _, rfl, ?_⟩); (case e2 => k_asm); (case e3 => (first | k_asm | (refine' news_drop ?cbN ?cbS; (case cbN => assumption); (case cbS => kcj_all)))))
  all_goals (
    have ey := ‹_ = d4 y.toNat›
    have es : (Str.ofString "-").cps.toList = [45] := by decide +kernel
    refine ⟨?_, ?_⟩
    · rw [app_list, app_list, app_list, app_list, hd, ey, es]
      unfold dDate monL
      simp
    · have el := ‹_ = 4›
      have e1 : (Str.ofString "-").length = 1 := by decide +kernel
      rw [Str.length_append, Str.length_append, Str.length_append, Str.length_append, hm, el, e1]
      split at hdl <;> rename_i hq
      · rw [if_pos hq]; omega
      · rw [if_neg hq]; omega)
theorem rows_37_62 : True := by
  k_with "eval Call Name" => (k_here; (with_reducible show wpAny _ _ (eval (Expr.Call (Expr.Name "day_text" _) _ _ _) _) _ _ _); refine Call_ ?_)
  k_with "call ref" => (k_here; (with_reducible show wpAny _ _ (call (Value.ref 383) _) _ _ _); k_dflt (refine' pur_use (day_text_c _ _ _ _ _ _ _ ?h1 ?h2 ?h3 ?h4 ?h5 ?h6) ?k1 ?k2 ?k3 ?k4 ?k5 ?kK ?kd ?ku ?_; (case k1 => k_asm); (case k2 => k_asm); (case k3 => k_asm); (case k4 => k_asm); (case k5 => k_asm); (case kK => first | exact rfl | assumption); (case kd => ktr_room); (case ku => ktr_units)); (case h1 => (first | assumption | omega | ((try dsimp only); omega) | ((try dsimp only); (simp (disch := decide) only [Int.fdiv_eq_ediv_of_nonneg, Int.fmod_eq_emod_of_nonneg]); omega) | trivial | (refine ⟨?_, ?_, ?_, ?_, ?_, ?_, ?_, ?_, ?_, ?_, ?_, ?_, ?_, ?_⟩ <;> first | assumption | omega) | decide | (exact decide_eq_true (by omega)) | k_extra "pre")); (case h2 => (first | assumption | omega | ((try dsimp only); omega) | ((try dsimp only); (simp (disch := decide) only [Int.fdiv_eq_ediv_of_nonneg, Int.fmod_eq_emod_of_nonneg]); omega) | trivial | (refine ⟨?_, ?_, ?_, ?_, ?_, ?_, ?_, ?_, ?_, ?_, ?_, ?_, ?_, ?_⟩ <;> first | assumption | omega) | decide | (exact decide_eq_true (by omega)) | k_extra "pre")); (case h3 => (first | assumption | omega | ((try dsimp only); omega) | ((try dsimp only); (simp (disch := decide) only [Int.fdiv_eq_ediv_of_nonneg, Int.fmod_eq_emod_of_nonneg]); omega) | trivial | (refine ⟨?_, ?_, ?_, ?_, ?_, ?_, ?_, ?_, ?_, ?_, ?_, ?_, ?_, ?_⟩ <;> first | assumption | omega) | decide | (exact decide_eq_true (by omega)) | k_extra "pre")); (case h4 => (first | assumption | omega | ((try dsimp only); omega) | ((try dsimp only); (simp (disch := decide) only [Int.fdiv_eq_ediv_of_nonneg, Int.fmod_eq_emod_of_nonneg]); omega) | trivial | (refine ⟨?_, ?_, ?_, ?_, ?_, ?_, ?_, ?_, ?_, ?_, ?_, ?_, ?_, ?_⟩ <;> first | assumption | omega) | decide | (exact decide_eq_true (by omega)) | k_extra "pre")); (case h5 => (first | assumption | omega | ((try dsimp only); omega) | ((try dsimp only); (simp (disch := decide) only [Int.fdiv_eq_ediv_of_nonneg, Int.fmod_eq_emod_of_nonneg]); omega) | trivial | (refine ⟨?_, ?_, ?_, ?_, ?_, ?_, ?_, ?_, ?_, ?_, ?_, ?_, ?_, ?_⟩ <;> first | assumption | omega) | decide | (exact decide_eq_true (by omega)) | k_extra "pre")); (case h6 => (first | assumption | omega | ((try dsimp only); omega) | ((try dsimp only); (simp (disch := decide) only [Int.fdiv_eq_ediv_of_nonneg, Int.fmod_eq_emod_of_nonneg]); omega) | trivial | (refine ⟨?_, ?_, ?_, ?_, ?_, ?_, ?_, ?_, ?_, ?_, ?_, ?_, ?_, ?_⟩ <;> first | assumption | omega) | decide | (exact decide_eq_true (by omega)) | k_extra "pre")); intro v9 h9 tk9 F9 N9 R9; (try dsimp only at R9); (obtain ⟨y9, t9, e9, hy9, hl9⟩ := R9); (subst e9); (try dsimp only); (try k_sweep); (try k_fold))
  trivial
def dInt (y mo d h mi s z : Int) : List Nat := (if d < 10 then [32] else []) ++ (dDate y mo d ++ 32 :: dClock h mi s z)
theorem write_internal_c (w : World) (x : Addr) (y mo d h mi s z : Int) (hv : Valid y mo d h mi s z) : Spc w 8 (.ref 402) [.ref x] (MomIn w x y mo d h mi s z) (fun news v news' => news' = news ∧ ∃ x t, v = .str x t ∧ x.cps.toList = dInt y mo d h mi s z ∧ x.length = 26) := by
  (try unfold Pur)
  unfold Spc
  k_fill
  intro mean mg mb dp un gd cn cs aF ccd cl outer A₀ base h₀ LF mF news sF QF EF B F X N T hk hdp hun hin hret
  refine wpAny_call ?_
  k_dflt cell_enter
  (with_reducible rename Fr _ _ _ (fun nzy => List.lookup nzy _) => F0)
  replace F0 := fr_eq (m' := fun nzy => List.lookup nzy ([(Str.ofString "moment", Value.ref x)] : List (Str × Value))) F0 (by kernel_rfl)
  obtain ⟨dx, k1, k2, k3, k4, k5, k6, k7, t1, t2, t3, t4, t5, t6, t7, hm1, hm2⟩ := hin
  have hv' := hv
  have hml := mLen_pos y mo
  obtain ⟨hy1, hy2, hm1, hm2, hd1, hd2, hh1, hh2, hi1, hi2, hs1, hs2, hz1, hz2⟩ := hv'
  k_steps
  all_goals (refine' hret _ _ _ _ ?e2 ?e3 (⟨rfl, _, _, rfl, ?_⟩); (case e2 => k_asm); (case e3 => (first | k_asm | (refine' news_drop ?cbN ?cbS; (case cbN => assumption); (case cbS => kcj_all)))))
  have ed := ‹_ = dDate y mo d›
  have el := ‹_ = if d < 10 then _ else _›
  have ec := ‹_ = dClock h mi s z›
  have es : (Str.ofString " ").cps.toList = [32] := by decide +kernel
  have m1 : (Txt.mul (Str.ofString " ") 1).cps.toList = [32] := by decide +kernel
  have m0 : (Txt.mul (Str.ofString " ") 0).cps.toList = [] := by decide +kernel
  have hD : ∀ l, l = dInt y mo d h mi s z → l.length = 26 := by
    rintro l rfl
    have hl : (monL (mo - 1).toNat).length = 3 := monL_len ⟨(mo - 1).toNat, by omega⟩
    unfold dInt dDate dClock dDay dZone d2 d4
    by_cases hq : d < 10
    · rw [if_pos hq, if_pos (by omega)]; simp only [List.length_append, List.length_cons, List.length_nil, hl]
    · rw [if_neg hq, if_neg (by omega)]; simp only [List.length_append, List.length_cons, List.length_nil, hl]
  refine (fun e => ⟨e, (len_of rfl).trans (hD _ e)⟩) ?_
  rw [app_list, app_list, app_list, ed, ec, es, el]
  unfold dInt
  by_cases hq : d < 10
  · rw [if_pos hq, if_pos hq, show (11 : Int) - 10 = 1 from rfl, m1]; simp
  · rw [if_neg hq, if_neg hq, show (11 : Int) - 11 = 0 from rfl, m0]; simp
theorem rows_37_63 : True := by
  k_with "eval Call Name" => (k_here; (with_reducible show wpAny _ _ (eval (Expr.Call (Expr.Name "write_internal" _) _ _ _) _) _ _ _); refine Call_ ?_)
  k_with "call ref" => (k_here; (with_reducible show wpAny _ _ (call (Value.ref 402) _) _ _ _); k_dflt (refine' spcp_use (write_internal_c _ _ _ _ _ _ _ _ _ ?h1) ?k1 ?k2 ?k3 ?k4 ?k5 ?kK ?kd ?ku ?ki ?_; (case k1 => k_asm); (case k2 => k_asm); (case k3 => k_asm); (case k4 => k_asm); (case k5 => k_asm); (case kK => first | exact rfl | assumption); (case kd => ktr_room); (case ku => ktr_units); (case ki => (refine' MomIn.mk ?m1 ?m2; (case m1 => k_mem); (case m2 => k_mem)))); (case h1 => (first | assumption | omega | ((try dsimp only); omega) | ((try dsimp only); (simp (disch := decide) only [Int.fdiv_eq_ediv_of_nonneg, Int.fmod_eq_emod_of_nonneg]); omega) | trivial | (refine ⟨?_, ?_, ?_, ?_, ?_, ?_, ?_, ?_, ?_, ?_, ?_, ?_, ?_, ?_⟩ <;> first | assumption | omega) | decide | (exact decide_eq_true (by omega)) | k_extra "pre")); intro v9 h9 tk9 F9 N9 R9; (try dsimp only at R9); (obtain ⟨y9, t9, e9, hy9, hl9⟩ := R9); (subst e9); (try dsimp only); (try k_sweep); (try k_fold))
  trivial

theorem sl_ss {x : Str} {l : List Nat} (h : x.cps.toList = l) (i j : Int) (h0 : 0 ≤ i) (h1 : i ≤ j) (h2 : j ≤ l.length) : (Txt.slice x (some i) (some j)).cps.toList = (l.drop i.toNat).take (j - i).toNat := by
  have e := slice_closesL (x := x) (i := i) (j := j) h0 h1 (by rw [len_of h]; exact h2)
  rw [beq_iff_eq.mp e, h]
theorem sl_sn {x : Str} {l : List Nat} (h : x.cps.toList = l) (i : Int) (h0 : 0 ≤ i) (h1 : i ≤ l.length) : (Txt.slice x (some i) none).cps.toList = l.drop i.toNat := by
  rw [slice_from_eq (b := l.length) h0 (by rw [len_of h]; exact h1) (by rw [len_of h]), h]
  show List.take _ _ = _
  rw [List.take_of_length_le]
  rw [List.length_drop]
  omega
theorem dig_d2 {c n : Nat} (hn : n < 100) (hc : c ∈ d2 n) : 48 ≤ c ∧ c ≤ 57 := by simp [d2] at hc; omega
open PySem.NumText in
theorem int_d2 {x : Str} {n : Nat} (h : x.cps.toList = d2 n) (hn : n < 100) : PySem.intText? x = some (n : Int) := by
  have e := intText_digits (x := x) (by rw [h]; intro c hc; exact dig_d2 hn hc) (by rw [h]; simp [d2]) (by rw [len_of h]; exact Nat.le_of_ble_eq_true rfl)
  rw [e, h]
  have : digitsVal (d2 n) = n := by simp [digitsVal, d2]; omega
  rw [this]
theorem str_is {x : Str} {l : List Nat} (h : x.cps.toList = l) : x = ⟨l.toArray⟩ := Str.ext' (by rw [← Array.toList_inj, h])
theorem zone_in_c (w : World) (x : Str) (z : Int) (t : Tok) (hx : x.cps.toList = dZone z) (hz1 : -5999 ≤ z) (hz2 : z ≤ 5999) : Pur w 14 (.ref 284) [.str x t] (fun v => ∃ t, v = .int z t) := by
  (try unfold Pur)
  unfold Spc
  k_fill
  intro mean mg mb dp un gd cn cs aF ccd cl outer A₀ base h₀ LF mF news sF QF EF B F X N T hk hdp hun hin hret
  refine wpAny_call ?_
  k_dflt cell_enter
  (with_reducible rename Fr _ _ _ (fun nzy => List.lookup nzy _) => F0)
  replace F0 := fr_eq (m' := fun nzy => List.lookup nzy ([(Str.ofString "text", Value.str x t)] : List (Str × Value))) F0 (by kernel_rfl)
  have hl : x.length = 5 := len_of hx
  obtain ⟨hh, hhe⟩ : ∃ hh, hh = z.natAbs / 60 := ⟨_, rfl⟩
  obtain ⟨mm, hme⟩ : ∃ mm, mm = z.natAbs % 60 := ⟨_, rfl⟩
  have hh1 : hh < 100 := by omega
  have hm1 : mm < 60 := by omega
  have f1 : ¬ ((x.length : Int) ≠ 5) := by omega
  have hxe : ∀ sg, dZone z = sg :: (d2 hh ++ d2 mm) → x = ⟨#[sg, 48 + hh / 10, 48 + hh % 10, 48 + mm / 10, 48 + mm % 10]⟩ := fun sg e => str_is (hx.trans e)
  have hsg : dZone z = (if z < 0 then 45 else 43) :: (d2 hh ++ d2 mm) := by unfold dZone; rw [hhe, hme]
  have hxe := hxe _ hsg
  have hx' := hx.trans hsg
  have s1 : (Txt.slice x (some 1) none).cps.toList = d2 hh ++ d2 mm := sl_sn hx' 1 (by decide) (by simp [d2])
  have s2 : (Txt.slice x (some 3) none).cps.toList = d2 mm := sl_sn hx' 3 (by decide) (by simp [d2])
  have s3 : (Txt.slice x (some 1) (some 3)).cps.toList = d2 hh := sl_ss hx' 1 3 (by decide) (by decide) (by simp [d2])
  have s4 : Txt.item x 0 = ⟨#[if z < 0 then 45 else 43]⟩ := by rw [hxe]; rfl
  have f2 : (Builtin.Str.occurrences (Str.ofString "+-") (Txt.item x 0) 0 (Str.ofString "+-").length 1).isEmpty = false := by rw [s4]; split <;> decide +kernel
  have g1 : 1 ≤ (Txt.slice x (some 1) none).length := by rw [len_of s1]; exact Nat.le_of_ble_eq_true rfl
  have g2 : (Txt.slice x (some 1) none).length ≤ 100 := by rw [len_of s1]; exact Nat.le_of_ble_eq_true rfl
  have g3 : ∀ c ∈ (Txt.slice x (some 1) none).cps.toList, 48 ≤ c ∧ c ≤ 57 := by
    rw [s1]; intro c hc
    rcases List.mem_append.mp hc with hc | hc
    · exact dig_d2 hh1 hc
    · exact dig_d2 (by omega) hc
  have i1 := int_d2 s2 (by omega)
  have i2 := int_d2 s3 hh1
  have l1 : (Txt.slice x (some 3) none).length = 2 := len_of s2
  have l2 : (Txt.slice x (some 1) (some 3)).length = 2 := len_of s3
  by_cases hq : z < 0
  · have f3 : (Txt.item x 0 == Str.ofString "-") = true := by rw [s4, if_pos hq]; decide +kernel
    k_steps
    all_goals first | (exfalso; omega) | (refine' hret _ _ _ _ ?e2 ?e3 (⟨rfl, ktn_int (by omega)⟩); (case e2 => k_asm); (case e3 => (first | k_asm | (refine' news_drop ?cbN ?cbS; (case cbN => assumption); (case cbS => kcj_all)))))
  · have f3 : (Txt.item x 0 == Str.ofString "-") = false := by rw [s4, if_neg hq]; decide +kernel
    k_steps
    all_goals trace_state
    all_goals first | (exfalso; omega) | (refine' hret _ _ _ _ ?e2 ?e3 (⟨rfl, ktn_int (by omega)⟩); (case e2 => k_asm); (case e3 => (first | k_asm | (refine' news_drop ?cbN ?cbS; (case cbN => assumption); (case cbS => kcj_all)))))
theorem rows_51_64 : True := by
  k_with "eval Call Name" => (k_here; (with_reducible show wpAny _ _ (eval (Expr.Call (Expr.Name "zone_in" _) _ _ _) _) _ _ _); refine Call_ ?_)
  k_with "call ref" => (k_here; (with_reducible show wpAny _ _ (call (Value.ref 284) _) _ _ _); k_dflt (refine' pur_use (zone_in_c _ _ _ _ ?h1 ?h2 ?h3) ?k1 ?k2 ?k3 ?k4 ?k5 ?kK ?kd ?ku ?_; (case k1 => k_asm); (case k2 => k_asm); (case k3 => k_asm); (case k4 => k_asm); (case k5 => k_asm); (case kK => first | exact rfl | assumption); (case kd => ktr_room); (case ku => ktr_units)); (case h1 => (first | assumption | omega | ((try dsimp only); omega) | ((try dsimp only); (simp (disch := decide) only [Int.fdiv_eq_ediv_of_nonneg, Int.fmod_eq_emod_of_nonneg]); omega) | trivial | (refine ⟨?_, ?_, ?_, ?_, ?_, ?_, ?_, ?_, ?_, ?_, ?_, ?_, ?_, ?_⟩ <;> first | assumption | omega) | decide | (exact decide_eq_true (by omega)) | k_extra "pre")); (case h2 => (first | assumption | omega | ((try dsimp only); omega) | ((try dsimp only); (simp (disch := decide) only [Int.fdiv_eq_ediv_of_nonneg, Int.fmod_eq_emod_of_nonneg]); omega) | trivial | (refine ⟨?_, ?_, ?_, ?_, ?_, ?_, ?_, ?_, ?_, ?_, ?_, ?_, ?_, ?_⟩ <;> first | assumption | omega) | decide | (exact decide_eq_true (by omega)) | k_extra "pre")); (case h3 => (first | assumption | omega | ((try dsimp only); omega) | ((try dsimp only); (simp (disch := decide) only [Int.fdiv_eq_ediv_of_nonneg, Int.fmod_eq_emod_of_nonneg]); omega) | trivial | (refine ⟨?_, ?_, ?_, ?_, ?_, ?_, ?_, ?_, ?_, ?_, ?_, ?_, ?_, ?_⟩ <;> first | assumption | omega) | decide | (exact decide_eq_true (by omega)) | k_extra "pre")); intro v9 h9 tk9 F9 N9 R9; (try dsimp only at R9); (obtain ⟨t9, e9⟩ := R9); (subst e9); (try dsimp only); (try k_sweep); (try k_fold))
  trivial

open PySem.NumText in
theorem int_dDay {x : Str} {n : Nat} (h : x.cps.toList = dDay n) (hn : n < 100) : PySem.intText? x = some (n : Int) := by
  unfold dDay at h
  by_cases hq : n < 10
  · rw [if_pos hq] at h
    have e := intText_digits (x := x) (by rw [h]; intro c hc; simp at hc; omega) (by rw [h]; simp) (by rw [len_of h]; exact Nat.le_of_ble_eq_true rfl)
    rw [e, h]
    have : digitsVal [48 + n] = n := by simp [digitsVal]
    rw [this]
  · rw [if_neg hq] at h
    exact int_d2 h hn
theorem dig_d4 {c n : Nat} (hn : n < 10000) (hc : c ∈ d4 n) : 48 ≤ c ∧ c ≤ 57 := by simp [d4] at hc; omega
theorem dig_dDay {c n : Nat} (hn : n < 100) (hc : c ∈ dDay n) : 48 ≤ c ∧ c ≤ 57 := by
  unfold dDay at hc
  by_cases hq : n < 10
  · rw [if_pos hq] at hc; simp at hc; omega
  · rw [if_neg hq] at hc; exact dig_d2 hn hc
open PySem.NumText in
theorem int_d4 {x : Str} {n : Nat} (h : x.cps.toList = d4 n) (hn : n < 10000) : PySem.intText? x = some (n : Int) := by
  have e := intText_digits (x := x) (by rw [h]; intro c hc; exact dig_d4 hn hc) (by rw [h]; simp [d4]) (by rw [len_of h]; exact Nat.le_of_ble_eq_true rfl)
  rw [e, h]
  have : digitsVal (d4 n) = n := by simp [digitsVal, d4]; omega
  rw [this]
theorem monL_no : ∀ i : Fin 12, 45 ∉ monL i.val := by decide +kernel
theorem rows_52_65 : True := by
  k_with "call builtin:str.split" => (k_here; (with_reducible show wpAny _ _ (call (Value.builtin "str.split") _) _ _ _); (refine KSpl.split1 (by k_asm) (by k_asm) (by decide) ?_ (by rw [sizeLine_eq]; omega)); intro D' l' h' k' e' a' F' N' l1; (try k_lt l1); (have e2' := Eq.trans e' (by with_reducible assumption)); (clear e'); kspl_open e2'; (simp only [strValues, List.map_cons, List.map_nil] at N' a'))
  trivial
theorem day_in_c (w : World) (x : Str) (y mo d at_ : Int) (t u v : Tok) (hl : x.length = 26) (h0 : 0 ≤ at_) (h1 : at_ ≤ 1) (hs : (Txt.slice x (some at_) (some 11)).cps.toList = dDate y mo d)
    (hy1 : 1 ≤ y) (hy2 : y ≤ 9999) (hm1 : 1 ≤ mo) (hm2 : mo ≤ 12) (hd1 : 1 ≤ d) (hd2 : d ≤ mLen y mo) : Spc w 14 (.ref 390) [.str x t, .int at_ u, .int 11 v] (fun _ => True) (fun news v news' => ∃ r t1 t2 t3, v = .ref r ∧ news' = (r, { cls := .type "tuple", data := .seq #[.int y t1, .int mo t2, .int d t3] }) :: news ∧ AllLt r news) := by
  (try unfold Pur)
  unfold Spc
  k_fill
  intro mean mg mb dp un gd cn cs aF ccd cl outer A₀ base h₀ LF mF news sF QF EF B F X N T hk hdp hun hin hret
  refine wpAny_call ?_
  k_dflt cell_enter
  have hml := mLen_pos y mo
  have hdn : d.toNat < 100 := by omega
  have hyn : y.toNat < 10000 := by omega
  have hsl : (Txt.slice x (some at_) (some 11)).length ≤ 26 := hl ▸ Txt.slice_le x _ _
  obtain ⟨A, hA⟩ : ∃ A : Str, A = ⟨(dDay d.toNat).toArray⟩ := ⟨_, rfl⟩
  obtain ⟨B, hB⟩ : ∃ B : Str, B = MON.getD (mo - 1).toNat Str.empty := ⟨_, rfl⟩
  obtain ⟨C, hC⟩ : ∃ C : Str, C = ⟨(d4 y.toNat).toArray⟩ := ⟨_, rfl⟩
  have hsp : Txt.split (Txt.slice x (some at_) (some 11)) (Str.ofString "-") = [A, B, C] := by
    rw [show Str.ofString "-" = ⟨#[45]⟩ by decide +kernel, Cut.split3 (dDay d.toNat) (monL (mo - 1).toNat) (d4 y.toNat) hs (fun h => by have := dig_dDay hdn h; omega) (monL_no ⟨(mo - 1).toNat, by omega⟩) (fun h => by have := dig_d4 hyn h; omega) (by decide), hA, hB, hC]
    rfl
  have lA : A.length ≤ 2 := by rw [hA]; unfold dDay; split <;> exact Nat.le_of_ble_eq_true rfl
  have lA1 : 1 ≤ A.length := by rw [hA]; unfold dDay; split <;> exact Nat.le_of_ble_eq_true rfl
  have lC : C.length = 4 := by rw [hC]; rfl
  have lC1 : 1 ≤ C.length := by omega
  have lA2 : A.length ≤ 100 := by omega
  have lC2 : C.length ≤ 100 := by omega
  have gA : ∀ c ∈ A.cps.toList, 48 ≤ c ∧ c ≤ 57 := by rw [hA]; exact fun c hc => dig_dDay hdn (by simpa using hc)
  have gC : ∀ c ∈ C.cps.toList, 48 ≤ c ∧ c ≤ 57 := by rw [hC]; exact fun c hc => dig_d4 hyn (by simpa using hc)
  have iA : PySem.intText? A = some d := by
    have := int_dDay (x := A) (n := d.toNat) (by rw [hA]) hdn
    rwa [Int.toNat_of_nonneg (by omega)] at this
  have iC : PySem.intText? C = some y := by
    have := int_d4 (x := C) (n := y.toNat) (by rw [hC]) hyn
    rwa [Int.toNat_of_nonneg (by omega)] at this
  have mB : B ∈ MON := hB ▸ mon_mem _ (by omega)
  have eB : (((MON.map lowT).idxOf (lowT B) : Nat) : Int) + 1 = mo := by
    rw [hB]
    have := idx_mon ⟨(mo - 1).toNat, by omega⟩
    rw [this]; simp; omega
  k_steps
  all_goals first | (exfalso; omega) | trace_state
  refine' hret _ _ _ _ ?e2 ?e3 ⟨_, _, _, _, rfl, rfl, ?e4⟩
  case e2 => k_asm
  case e3 => refine' news_drop ?cbN ?cbS; (case cbN => assumption); (case cbS => exact List.forall_mem_cons.mpr ⟨by k_mem, fun p hp => by simp [hp]⟩)
  case e4 => exact (‹_ ∧ AllLt _ news›).2
theorem rows_52_66 : True := by
  k_with "eval Call Name" => (k_here; (with_reducible show wpAny _ _ (eval (Expr.Call (Expr.Name "day_in" _) _ _ _) _) _ _ _); refine Call_ ?_)
  k_with "call ref" => (k_here; (with_reducible show wpAny _ _ (call (Value.ref 390) _) _ _ _); k_dflt (refine' spc_use (day_in_c _ _ _ _ _ _ _ _ _ ?h1 ?h2 ?h3 ?h4 ?h5 ?h6 ?h7 ?h8 ?h9 ?h10) ?k1 ?k2 ?k3 ?k4 ?k5 ?kK ?kd ?ku ?ki ?_; (case k1 => k_asm); (case k2 => k_asm); (case k3 => k_asm); (case k4 => k_asm); (case k5 => k_asm); (case kK => first | exact rfl | assumption); (case kd => ktr_room); (case ku => ktr_units); (case ki => exact trivial)); (case h1 => (first | assumption | omega | ((try dsimp only); omega) | ((try dsimp only); (simp (disch := decide) only [Int.fdiv_eq_ediv_of_nonneg, Int.fmod_eq_emod_of_nonneg]); omega) | trivial | (refine ⟨?_, ?_, ?_, ?_, ?_, ?_, ?_, ?_, ?_, ?_, ?_, ?_, ?_, ?_⟩ <;> first | assumption | omega) | decide | (exact decide_eq_true (by omega)) | k_extra "pre")); (case h4 => (first | assumption | omega | ((try dsimp only); omega) | ((try dsimp only); (simp (disch := decide) only [Int.fdiv_eq_ediv_of_nonneg, Int.fmod_eq_emod_of_nonneg]); omega) | trivial | (refine ⟨?_, ?_, ?_, ?_, ?_, ?_, ?_, ?_, ?_, ?_, ?_, ?_, ?_, ?_⟩ <;> first | assumption | omega) | decide | (exact decide_eq_true (by omega)) | k_extra "pre")); (case h2 => (first | assumption | omega | ((try dsimp only); omega) | ((try dsimp only); (simp (disch := decide) only [Int.fdiv_eq_ediv_of_nonneg, Int.fmod_eq_emod_of_nonneg]); omega) | trivial | (refine ⟨?_, ?_, ?_, ?_, ?_, ?_, ?_, ?_, ?_, ?_, ?_, ?_, ?_, ?_⟩ <;> first | assumption | omega) | decide | (exact decide_eq_true (by omega)) | k_extra "pre")); (case h3 => (first | assumption | omega | ((try dsimp only); omega) | ((try dsimp only); (simp (disch := decide) only [Int.fdiv_eq_ediv_of_nonneg, Int.fmod_eq_emod_of_nonneg]); omega) | trivial | (refine ⟨?_, ?_, ?_, ?_, ?_, ?_, ?_, ?_, ?_, ?_, ?_, ?_, ?_, ?_⟩ <;> first | assumption | omega) | decide | (exact decide_eq_true (by omega)) | k_extra "pre")); (case h5 => (first | assumption | omega | ((try dsimp only); omega) | ((try dsimp only); (simp (disch := decide) only [Int.fdiv_eq_ediv_of_nonneg, Int.fmod_eq_emod_of_nonneg]); omega) | trivial | (refine ⟨?_, ?_, ?_, ?_, ?_, ?_, ?_, ?_, ?_, ?_, ?_, ?_, ?_, ?_⟩ <;> first | assumption | omega) | decide | (exact decide_eq_true (by omega)) | k_extra "pre")); (case h6 => (first | assumption | omega | ((try dsimp only); omega) | ((try dsimp only); (simp (disch := decide) only [Int.fdiv_eq_ediv_of_nonneg, Int.fmod_eq_emod_of_nonneg]); omega) | trivial | (refine ⟨?_, ?_, ?_, ?_, ?_, ?_, ?_, ?_, ?_, ?_, ?_, ?_, ?_, ?_⟩ <;> first | assumption | omega) | decide | (exact decide_eq_true (by omega)) | k_extra "pre")); (case h7 => (first | assumption | omega | ((try dsimp only); omega) | ((try dsimp only); (simp (disch := decide) only [Int.fdiv_eq_ediv_of_nonneg, Int.fmod_eq_emod_of_nonneg]); omega) | trivial | (refine ⟨?_, ?_, ?_, ?_, ?_, ?_, ?_, ?_, ?_, ?_, ?_, ?_, ?_, ?_⟩ <;> first | assumption | omega) | decide | (exact decide_eq_true (by omega)) | k_extra "pre")); (case h8 => (first | assumption | omega | ((try dsimp only); omega) | ((try dsimp only); (simp (disch := decide) only [Int.fdiv_eq_ediv_of_nonneg, Int.fmod_eq_emod_of_nonneg]); omega) | trivial | (refine ⟨?_, ?_, ?_, ?_, ?_, ?_, ?_, ?_, ?_, ?_, ?_, ?_, ?_, ?_⟩ <;> first | assumption | omega) | decide | (exact decide_eq_true (by omega)) | k_extra "pre")); (case h9 => (first | assumption | omega | ((try dsimp only); omega) | ((try dsimp only); (simp (disch := decide) only [Int.fdiv_eq_ediv_of_nonneg, Int.fmod_eq_emod_of_nonneg]); omega) | trivial | (refine ⟨?_, ?_, ?_, ?_, ?_, ?_, ?_, ?_, ?_, ?_, ?_, ?_, ?_, ?_⟩ <;> first | assumption | omega) | decide | (exact decide_eq_true (by omega)) | k_extra "pre")); (case h10 => (first | assumption | omega | ((try dsimp only); omega) | ((try dsimp only); (simp (disch := decide) only [Int.fdiv_eq_ediv_of_nonneg, Int.fmod_eq_emod_of_nonneg]); omega) | trivial | (refine ⟨?_, ?_, ?_, ?_, ?_, ?_, ?_, ?_, ?_, ?_, ?_, ?_, ?_, ?_⟩ <;> first | assumption | omega) | decide | (exact decide_eq_true (by omega)) | k_extra "pre")); intro v9 n9 h9 tk9 F9 N9 R9; (try dsimp only at R9); (obtain ⟨x9, t91, t92, t93, e9, en9, hl9⟩ := R9); (subst e9; subst en9; (try simp only [AllLt, and_true] at hl9)); (try dsimp only); (try k_sweep); (try k_fold))
  trivial

theorem it_at {x : Str} {l : List Nat} (h : x.cps.toList = l) (i : Nat) (hi : i < l.length) : Txt.item x (i : Int) = ⟨#[l[i]]⟩ := by
  have hl : x.cps.size = l.length := by rw [← Array.length_toList, h]
  unfold Txt.item Txt.charAt seqIndex?
  have e : x.cps[i]? = some l[i] := by rw [← Array.getElem?_toList, h, List.getElem?_eq_getElem hi]
  have h0 : ¬ ((i : Int) < 0) := by omega
  have h1 : 0 ≤ (i : Int) ∧ (i : Int) < (l.length : Int) := by omega
  simp only [Str.length, hl, h0, if_false, h1, and_self, if_true]
  simp [e]
section
variable {prog : Program} {w : World} {A : Around} {E : Value → Shared → Prop} {s : Shared} {h₀ : Heap} {L : Addr} {m : Str → Option Value} {env : Env}
/-- The turns of a comprehension with a test that takes no item. -/
theorem rest_none {ct elt : Expr} {x : Str} {scope : Scope} {cl : List (Str × Addr)} {Fin : List Value → List (Addr × Obj) → Prop} {news : List (Addr × Obj)} {S : List (Addr × Obj) → Prop} {its : Array Value} {P : Nat → Value → Prop} {n : Nat} (hP : ∀ i v, P i v → its[i]? = some v) (hS : S news)
    (turn : ∀ v I oI C oC D m₂ h tk (E' : Value → Shared → Prop), v ∈ its.toList → LCg.NsObj oC m₂ → m₂ x = some v → Fr h₀ L h m → News h₀ L h ((I, oI) :: (C, oC) :: (D, LCg.lst []) :: news) → LCg.Off3 I C D news → ((@Ne Nat I C) ∧ (@Ne Nat I D) ∧ (@Ne Nat C D)) →
      wpAny (model prog w) A (isTrue ct (compEnvC scope cl C env) (eval ct (compEnvC scope cl C env))) (fun ok s' => ok = false ∧ ∃ h' tk', s' = { s with heap := h', toks := tk' } ∧ Fr h₀ L h' m ∧ News h₀ L h' ((I, oI) :: (C, oC) :: (D, LCg.lst []) :: news)) E' { s with heap := h, toks := tk })
    (fin : Fin [] news) : LCt.CompRestT prog w A h₀ L m env ct elt x scope cl s S P Fin n 0 [] news := by
  have key : ∀ (j i : Nat), LCt.CompRestT prog w A h₀ L m env ct elt x scope cl s S P Fin j i [] news := by
    intro j
    induction j with
    | zero => intro i; exact LCt.CompRestT.zero fin
    | succ j ih =>
      intro i
      refine LCt.CompRestT.succ ?_
      intro v I oI C oC D m₂ h tk E' hv hC hx F N off ne
      refine wpAny_mono (turn v I oI C oC D m₂ h tk E' (by have := hP i v hv; rw [← Array.getElem?_toList] at this; exact List.mem_of_getElem? this) hC hx F N off ne) (fun ok s' hq => ?_) fun _ _ e => e
      obtain ⟨rfl, h', tk', rfl, F', N'⟩ := hq
      rw [if_neg Bool.false_ne_true]
      exact ⟨h', tk', news, rfl, F', N', off, hS, ih (i + 1)⟩
  exact key _ _
end
theorem const_join {M : Model} {A : Around} {E : Value → Shared → Prop} {s : Shared} {env : Env} {b : Bool} {k1 k2 : _} {p1 p2 : Pos} {Q : Value → Shared → Prop} (h : Q (.int (if b = true then 1 else 0) s.toks) { s with toks := s.toks + 1 }) :
    if b = true then wpAny M A (eval (.Constant (.int 1) k1 p1) env) Q E s else wpAny M A (eval (.Constant (.int 0) k2 p2) env) Q E s := by
  cases b with
  | true => exact wpAny_Constant_int h
  | false => exact wpAny_Constant_int h
theorem rows_53_67 : True := by
  k_with "ite" => ((with_reducible show ite (_ = true) (wpAny _ _ (eval (Expr.Constant (Const.int 1) _ _) _) _ _ _) (wpAny _ _ (eval (Expr.Constant (Const.int 0) _ _) _) _ _ _)); refine const_join ?_)
  k_with "exec Assign cons ListComp" => ((with_reducible show wpAny _ _ (exec (Stmt.Assign [Expr.Tuple _ _ _] (Expr.ListComp (Expr.Call (Expr.Name "int" _) _ _ _) _ _ _) _) _) _ _ _); k_dflt (walk_at "exec Assign"))
  k_with "eval ListComp" => ((with_reducible show wpAny _ _ (eval (Expr.ListComp (Expr.Call (Expr.Name "int" _) [Expr.Name "part" _] _ _) _ _ _) _) _ _ _); walk_at "NZ ECOMP")
  trivial
theorem allLt_tail {d : Addr} {news : List (Addr × Obj)} {a b c e f : Prop} (h : a ∧ b ∧ c ∧ e ∧ f ∧ AllLt d news) : AllLt d news := h.2.2.2.2.2
theorem read_internal_c (w : World) (x : Str) (t : Tok) (y mo d h mi s z : Int) (hv : Valid y mo d h mi s z) (hx : x.cps.toList = dInt y mo d h mi s z) : Spc w 20 (.ref 395) [.str x t] (fun _ => True)
    (fun news v news' => MomNew w y mo d h mi s z news v news') := by
  (try unfold Pur)
  unfold Spc
  k_fill
  intro mean mg mb dp un gd cn cs aF ccd cl outer A₀ base h₀ LF mF news sF QF EF B F X N T hk hdp hun hin hret
  refine wpAny_call ?_
  k_dflt cell_enter
  (with_reducible rename Fr _ _ _ (fun nzy => List.lookup nzy _) => F0)
  replace F0 := fr_eq (m' := fun nzy => List.lookup nzy ([(Str.ofString "text", Value.str x t)] : List (Str × Value))) F0 (by kernel_rfl)
  have hv' := hv
  have hml := mLen_pos y mo
  obtain ⟨hy1, hy2, hm1, hm2, hd1, hd2, hh1, hh2, hi1, hi2, hs1, hs2, hz1, hz2⟩ := hv'
  obtain ⟨m1, m2, m3, hm⟩ : ∃ m1 m2 m3, monL (mo - 1).toNat = [m1, m2, m3] := by
    have : ∀ i : Fin 12, ∃ m1 m2 m3, monL i.val = [m1, m2, m3] := by
      intro i
      have hl : (monL i.val).length = 3 := monL_len i
      match hq : monL i.val, hl with
      | [a, b, c], _ => exact ⟨a, b, c, rfl⟩
    exact this ⟨(mo - 1).toNat, by omega⟩
  obtain ⟨a0, a1, ha⟩ : ∃ a0 a1, (if d < 10 then [32] else []) ++ dDay d.toNat = [a0, a1] ∧ (d < 10 → a0 = 32) ∧ (¬ d < 10 → a0 ≠ 32) := by
    unfold dDay d2
    by_cases hq : d < 10
    · rw [if_pos hq, if_pos (by omega)]; exact ⟨_, _, rfl, fun _ => rfl, fun h => absurd hq h⟩
    · rw [if_neg hq, if_neg (by omega)]; exact ⟨_, _, rfl, fun h => absurd h hq, fun _ => by omega⟩
  obtain ⟨ha, ha1, ha2⟩ := ha
  have hxl : x.cps.toList = a0 :: a1 :: 45 :: m1 :: m2 :: m3 :: 45 :: (d4 y.toNat ++ 32 :: (d2 h.toNat ++ 58 :: (d2 mi.toNat ++ 58 :: (d2 s.toNat ++ 32 :: dZone z)))) := by
    rw [hx]; unfold dInt dDate dClock
    rw [hm, ← List.append_assoc, ← List.append_assoc, ha]; rfl
  have hl : x.length = 26 := len_of hxl
  have f0 : Txt.item x 0 = ⟨#[a0]⟩ := it_at hxl 0 (by simp)
  have f2 : Txt.item x 2 = ⟨#[45]⟩ := it_at hxl 2 (by simp)
  have f11 : Txt.item x 11 = ⟨#[32]⟩ := it_at hxl 11 (by simp [d4] <;> omega)
  have f20 : Txt.item x 20 = ⟨#[32]⟩ := it_at hxl 20 (by simp [d4, d2] <;> omega)
  have g2 : (Txt.item x 2 != Str.ofString "-") = false := by rw [f2]; decide +kernel
  have g11 : (Txt.item x 11 != Str.ofString " ") = false := by rw [f11]; decide +kernel
  have g20 : (Txt.item x 20 != Str.ofString " ") = false := by rw [f20]; decide +kernel
  have z1 : (Txt.slice x (some 21) none).cps.toList = dZone z := sl_sn hxl 21 (by decide) (by simp [d4, d2] <;> omega)
  have c1 : (Txt.slice x (some 12) (some 20)).cps.toList = d2 h.toNat ++ 58 :: (d2 mi.toNat ++ 58 :: d2 s.toNat) := sl_ss hxl 12 20 (by decide) (by decide) (by simp [d4, d2] <;> omega)
  have cl : (Txt.slice x (some 12) (some 20)).length = 8 := len_of c1
  obtain ⟨A, hA⟩ : ∃ A : Str, A = ⟨(d2 h.toNat).toArray⟩ := ⟨_, rfl⟩
  obtain ⟨B, hB⟩ : ∃ B : Str, B = ⟨(d2 mi.toNat).toArray⟩ := ⟨_, rfl⟩
  obtain ⟨C, hC⟩ : ∃ C : Str, C = ⟨(d2 s.toNat).toArray⟩ := ⟨_, rfl⟩
  have hsp : Txt.split (Txt.slice x (some 12) (some 20)) (Str.ofString ":") = [A, B, C] := by
    rw [show Str.ofString ":" = ⟨#[58]⟩ by decide +kernel, Cut.split3 _ _ _ c1 (fun h => by have := dig_d2 (by omega) h; omega) (fun h => by have := dig_d2 (by omega) h; omega) (fun h => by have := dig_d2 (by omega) h; omega) (by decide), hA, hB, hC]
  have lA : A.length = 2 := by rw [hA]; rfl
  have lB : B.length = 2 := by rw [hB]; rfl
  have lC : C.length = 2 := by rw [hC]; rfl
  have gA : ∀ c ∈ A.cps.toList, 48 ≤ c ∧ c ≤ 57 := by rw [hA]; exact fun c hc => dig_d2 (n := h.toNat) (by omega) (by simpa using hc)
  have gB : ∀ c ∈ B.cps.toList, 48 ≤ c ∧ c ≤ 57 := by rw [hB]; exact fun c hc => dig_d2 (n := mi.toNat) (by omega) (by simpa using hc)
  have gC : ∀ c ∈ C.cps.toList, 48 ≤ c ∧ c ≤ 57 := by rw [hC]; exact fun c hc => dig_d2 (n := s.toNat) (by omega) (by simpa using hc)
  have iA : PySem.intText? A = some h := by
    have := int_d2 (x := A) (n := h.toNat) (by rw [hA]) (by omega)
    rwa [Int.toNat_of_nonneg (by omega)] at this
  have iB : PySem.intText? B = some mi := by
    have := int_d2 (x := B) (n := mi.toNat) (by rw [hB]) (by omega)
    rwa [Int.toNat_of_nonneg (by omega)] at this
  have iC : PySem.intText? C = some s := by
    have := int_d2 (x := C) (n := s.toNat) (by rw [hC]) (by omega)
    rwa [Int.toNat_of_nonneg (by omega)] at this
  have d26 : (((x.length : Nat) : Int) != 26) = false := by rw [hl]; rfl
  have dA : (((A.length : Nat) : Int) != 2) = false := by rw [lA]; rfl
  have dB : (((B.length : Nat) : Int) != 2) = false := by rw [lB]; rfl
  have dC : (((C.length : Nat) : Int) != 2) = false := by rw [lC]; rfl
  obtain ⟨at9, hat9⟩ : ∃ at9 : Int, at9 = if (Txt.item x 0 == Str.ofString " ") = true then 1 else 0 := ⟨_, rfl⟩
  have hs0 : 0 ≤ at9 ∧ at9 ≤ 1 ∧ (Txt.slice x (some at9) (some 11)).cps.toList = dDate y mo d := by
    by_cases hq : d < 10
    · have g0 : (Txt.item x 0 == Str.ofString " ") = true := by rw [f0, ha1 hq]; decide +kernel
      rw [g0, if_pos rfl] at hat9
      subst hat9
      refine ⟨by decide, by decide, ?_⟩
      rw [if_pos hq] at ha
      have e1 : a0 = 32 ∧ dDay d.toNat = [a1] := by simpa [eq_comm] using ha
      refine (sl_ss hxl 1 11 (by decide) (by decide) (by simp [d4] <;> omega)).trans ?_
      unfold dDate; rw [e1.2, hm]; rfl
    · have g0 : (Txt.item x 0 == Str.ofString " ") = false := by
        rw [f0, show Str.ofString " " = ⟨#[32]⟩ by decide +kernel]
        have := ha2 hq
        simp [this]
      rw [g0, if_neg (by decide)] at hat9
      subst hat9
      refine ⟨by decide, by decide, ?_⟩
      rw [if_neg hq] at ha
      refine (sl_ss hxl 0 11 (by decide) (by decide) (by simp [d4] <;> omega)).trans ?_
      unfold dDate; rw [show dDay d.toNat = [a0, a1] from ha, hm]; rfl
  obtain ⟨hs1', hs2', hs⟩ := hs0
  clear ha ha1 ha2 f0 hx
  k_with "storeName" => ((with_reducible show wpAny _ _ (storeName _ (Str.ofString "begun") (Value.int (ite _ _ _) _)) _ _ _); rw [← hat9])
  k_with "eval ListComp" => ((with_reducible show wpAny _ _ (eval (Expr.ListComp (Expr.Name "part" _) _ _ _) _) _ _ _); k_dflt (refine LCt.ListComp_T (F₀ := by k_asm) (by with_unfolding_all rfl) (by decide) (by rfl) (by decide) (by rfl) ?_))
  k_with "CompSrcT" => (k_dflt (refine LCt.CompSrcT.ledger (by rfl) (by k_asm) (by k_asm) (by k_mem) (by exact Nat.le_of_ble_eq_true rfl) ?_; intro g'; refine hold ?_))
  k_steps
  refine unhold ?_
  have hall : ∀ (ta tb tc : Tok), ∀ v ∈ [Value.str A ta, Value.str B tb, Value.str C tc], ∃ S t, v = Value.str S t ∧ S.length = 2 ∧ (((S.length : Nat) : Int) != 2) = false ∧ ∀ c ∈ S.cps.toList, 48 ≤ c ∧ c ≤ 57 :=
    fun _ _ _ => List.forall_mem_cons.mpr ⟨⟨_, _, rfl, lA, dA, gA⟩, List.forall_mem_cons.mpr ⟨⟨_, _, rfl, lB, dB, gB⟩, List.forall_mem_cons.mpr ⟨⟨_, _, rfl, lC, dC, gC⟩, fun _ h => nomatch h⟩⟩⟩
  refine rest_none (fun i v h => h) (.inr ⟨_, by k_mem, rfl, _, rfl⟩) ?_ ?_
  · intro v I oI C oC D m₂ h tk E' hv hC hx F N off ne
    obtain ⟨S, t, rfl, q1, q2, q3⟩ := hall _ _ _ v hv
    clear hall
    k_fold
    have q4 : 1 ≤ S.length := by omega
    have q5 : S.length ≤ 100 := by omega
    k_steps
    all_goals first | k_asm | trace_state
  clear hall
  k_steps
  k_dflt (refine' GSrc.lst ?a1 ?a2 ?a3 ?a4 ?a5 ?_; (case a1 => rfl); (case a2 => k_asm); (case a3 => k_asm); (case a4 => exact ⟨_, by k_mem, rfl, _, rfl⟩); (case a5 => exact Nat.le_of_ble_eq_true rfl))
  intro g'
  refine rest_items [h, mi, s] (fun k v => ∃ S t, v = .str S t ∧ S.length = 2 ∧ (∀ c ∈ S.cps.toList, 48 ≤ c ∧ c ≤ 57) ∧ PySem.intText? S = some k) (fun k v => ∃ t, v = .int k t) ⟨_, by k_mem, rfl, _, rfl⟩ (.cons ⟨_, _, rfl, lA, gA, iA⟩ (.cons ⟨_, _, rfl, lB, gB, iB⟩ (.cons ⟨_, _, rfl, lC, gC, iC⟩ .nil))) ?_ ?_
  · intro d' v I oI C oC D m₂ ys h tk E' hd hv hC hx F N off ne
    obtain ⟨S, t, rfl, q1, q2, q3⟩ := hv
    k_fold
    have q5 : S.length ≤ 100 := by omega
    k_steps
    all_goals first | k_asm | trace_state
  · intro ys hy
    obtain _ | ⟨⟨ta, rfl⟩, _ | ⟨⟨tb, rfl⟩, _ | ⟨⟨tc, rfl⟩, _ | _⟩⟩⟩ := hy
    k_steps
    refine' hret _ _ _ _ ?e2 ?e3 (MomNew.mk ?e4 ?e5)
    case e2 => k_asm
    case e3 => refine' news_drop ?cbN ?cbS; (case cbN => assumption); (case cbS => exact List.forall_mem_cons.mpr ⟨by k_mem, List.forall_mem_cons.mpr ⟨by k_mem, fun p hp => by simp [hp]⟩⟩)
    case e4 => (have q9 := hl9; (repeat (first | exact q9 | replace q9 := q9.2)))
    case e5 => assumption
theorem rows_53_68 : True := by
  k_with_none
  k_with "NZ LOOK" => ((repeat (first | exact if_hit | refine if_miss (by kernel_rfl) ?_ | exact lk_hit | refine lk_miss (by kernel_rfl) ?_ | assumption)); done)
  k_with "ite" => (k_closed; first | (with_reducible refine ite_neg Bool.false_ne_true ?_) | (with_reducible refine ite_pos rfl ?_) | (with_reducible refine ite_neg (by decide +kernel) ?_) | (with_reducible refine ite_pos (by decide +kernel) ?_))
  k_with "subscriptTail" => ((with_reducible show wpAny _ _ (subscriptTail (Expr.Attribute _ _ _) _ _ _) _ _ _); walk_at "last subscriptTail")
  k_with "NZ SUB" => (intro p9 hp9; (repeat (first | exact hp9 | exact List.mem_append_left _ hp9 | (refine (‹∀ p : Addr × Obj, p ∈ _ → p ∈ _› p9 ?_); exact hp9) | refine List.Mem.tail _ ?_)))
  k_with "eval Name" => (k_here; (with_reducible rename Fr _ _ _ _ => kF); with_reducible (refine' nameX_K kF ?nzX ?nzT ?nze ?_ ?nzk ?nza ?nzb; (case nzX => assumption); (case nzT => k_asm); (case nze => k_is); (case nzk => first | exact rfl | assumption); (case nza => kernel_rfl); (case nzb => kernel_rfl); k_whole))
  k_with "eval Name" => (k_here; (with_reducible rename Fr _ _ _ _ => kF); with_reducible (refine' nameX_L kF ?nzv ?_ ?nzk ?nza ?nzb; (case nza => kernel_rfl!); (case nzv => walk_at "NZ LOOK"); (case nzk => first | exact rfl | assumption); (case nzb => kernel_rfl); k_whole))
  k_with "callWith ref" => (k_here; with_reducible (refine' cw_some ?nzx ?nzk ?_ ?nzhe ?nzhp; (case nzx => assumption); (case nzk => k_is); (case nzhe => kernel_rfl); (case nzhp => kernel_rfl); k_whole))
  k_with "callWith ref" => (k_here; with_reducible (refine' cw_none ?nzx ?nzF ?nzk ?_; (case nzx => assumption); (case nzF => assumption); (case nzk => k_is); k_whole))
  k_with "CompEnd" => (k_dflt (refine' end_same ?a1 ?a2 ?a3 ?a4 ?_; (case a1 => k_asm); (case a2 => k_asm); (case a3 => assumption); (case a4 => lcg_src)))
  k_with "NZ TUP" => (k_dflt (refine' GSrc.tup ?a1 ?a2 ?a3 ?a4 ?a5 ?_; (case a1 => rfl); (case a2 => k_asm); (case a3 => k_asm); (case a4 => first | exact Or.inr ⟨_, by k_mem, rfl, _, rfl⟩ | exact Or.inl (by assumption)); (case a5 => first | exact Nat.le_of_ble_eq_true rfl | size_fits)); intro g')
  k_with "NZ TURN" => (refine ⟨_, _, rfl, by k_asm, by (first | k_asm | (refine' news_drop ?cbN ?cbS; (case cbN => assumption); (case cbS => kcj_all))), ?_⟩)
  k_with "NZ ACOMP" => (k_here; k_dflt (refine Assign_ListComp_G (by k_asm) (by rfl) (by with_unfolding_all rfl) (by rfl) (by decide) (by rfl) (by decide) (by rfl) (by rfl) (by rfl) ?_))
  k_with "NZ ECOMP" => (k_here; k_dflt (refine ListComp_G (by k_asm) (by rfl) (by decide) (by rfl) (by decide) (by rfl) ?_))
  k_with "compareOp In int" => (k_here; (with_reducible show wpAny _ _ (compareOp CmpOp.In (Value.int _ _) (Value.bytes _ _)) _ _ _); (refine By.int_in_bytes (by omega) (by omega) ?_))
  k_with "compareOp In bytes" => (k_here; (with_reducible show wpAny _ _ (compareOp CmpOp.In (Value.bytes _ _) (Value.bytes _ _)) _ _ _); k_dflt (refine' By.bytes_in_bytes ?k1 ?k2 ?k3 ?_; (case k1 => rfl); (case k2 => k_asm); (case k3 => k_asm)); intro h9 tk9 F9 N9; (try k_sweep))
  k_with "exec Assign cons ListComp" => ((with_reducible show wpAny _ _ (exec (Stmt.Assign _ (Expr.ListComp (Expr.Call (Expr.Name "int" _) [Expr.Name "cell" _] _ _) _ _ _) _) _) _ _ _); walk_at "NZ ACOMP")
  k_with "call ref" => (k_here; (with_reducible show wpAny _ _ (call (Value.ref 407) _) _ _ _); k_dflt (refine' spcl_use (law_box_c _ _ _ _ ?h1 ?h2) ?k1 ?k2 ?k3 ?k4 ?k5 ?kK ?kd ?ku ?ki ?kL ?_; (case k1 => k_asm); (case k2 => k_asm); (case k3 => k_asm); (case k4 => k_asm); (case k5 => k_asm); (case kK => first | exact rfl | assumption); (case kd => ktr_room); (case ku => ktr_units); (case ki => exact trivial)); (case kL => with_reducible assumption); (case h1 => with_reducible assumption); (case h2 => omega); intro v9 n9 h9 tk9 F9 N9 R9; (try dsimp only at R9); (obtain ⟨p9, c9, ys9, ks9, cap9, cap29, g9, st9, t91, t92, t93, e9, en9, hy9, hk9, hg90, hg91, hs90, hs91, hcp9, hl9, ho9⟩ := R9); (subst e9; subst en9); (try simp only [AllLt, and_true] at hl9); (try simp only [LCg.Off1, and_true] at ho9); (try dsimp only); (try k_sweep); (try k_fold))
  k_with "call ref" => (k_here; (with_reducible show wpAny _ _ (call (Value.ref 414) _) _ _ _); (try walk_at "NZ SPLIT"); k_dflt (refine' draw_use ?k1 ?k2 ?k3 ?k4 ?k5 ?kK ?kd ?ku ?h1 ?h2 ?h3 ?h4 ?h5 ?h6 ?h7 ?h8 ?h9 ?h10 ?h11 ?h12 ?h13 ?_; (case k1 => k_asm); (case k2 => k_asm); (case k3 => k_asm); (case k4 => k_asm); (case k5 => k_asm); (case kK => first | exact rfl | assumption); (case kd => ktr_room); (case ku => ktr_units)); (case h1 => intro o9; k_upd); (case h2 => k_dflt k_mem); (case h3 => k_ne); (case h4 => with_reducible assumption); (case h5 => with_reducible assumption); (case h6 => with_reducible first | assumption | decide); (case h7 => with_reducible assumption); (case h8 => with_reducible assumption); (case h9 => with_reducible assumption); (case h10 => omega); (case h11 => omega); (case h12 => decide); (case h13 => decide); intro k9 t9 g9 st9 cap9 t91 t92 t93 h9 tk9 F9 N9 hk90 hk91 hg90 hg91 hs90 hs91; (try dsimp only at N9); (try dsimp only); (try k_sweep); (try k_fold))
  k_with "eval Call Name" => (k_here; (with_reducible show wpAny _ _ (eval (Expr.Call (Expr.Name "is_atom_code" _) _ _ _) _) _ _ _); refine Call_ ?_)
  k_with "call ref" => (k_here; (with_reducible show wpAny _ _ (call (Value.ref 74) _) _ _ _); k_dflt (refine' pur_use (is_atom_code_c _ _ _ ?h1) ?k1 ?k2 ?k3 ?k4 ?k5 ?kK ?kd ?ku ?_; (case k1 => k_asm); (case k2 => k_asm); (case k3 => k_asm); (case k4 => k_asm); (case k5 => k_asm); (case kK => first | exact rfl | assumption); (case kd => ktr_room); (case ku => ktr_units)); (case h1 => (first | assumption | omega | ((try dsimp only); omega) | ((try dsimp only); (simp (disch := decide) only [Int.fdiv_eq_ediv_of_nonneg, Int.fmod_eq_emod_of_nonneg]); omega) | trivial | (refine ⟨?_, ?_, ?_, ?_, ?_, ?_, ?_, ?_, ?_, ?_, ?_, ?_, ?_, ?_⟩ <;> first | assumption | omega) | decide | (exact decide_eq_true (by omega)) | k_extra "pre")); intro v9 h9 tk9 F9 N9 R9; (try dsimp only at R9); (subst R9); (try dsimp only); (try k_sweep); (try k_fold))
  k_with "eval Call Name" => (k_here; (with_reducible show wpAny _ _ (eval (Expr.Call (Expr.Name "line_end" _) _ _ _) _) _ _ _); refine Call_ ?_)
  k_with "call ref" => (k_here; (with_reducible show wpAny _ _ (call (Value.ref 81) _) _ _ _); k_dflt (refine' pur_use (line_end_c _ _ _ _ _ _ ?h1 ?h2 ?h3 ?h4 ?h5 ?h6) ?k1 ?k2 ?k3 ?k4 ?k5 ?kK ?kd ?ku ?_; (case k1 => k_asm); (case k2 => k_asm); (case k3 => k_asm); (case k4 => k_asm); (case k5 => k_asm); (case kK => first | exact rfl | assumption); (case kd => ktr_room); (case ku => ktr_units)); (case h1 => (first | assumption | omega | ((try dsimp only); omega) | ((try dsimp only); (simp (disch := decide) only [Int.fdiv_eq_ediv_of_nonneg, Int.fmod_eq_emod_of_nonneg]); omega) | trivial | (refine ⟨?_, ?_, ?_, ?_, ?_, ?_, ?_, ?_, ?_, ?_, ?_, ?_, ?_, ?_⟩ <;> first | assumption | omega) | decide | (exact decide_eq_true (by omega)) | k_extra "pre")); (case h2 => (first | assumption | omega | ((try dsimp only); omega) | ((try dsimp only); (simp (disch := decide) only [Int.fdiv_eq_ediv_of_nonneg, Int.fmod_eq_emod_of_nonneg]); omega) | trivial | (refine ⟨?_, ?_, ?_, ?_, ?_, ?_, ?_, ?_, ?_, ?_, ?_, ?_, ?_, ?_⟩ <;> first | assumption | omega) | decide | (exact decide_eq_true (by omega)) | k_extra "pre")); (case h3 => (first | assumption | omega | ((try dsimp only); omega) | ((try dsimp only); (simp (disch := decide) only [Int.fdiv_eq_ediv_of_nonneg, Int.fmod_eq_emod_of_nonneg]); omega) | trivial | (refine ⟨?_, ?_, ?_, ?_, ?_, ?_, ?_, ?_, ?_, ?_, ?_, ?_, ?_, ?_⟩ <;> first | assumption | omega) | decide | (exact decide_eq_true (by omega)) | k_extra "pre")); (case h4 => (first | assumption | omega | ((try dsimp only); omega) | ((try dsimp only); (simp (disch := decide) only [Int.fdiv_eq_ediv_of_nonneg, Int.fmod_eq_emod_of_nonneg]); omega) | trivial | (refine ⟨?_, ?_, ?_, ?_, ?_, ?_, ?_, ?_, ?_, ?_, ?_, ?_, ?_, ?_⟩ <;> first | assumption | omega) | decide | (exact decide_eq_true (by omega)) | k_extra "pre")); (case h5 => (first | assumption | omega | ((try dsimp only); omega) | ((try dsimp only); (simp (disch := decide) only [Int.fdiv_eq_ediv_of_nonneg, Int.fmod_eq_emod_of_nonneg]); omega) | trivial | (refine ⟨?_, ?_, ?_, ?_, ?_, ?_, ?_, ?_, ?_, ?_, ?_, ?_, ?_, ?_⟩ <;> first | assumption | omega) | decide | (exact decide_eq_true (by omega)) | k_extra "pre")); (case h6 => (first | assumption | omega | ((try dsimp only); omega) | ((try dsimp only); (simp (disch := decide) only [Int.fdiv_eq_ediv_of_nonneg, Int.fmod_eq_emod_of_nonneg]); omega) | trivial | (refine ⟨?_, ?_, ?_, ?_, ?_, ?_, ?_, ?_, ?_, ?_, ?_, ?_, ?_, ?_⟩ <;> first | assumption | omega) | decide | (exact decide_eq_true (by omega)) | k_extra "pre")); intro v9 h9 tk9 F9 N9 R9; (try dsimp only at R9); (obtain ⟨t9, e9⟩ := R9); (subst e9); (try dsimp only); (try k_sweep); (try k_fold))
  k_with "eval Call Name" => (k_here; (with_reducible show wpAny _ _ (eval (Expr.Call (Expr.Name "past_white" _) _ _ _) _) _ _ _); refine Call_ ?_)
  k_with "call ref" => (k_here; (with_reducible show wpAny _ _ (call (Value.ref 123) _) _ _ _); k_dflt (refine' pur_use (past_white_c _ _ _ _ _ _ _ ?h1 ?h2) ?k1 ?k2 ?k3 ?k4 ?k5 ?kK ?kd ?ku ?_; (case k1 => k_asm); (case k2 => k_asm); (case k3 => k_asm); (case k4 => k_asm); (case k5 => k_asm); (case kK => first | exact rfl | assumption); (case kd => ktr_room); (case ku => ktr_units)); (case h1 => (first | assumption | omega | ((try dsimp only); omega) | ((try dsimp only); (simp (disch := decide) only [Int.fdiv_eq_ediv_of_nonneg, Int.fmod_eq_emod_of_nonneg]); omega) | trivial | (refine ⟨?_, ?_, ?_, ?_, ?_, ?_, ?_, ?_, ?_, ?_, ?_, ?_, ?_, ?_⟩ <;> first | assumption | omega) | decide | (exact decide_eq_true (by omega)) | k_extra "pre")); (case h2 => (first | assumption | omega | ((try dsimp only); omega) | ((try dsimp only); (simp (disch := decide) only [Int.fdiv_eq_ediv_of_nonneg, Int.fmod_eq_emod_of_nonneg]); omega) | trivial | (refine ⟨?_, ?_, ?_, ?_, ?_, ?_, ?_, ?_, ?_, ?_, ?_, ?_, ?_, ?_⟩ <;> first | assumption | omega) | decide | (exact decide_eq_true (by omega)) | k_extra "pre")); intro v9 h9 tk9 F9 N9 R9; (try dsimp only at R9); (obtain ⟨t9, e9⟩ := R9); (subst e9); (try dsimp only); (try k_sweep); (try k_fold))
  k_with "eval Call Name" => (k_here; (with_reducible show wpAny _ _ (eval (Expr.Call (Expr.Name "atom_at" _) _ _ _) _) _ _ _); refine Call_ ?_)
  k_with "call ref" => (k_here; (with_reducible show wpAny _ _ (call (Value.ref 109) _) _ _ _); k_dflt (refine' spc_use (atom_at_c _ _ _ _ _ _ _ ?h1 ?h2) ?k1 ?k2 ?k3 ?k4 ?k5 ?kK ?kd ?ku ?ki ?_; (case k1 => k_asm); (case k2 => k_asm); (case k3 => k_asm); (case k4 => k_asm); (case k5 => k_asm); (case kK => first | exact rfl | assumption); (case kd => ktr_room); (case ku => ktr_units); (case ki => exact trivial)); (case h1 => (first | assumption | omega | ((try dsimp only); omega) | ((try dsimp only); (simp (disch := decide) only [Int.fdiv_eq_ediv_of_nonneg, Int.fmod_eq_emod_of_nonneg]); omega) | trivial | (refine ⟨?_, ?_, ?_, ?_, ?_, ?_, ?_, ?_, ?_, ?_, ?_, ?_, ?_, ?_⟩ <;> first | assumption | omega) | decide | (exact decide_eq_true (by omega)) | k_extra "pre")); (case h2 => (first | assumption | omega | ((try dsimp only); omega) | ((try dsimp only); (simp (disch := decide) only [Int.fdiv_eq_ediv_of_nonneg, Int.fmod_eq_emod_of_nonneg]); omega) | trivial | (refine ⟨?_, ?_, ?_, ?_, ?_, ?_, ?_, ?_, ?_, ?_, ?_, ?_, ?_, ?_⟩ <;> first | assumption | omega) | decide | (exact decide_eq_true (by omega)) | k_extra "pre")); intro v9 n9 h9 tk9 F9 N9 R9; (try dsimp only at R9); (obtain ⟨x9, t91, t92, e9, en9, hl9⟩ := R9); (subst e9; subst en9; (try simp only [AllLt, and_true] at hl9)); (try dsimp only); (try k_sweep); (try k_fold))
  k_with "eval Call Name" => (k_here; (with_reducible show wpAny _ _ (eval (Expr.Call (Expr.Name "token_at" _) _ _ _) _) _ _ _); refine Call_ ?_)
  k_with "call ref" => (k_here; (with_reducible show wpAny _ _ (call (Value.ref 116) _) _ _ _); k_dflt (refine' spc_use (token_a_c _ _ _ _ _ _ _ ?h1 ?h2) ?k1 ?k2 ?k3 ?k4 ?k5 ?kK ?kd ?ku ?ki ?_; (case k1 => k_asm); (case k2 => k_asm); (case k3 => k_asm); (case k4 => k_asm); (case k5 => k_asm); (case kK => first | exact rfl | assumption); (case kd => ktr_room); (case ku => ktr_units); (case ki => exact trivial)); (case h1 => (first | assumption | omega | ((try dsimp only); omega) | ((try dsimp only); (simp (disch := decide) only [Int.fdiv_eq_ediv_of_nonneg, Int.fmod_eq_emod_of_nonneg]); omega) | trivial | (refine ⟨?_, ?_, ?_, ?_, ?_, ?_, ?_, ?_, ?_, ?_, ?_, ?_, ?_, ?_⟩ <;> first | assumption | omega) | decide | (exact decide_eq_true (by omega)) | k_extra "pre")); (case h2 => (first | assumption | omega | ((try dsimp only); omega) | ((try dsimp only); (simp (disch := decide) only [Int.fdiv_eq_ediv_of_nonneg, Int.fmod_eq_emod_of_nonneg]); omega) | trivial | (refine ⟨?_, ?_, ?_, ?_, ?_, ?_, ?_, ?_, ?_, ?_, ?_, ?_, ?_, ?_⟩ <;> first | assumption | omega) | decide | (exact decide_eq_true (by omega)) | k_extra "pre")); intro v9 n9 h9 tk9 F9 N9 R9; (try dsimp only at R9); (obtain ⟨x9, y9, t91, t92, t93, t94, e9, en9, hl9, hm9⟩ := R9); (subst e9; subst en9; (try simp only [AllLt, and_true] at hl9); (replace hm9 := ltN hm9)); (try dsimp only); (try k_sweep); (try k_fold))
  k_with "eval Call Name" => (k_here; (with_reducible show wpAny _ _ (eval (Expr.Call (Expr.Name "token_at" _) _ _ _) _) _ _ _); refine Call_ ?_)
  k_with "call ref" => (k_here; (with_reducible show wpAny _ _ (call (Value.ref 116) _) _ _ _); k_dflt (refine' spc_use (token_s_c _ _ _ _ _ _ _ _ ?h1 ?h2) ?k1 ?k2 ?k3 ?k4 ?k5 ?kK ?kd ?ku ?ki ?_; (case k1 => k_asm); (case k2 => k_asm); (case k3 => k_asm); (case k4 => k_asm); (case k5 => k_asm); (case kK => first | exact rfl | assumption); (case kd => ktr_room); (case ku => ktr_units); (case ki => exact trivial)); (case h1 => (first | assumption | omega | ((try dsimp only); omega) | ((try dsimp only); (simp (disch := decide) only [Int.fdiv_eq_ediv_of_nonneg, Int.fmod_eq_emod_of_nonneg]); omega) | trivial | (refine ⟨?_, ?_, ?_, ?_, ?_, ?_, ?_, ?_, ?_, ?_, ?_, ?_, ?_, ?_⟩ <;> first | assumption | omega) | decide | (exact decide_eq_true (by omega)) | k_extra "pre")); (case h2 => (first | assumption | omega | ((try dsimp only); omega) | ((try dsimp only); (simp (disch := decide) only [Int.fdiv_eq_ediv_of_nonneg, Int.fmod_eq_emod_of_nonneg]); omega) | trivial | (refine ⟨?_, ?_, ?_, ?_, ?_, ?_, ?_, ?_, ?_, ?_, ?_, ?_, ?_, ?_⟩ <;> first | assumption | omega) | decide | (exact decide_eq_true (by omega)) | k_extra "pre")); intro v9 n9 h9 tk9 F9 N9 R9; (try dsimp only at R9); (obtain ⟨x9, y9, t91, t92, t93, t94, e9, en9, hl9, hm9⟩ := R9); (subst e9; subst en9; (try simp only [AllLt, and_true] at hl9); (replace hm9 := ltN hm9)); (try dsimp only); (try k_sweep); (try k_fold))
  k_with "eval Call Name" => (k_here; (with_reducible show wpAny _ _ (eval (Expr.Call (Expr.Name "token_at" _) _ _ _) _) _ _ _); refine Call_ ?_)
  k_with "call ref" => (k_here; (with_reducible show wpAny _ _ (call (Value.ref 116) _) _ _ _); k_dflt (refine' spc_use (token_c _ _ _ _ _ _ _ ?h1 ?h2 ?h3) ?k1 ?k2 ?k3 ?k4 ?k5 ?kK ?kd ?ku ?ki ?_; (case k1 => k_asm); (case k2 => k_asm); (case k3 => k_asm); (case k4 => k_asm); (case k5 => k_asm); (case kK => first | exact rfl | assumption); (case kd => ktr_room); (case ku => ktr_units); (case ki => exact trivial)); (case h1 => (first | assumption | omega | ((try dsimp only); omega) | ((try dsimp only); (simp (disch := decide) only [Int.fdiv_eq_ediv_of_nonneg, Int.fmod_eq_emod_of_nonneg]); omega) | trivial | (refine ⟨?_, ?_, ?_, ?_, ?_, ?_, ?_, ?_, ?_, ?_, ?_, ?_, ?_, ?_⟩ <;> first | assumption | omega) | decide | (exact decide_eq_true (by omega)) | k_extra "pre")); (case h2 => (first | assumption | omega | ((try dsimp only); omega) | ((try dsimp only); (simp (disch := decide) only [Int.fdiv_eq_ediv_of_nonneg, Int.fmod_eq_emod_of_nonneg]); omega) | trivial | (refine ⟨?_, ?_, ?_, ?_, ?_, ?_, ?_, ?_, ?_, ?_, ?_, ?_, ?_, ?_⟩ <;> first | assumption | omega) | decide | (exact decide_eq_true (by omega)) | k_extra "pre")); (case h3 => (first | assumption | omega | ((try dsimp only); omega) | ((try dsimp only); (simp (disch := decide) only [Int.fdiv_eq_ediv_of_nonneg, Int.fmod_eq_emod_of_nonneg]); omega) | trivial | (refine ⟨?_, ?_, ?_, ?_, ?_, ?_, ?_, ?_, ?_, ?_, ?_, ?_, ?_, ?_⟩ <;> first | assumption | omega) | decide | (exact decide_eq_true (by omega)) | k_extra "pre")); intro v9 n9 h9 tk9 F9 N9 R9; (try dsimp only at R9); (obtain ⟨x9, y9, t91, t92, t93, t94, e9, en9, hl9, hm9⟩ := R9); (subst e9; subst en9; (try simp only [AllLt, and_true] at hl9); (replace hm9 := ltN hm9)); (try dsimp only); (try k_sweep); (try k_fold))
  k_with "eval Call Name" => (k_here; (with_reducible show wpAny _ _ (eval (Expr.Call (Expr.Name "tokens_of" _) _ _ _) _) _ _ _); refine Call_ ?_)
  k_with "call ref" => (k_here; (with_reducible show wpAny _ _ (call (Value.ref 130) _) _ _ _); k_dflt (refine' spc_use (tokens_of_c _ _ _ _ _ ?h1 ?h2) ?k1 ?k2 ?k3 ?k4 ?k5 ?kK ?kd ?ku ?ki ?_; (case k1 => k_asm); (case k2 => k_asm); (case k3 => k_asm); (case k4 => k_asm); (case k5 => k_asm); (case kK => first | exact rfl | assumption); (case kd => ktr_room); (case ku => ktr_units); (case ki => exact trivial)); (case h1 => (first | assumption | omega | ((try dsimp only); omega) | ((try dsimp only); (simp (disch := decide) only [Int.fdiv_eq_ediv_of_nonneg, Int.fmod_eq_emod_of_nonneg]); omega) | trivial | (refine ⟨?_, ?_, ?_, ?_, ?_, ?_, ?_, ?_, ?_, ?_, ?_, ?_, ?_, ?_⟩ <;> first | assumption | omega) | decide | (exact decide_eq_true (by omega)) | k_extra "pre")); (case h2 => (first | assumption | omega | ((try dsimp only); omega) | ((try dsimp only); (simp (disch := decide) only [Int.fdiv_eq_ediv_of_nonneg, Int.fmod_eq_emod_of_nonneg]); omega) | trivial | (refine ⟨?_, ?_, ?_, ?_, ?_, ?_, ?_, ?_, ?_, ?_, ?_, ?_, ?_, ?_⟩ <;> first | assumption | omega) | decide | (exact decide_eq_true (by omega)) | k_extra "pre")); intro v9 n9 h9 tk9 F9 N9 R9; (try dsimp only at R9); (obtain ⟨f9, vs9, cap9, made9, e9, en9, hT9, hsub9, hne9⟩ := R9); (subst e9; subst en9); (try dsimp only); (try k_sweep); (try k_fold))
  k_with "eval Call Name" => (k_here; (with_reducible show wpAny _ _ (eval (Expr.Call (Expr.Name "lower_code" _) _ _ _) _) _ _ _); refine Call_ ?_)
  k_with "call ref" => (k_here; (with_reducible show wpAny _ _ (call (Value.ref 61) _) _ _ _); k_dflt (refine' pur_use (lower_code_c _ _ _) ?k1 ?k2 ?k3 ?k4 ?k5 ?kK ?kd ?ku ?_; (case k1 => k_asm); (case k2 => k_asm); (case k3 => k_asm); (case k4 => k_asm); (case k5 => k_asm); (case kK => first | exact rfl | assumption); (case kd => ktr_room); (case ku => ktr_units)); intro v9 h9 tk9 F9 N9 R9; (try dsimp only at R9); (obtain ⟨t9, e9⟩ := R9); (subst e9); (try dsimp only); (try k_sweep); (try k_fold))
  k_with "eval ListComp" => ((with_reducible show wpAny _ _ (eval (Expr.ListComp (Expr.Call (Expr.Name "chr" _) [Expr.Call (Expr.Name "lower_code" _) _ _ _] _ _) _ _ _) _) _ _ _); walk_at "NZ ECOMP")
  k_with "eval Call Name" => (k_here; (with_reducible show wpAny _ _ (eval (Expr.Call (Expr.Name "lower_text" _) _ _ _) _) _ _ _); refine Call_ ?_)
  k_with "call ref" => (k_here; (with_reducible show wpAny _ _ (call (Value.ref 66) _) _ _ _); k_dflt (refine' pur_use (lower_text_c _ _ _ ?h1 ?h2) ?k1 ?k2 ?k3 ?k4 ?k5 ?kK ?kd ?ku ?_; (case k1 => k_asm); (case k2 => k_asm); (case k3 => k_asm); (case k4 => k_asm); (case k5 => k_asm); (case kK => first | exact rfl | assumption); (case kd => ktr_room); (case ku => ktr_units)); (case h1 => (first | assumption | omega | ((try dsimp only); omega) | ((try dsimp only); (simp (disch := decide) only [Int.fdiv_eq_ediv_of_nonneg, Int.fmod_eq_emod_of_nonneg]); omega) | trivial | (refine ⟨?_, ?_, ?_, ?_, ?_, ?_, ?_, ?_, ?_, ?_, ?_, ?_, ?_, ?_⟩ <;> first | assumption | omega) | decide | (exact decide_eq_true (by omega)) | k_extra "pre")); (case h2 => (first | assumption | omega | ((try dsimp only); omega) | ((try dsimp only); (simp (disch := decide) only [Int.fdiv_eq_ediv_of_nonneg, Int.fmod_eq_emod_of_nonneg]); omega) | trivial | (refine ⟨?_, ?_, ?_, ?_, ?_, ?_, ?_, ?_, ?_, ?_, ?_, ?_, ?_, ?_⟩ <;> first | assumption | omega) | decide | (exact decide_eq_true (by omega)) | k_extra "pre")); intro v9 h9 tk9 F9 N9 R9; (try dsimp only at R9); (obtain ⟨t9, e9, hl9⟩ := R9); (subst e9); (try dsimp only); (try k_sweep); (try k_fold))
  k_with "eval Call Name" => (k_here; (with_reducible show wpAny _ _ (eval (Expr.Call (Expr.Name "without_comments" _) _ _ _) _) _ _ _); refine Call_ ?_)
  k_with "call ref" => (k_here; (with_reducible show wpAny _ _ (call (Value.ref 135) _) _ _ _); k_dflt (refine' spc_use (without_comments_c _ _ _ _ _ _) ?k1 ?k2 ?k3 ?k4 ?k5 ?kK ?kd ?ku ?ki ?_; (case k1 => k_asm); (case k2 => k_asm); (case k3 => k_asm); (case k4 => k_asm); (case k5 => k_asm); (case kK => first | exact rfl | assumption); (case kd => ktr_room); (case ku => ktr_units); (case ki => exact ⟨by k_mem, TkIn.mono (by assumption) (by walk_at "NZ SUB")⟩)); intro v9 n9 h9 tk9 F9 N9 R9; (try dsimp only at R9); (obtain ⟨d9, e9, en9, hd9⟩ := R9); (subst e9; subst en9); (try dsimp only); (try k_sweep); (try k_fold))
  k_with "eval Call Name" => (k_here; (with_reducible show wpAny _ _ (eval (Expr.Call (Expr.Name "DateReader" _) _ _ _) _) _ _ _); refine Call_ ?_)
  k_with "call ref" => (k_here; (with_reducible show wpAny _ _ (call (Value.ref 339) _) _ _ _); k_dflt (refine' spc_use (reader_c _ _ _ _ _ ?h1 ?h2) ?k1 ?k2 ?k3 ?k4 ?k5 ?kK ?kd ?ku ?ki ?_; (case k1 => k_asm); (case k2 => k_asm); (case k3 => k_asm); (case k4 => k_asm); (case k5 => k_asm); (case kK => first | exact rfl | assumption); (case kd => ktr_room); (case ku => ktr_units); (case ki => exact trivial)); (case h1 => (first | assumption | omega | ((try dsimp only); omega) | ((try dsimp only); (simp (disch := decide) only [Int.fdiv_eq_ediv_of_nonneg, Int.fmod_eq_emod_of_nonneg]); omega) | trivial | (refine ⟨?_, ?_, ?_, ?_, ?_, ?_, ?_, ?_, ?_, ?_, ?_, ?_, ?_, ?_⟩ <;> first | assumption | omega) | decide | (exact decide_eq_true (by omega)) | k_extra "pre")); (case h2 => (first | assumption | omega | ((try dsimp only); omega) | ((try dsimp only); (simp (disch := decide) only [Int.fdiv_eq_ediv_of_nonneg, Int.fmod_eq_emod_of_nonneg]); omega) | trivial | (refine ⟨?_, ?_, ?_, ?_, ?_, ?_, ?_, ?_, ?_, ?_, ?_, ?_, ?_, ?_⟩ <;> first | assumption | omega) | decide | (exact decide_eq_true (by omega)) | k_extra "pre")); intro v9 n9 h9 tk9 F9 N9 R9; (try dsimp only at R9); (obtain ⟨rx9, dx9, dl9, vs9, rest9, k91, k92, k93, u91, u92, e9, en9, hsub9, hR9⟩ := R9); (subst e9; subst en9; (have hx9 := ltN hR9.lt); (have hne9 := hR9.ne); (have gl9 := hR9.gl); (have hz9 := hR9.size)); (try dsimp only); (try k_sweep); (try k_fold))
  k_with "eval Call Name" => (k_here; (with_reducible show wpAny _ _ (eval (Expr.Call (Expr.Name "is_figures" _) _ _ _) _) _ _ _); refine Call_ ?_)
  k_with "call ref" => (k_here; (with_reducible show wpAny _ _ (call (Value.ref 277) _) _ _ _); k_dflt (refine' pur_use (is_figures_c _ _ _ ?h1 ?h2 ?h3) ?k1 ?k2 ?k3 ?k4 ?k5 ?kK ?kd ?ku ?_; (case k1 => k_asm); (case k2 => k_asm); (case k3 => k_asm); (case k4 => k_asm); (case k5 => k_asm); (case kK => first | exact rfl | assumption); (case kd => ktr_room); (case ku => ktr_units)); (case h1 => (first | assumption | omega | ((try dsimp only); omega) | ((try dsimp only); (simp (disch := decide) only [Int.fdiv_eq_ediv_of_nonneg, Int.fmod_eq_emod_of_nonneg]); omega) | trivial | (refine ⟨?_, ?_, ?_, ?_, ?_, ?_, ?_, ?_, ?_, ?_, ?_, ?_, ?_, ?_⟩ <;> first | assumption | omega) | decide | (exact decide_eq_true (by omega)) | k_extra "pre")); (case h2 => (first | assumption | omega | ((try dsimp only); omega) | ((try dsimp only); (simp (disch := decide) only [Int.fdiv_eq_ediv_of_nonneg, Int.fmod_eq_emod_of_nonneg]); omega) | trivial | (refine ⟨?_, ?_, ?_, ?_, ?_, ?_, ?_, ?_, ?_, ?_, ?_, ?_, ?_, ?_⟩ <;> first | assumption | omega) | decide | (exact decide_eq_true (by omega)) | k_extra "pre")); (case h3 => (first | assumption | omega | ((try dsimp only); omega) | ((try dsimp only); (simp (disch := decide) only [Int.fdiv_eq_ediv_of_nonneg, Int.fmod_eq_emod_of_nonneg]); omega) | trivial | (refine ⟨?_, ?_, ?_, ?_, ?_, ?_, ?_, ?_, ?_, ?_, ?_, ?_, ?_, ?_⟩ <;> first | assumption | omega) | decide | (exact decide_eq_true (by omega)) | k_extra "pre")); intro v9 h9 tk9 F9 N9 R9; (try dsimp only at R9); (subst R9); (try dsimp only); (try k_sweep); (try k_fold))
  k_with "eval ListComp" => ((with_reducible show wpAny _ _ (eval (Expr.ListComp (Expr.Call (Expr.Name "chr" _) [Expr.Name "code" _] _ _) _ _ _) _) _ _ _); walk_at "NZ ECOMP")
  k_with "call ref" => (k_here; (with_reducible show wpAny _ _ (call (Value.ref 315) _) _ _ _); k_dflt (refine' spcp_use (atom_c _ _ _ _ _ _ _ _ _ _ _ _ ?h0 ?h1 ?h2 ?h3 ?h4 ?h5) ?k1 ?k2 ?k3 ?k4 ?k5 ?kK ?kd ?ku ?ki ?_; (case k1 => k_asm); (case k2 => k_asm); (case k3 => k_asm); (case k4 => k_asm); (case k5 => k_asm); (case kK => first | exact rfl | assumption); (case kd => ktr_room); (case ku => ktr_units); (case h0 => assumption); (case ki => exact ⟨_, _, _, _, _, by k_mem, by k_mem, fun p hp => by (repeat (first | exact hp | refine List.Mem.tail _ ?_))⟩)); (case h1 => first | assumption | k_dflt (exact rfl)); (case h2 => (first | assumption | omega | ((try dsimp only); omega) | ((try dsimp only); (simp (disch := decide) only [Int.fdiv_eq_ediv_of_nonneg, Int.fmod_eq_emod_of_nonneg]); omega) | trivial | (refine ⟨?_, ?_, ?_, ?_, ?_, ?_, ?_, ?_, ?_, ?_, ?_, ?_, ?_, ?_⟩ <;> first | assumption | omega) | decide | (exact decide_eq_true (by omega)) | k_extra "pre")); (case h3 => (first | assumption | omega | ((try dsimp only); omega) | ((try dsimp only); (simp (disch := decide) only [Int.fdiv_eq_ediv_of_nonneg, Int.fmod_eq_emod_of_nonneg]); omega) | trivial | (refine ⟨?_, ?_, ?_, ?_, ?_, ?_, ?_, ?_, ?_, ?_, ?_, ?_, ?_, ?_⟩ <;> first | assumption | omega) | decide | (exact decide_eq_true (by omega)) | k_extra "pre")); (case h4 => (first | assumption | omega | ((try dsimp only); omega) | ((try dsimp only); (simp (disch := decide) only [Int.fdiv_eq_ediv_of_nonneg, Int.fmod_eq_emod_of_nonneg]); omega) | trivial | (refine ⟨?_, ?_, ?_, ?_, ?_, ?_, ?_, ?_, ?_, ?_, ?_, ?_, ?_, ?_⟩ <;> first | assumption | omega) | decide | (exact decide_eq_true (by omega)) | k_extra "pre")); (case h5 => (first | assumption | omega | ((try dsimp only); omega) | ((try dsimp only); (simp (disch := decide) only [Int.fdiv_eq_ediv_of_nonneg, Int.fmod_eq_emod_of_nonneg]); omega) | trivial | (refine ⟨?_, ?_, ?_, ?_, ?_, ?_, ?_, ?_, ?_, ?_, ?_, ?_, ?_, ?_⟩ <;> first | assumption | omega) | decide | (exact decide_eq_true (by omega)) | k_extra "pre")); intro v9 h9 tk9 F9 N9 R9; (try dsimp only at R9); (obtain ⟨t9, e9⟩ := R9); (subst e9); (try dsimp only); (try k_sweep); (try k_fold))
  k_with "subscriptTail" => (k_here; (with_reducible show wpAny _ _ (subscriptTail _ (PySem.Expr.Slice none _ none _) (Value.ref _) (Value.ref _)) _ _ _); k_dflt (refine' slice_to2 ?F ?N ?t ?_ ?s ?g; (case F => k_asm); (case N => k_asm); (case t => exact News.isTup (by k_asm) (by k_mem)); (case s => with_unfolding_all rfl); (case g => kmk_pure)); intro D' h' F' N' l1; (try k_lt l1); (try k_sweep))
  k_with "compareOp NotEq ref ref" => (k_here; k_dflt (refine' ne_sb ?N ?a ?b ?u ?_; (case N => k_asm); (case a => k_mem); (case b => k_mem); (case u => ktr_units)))
  k_with "call ref" => (k_here; (with_reducible show wpAny _ _ (call (Value.ref 336) _) _ _ _); k_dflt (refine' spc_use (need_c _ _ _ _ _ _ _ _ _ _ _ _ _ ?h0 ?h1) ?k1 ?k2 ?k3 ?k4 ?k5 ?kK ?kd ?ku ?ki ?_; (case k1 => k_asm); (case k2 => k_asm); (case k3 => k_asm); (case k4 => k_asm); (case k5 => k_asm); (case kK => first | exact rfl | assumption); (case kd => ktr_room); (case ku => ktr_units); (case h0 => assumption); (case ki => exact ⟨_, _, _, _, _, by k_mem, by k_mem, fun p hp => by (repeat (first | exact hp | refine List.Mem.tail _ ?_))⟩)); (case h1 => (first | assumption | omega | ((try dsimp only); omega) | ((try dsimp only); (simp (disch := decide) only [Int.fdiv_eq_ediv_of_nonneg, Int.fmod_eq_emod_of_nonneg]); omega) | trivial | (refine ⟨?_, ?_, ?_, ?_, ?_, ?_, ?_, ?_, ?_, ?_, ?_, ?_, ?_, ?_⟩ <;> first | assumption | omega) | decide | (exact decide_eq_true (by omega)) | k_extra "pre")); intro v9 n9 h9 tk9 F9 N9 R9; (try dsimp only at R9); (obtain ⟨e9, k91, k92, k93, u91, u92, en9⟩ := R9); (subst e9; subst en9); (try dsimp only); (try k_sweep); (try k_fold))
  k_with "call ref" => (k_here; (with_reducible show wpAny _ _ (call (Value.ref 310) _) _ _ _); k_dflt (refine' spcp_use (place_c _ _ _ _ _ _ _ _ _ _ _ ?h0 ?h1 ?h2 ?h3) ?k1 ?k2 ?k3 ?k4 ?k5 ?kK ?kd ?ku ?ki ?_; (case k1 => k_asm); (case k2 => k_asm); (case k3 => k_asm); (case k4 => k_asm); (case k5 => k_asm); (case kK => first | exact rfl | assumption); (case kd => ktr_room); (case ku => ktr_units); (case h0 => assumption); (case ki => exact ⟨_, _, _, _, _, by k_mem, by k_mem, fun p hp => by (repeat (first | exact hp | refine List.Mem.tail _ ?_))⟩)); (case h1 => first | assumption | k_dflt (exact rfl)); (case h2 => (first | assumption | omega | ((try dsimp only); omega) | ((try dsimp only); (simp (disch := decide) only [Int.fdiv_eq_ediv_of_nonneg, Int.fmod_eq_emod_of_nonneg]); omega) | trivial | (refine ⟨?_, ?_, ?_, ?_, ?_, ?_, ?_, ?_, ?_, ?_, ?_, ?_, ?_, ?_⟩ <;> first | assumption | omega) | decide | (exact decide_eq_true (by omega)) | k_extra "pre")); (case h3 => (first | assumption | omega | ((try dsimp only); omega) | ((try dsimp only); (simp (disch := decide) only [Int.fdiv_eq_ediv_of_nonneg, Int.fmod_eq_emod_of_nonneg]); omega) | trivial | (refine ⟨?_, ?_, ?_, ?_, ?_, ?_, ?_, ?_, ?_, ?_, ?_, ?_, ?_, ?_⟩ <;> first | assumption | omega) | decide | (exact decide_eq_true (by omega)) | k_extra "pre")); intro v9 h9 tk9 F9 N9 R9; (try dsimp only at R9); (obtain ⟨t9, e9⟩ := R9); (subst e9); (try dsimp only); (try k_sweep); (try k_fold))
  k_with "call ref" => (k_here; (with_reducible show wpAny _ _ (call (Value.ref 322) _) _ _ _); k_dflt (refine' spc_use (skip_c _ _ _ _ _ _ _ _ _ _ _ _ _ _ _ ?h0 ?h1 ?h2 ?h3 ?h4) ?k1 ?k2 ?k3 ?k4 ?k5 ?kK ?kd ?ku ?ki ?_; (case k1 => k_asm); (case k2 => k_asm); (case k3 => k_asm); (case k4 => k_asm); (case k5 => k_asm); (case kK => first | exact rfl | assumption); (case kd => ktr_room); (case ku => ktr_units); (case h0 => assumption); (case ki => exact ⟨_, _, _, _, _, by k_mem, by k_mem, fun p hp => by (repeat (first | exact hp | refine List.Mem.tail _ ?_))⟩)); (case h1 => first | assumption | k_dflt (exact rfl)); (case h2 => first | assumption | k_dflt (exact rfl)); (case h3 => (first | assumption | omega | ((try dsimp only); omega) | ((try dsimp only); (simp (disch := decide) only [Int.fdiv_eq_ediv_of_nonneg, Int.fmod_eq_emod_of_nonneg]); omega) | trivial | (refine ⟨?_, ?_, ?_, ?_, ?_, ?_, ?_, ?_, ?_, ?_, ?_, ?_, ?_, ?_⟩ <;> first | assumption | omega) | decide | (exact decide_eq_true (by omega)) | k_extra "pre")); (case h4 => (first | assumption | omega | ((try dsimp only); omega) | ((try dsimp only); (simp (disch := decide) only [Int.fdiv_eq_ediv_of_nonneg, Int.fmod_eq_emod_of_nonneg]); omega) | trivial | (refine ⟨?_, ?_, ?_, ?_, ?_, ?_, ?_, ?_, ?_, ?_, ?_, ?_, ?_, ?_⟩ <;> first | assumption | omega) | decide | (exact decide_eq_true (by omega)) | k_extra "pre")); intro v9 n9 h9 tk9 F9 N9 R9; (try dsimp only at R9); (obtain ⟨e9, k91, k92, k93, u91, u92, en9⟩ := R9); (subst e9; subst en9); (try dsimp only); (try k_sweep); (try k_fold))
  k_with "call ref" => (k_here; (with_reducible show wpAny _ _ (call (Value.ref 329) _) _ _ _); k_dflt (refine' spc_use (number_c _ _ _ _ _ _ _ _ _ _ _ _ _ _ _ _ _ _ ?h0 ?h1 ?h2 ?h3 ?f1 ?f4 ?f5 ?f8 ?f9) ?k1 ?k2 ?k3 ?k4 ?k5 ?kK ?kd ?ku ?ki ?_; (case k1 => k_asm); (case k2 => k_asm); (case k3 => k_asm); (case k4 => k_asm); (case k5 => k_asm); (case kK => first | exact rfl | assumption); (case kd => ktr_room); (case ku => ktr_units); (case h0 => assumption); (case ki => exact ⟨_, _, _, _, _, by k_mem, by k_mem, fun p hp => by (repeat (first | exact hp | refine List.Mem.tail _ ?_))⟩)); (case h1 => first | assumption | k_dflt (exact rfl)); (case h2 => (first | assumption | omega | ((try dsimp only); omega) | ((try dsimp only); (simp (disch := decide) only [Int.fdiv_eq_ediv_of_nonneg, Int.fmod_eq_emod_of_nonneg]); omega) | trivial | (refine ⟨?_, ?_, ?_, ?_, ?_, ?_, ?_, ?_, ?_, ?_, ?_, ?_, ?_, ?_⟩ <;> first | assumption | omega) | decide | (exact decide_eq_true (by omega)) | k_extra "pre")); (case h3 => (first | assumption | omega | ((try dsimp only); omega) | ((try dsimp only); (simp (disch := decide) only [Int.fdiv_eq_ediv_of_nonneg, Int.fmod_eq_emod_of_nonneg]); omega) | trivial | (refine ⟨?_, ?_, ?_, ?_, ?_, ?_, ?_, ?_, ?_, ?_, ?_, ?_, ?_, ?_⟩ <;> first | assumption | omega) | decide | (exact decide_eq_true (by omega)) | k_extra "pre")); (case f1 => first | assumption | k_dflt (exact rfl)); (case f4 => (first | assumption | omega | ((try dsimp only); omega) | ((try dsimp only); (simp (disch := decide) only [Int.fdiv_eq_ediv_of_nonneg, Int.fmod_eq_emod_of_nonneg]); omega) | trivial | (refine ⟨?_, ?_, ?_, ?_, ?_, ?_, ?_, ?_, ?_, ?_, ?_, ?_, ?_, ?_⟩ <;> first | assumption | omega) | decide | (exact decide_eq_true (by omega)) | k_extra "pre")); (case f5 => (first | assumption | omega | ((try dsimp only); omega) | ((try dsimp only); (simp (disch := decide) only [Int.fdiv_eq_ediv_of_nonneg, Int.fmod_eq_emod_of_nonneg]); omega) | trivial | (refine ⟨?_, ?_, ?_, ?_, ?_, ?_, ?_, ?_, ?_, ?_, ?_, ?_, ?_, ?_⟩ <;> first | assumption | omega) | decide | (exact decide_eq_true (by omega)) | k_extra "pre")); (case f8 => (first | assumption | omega | ((try dsimp only); omega) | ((try dsimp only); (simp (disch := decide) only [Int.fdiv_eq_ediv_of_nonneg, Int.fmod_eq_emod_of_nonneg]); omega) | trivial | (refine ⟨?_, ?_, ?_, ?_, ?_, ?_, ?_, ?_, ?_, ?_, ?_, ?_, ?_, ?_⟩ <;> first | assumption | omega) | decide | (exact decide_eq_true (by omega)) | k_extra "pre")); (case f9 => (first | assumption | omega | ((try dsimp only); omega) | ((try dsimp only); (simp (disch := decide) only [Int.fdiv_eq_ediv_of_nonneg, Int.fmod_eq_emod_of_nonneg]); omega) | trivial | (refine ⟨?_, ?_, ?_, ?_, ?_, ?_, ?_, ?_, ?_, ?_, ?_, ?_, ?_, ?_⟩ <;> first | assumption | omega) | decide | (exact decide_eq_true (by omega)) | k_extra "pre")); intro v9 n9 h9 tk9 F9 N9 R9; (try dsimp only at R9); (obtain ⟨r9, t91, t92, k91, k92, k93, u91, u92, e9, en9⟩ := R9); (subst e9; subst en9); (try dsimp only); (try k_sweep); (try k_fold))
  k_with "eval Call Name" => (k_here; (with_reducible show wpAny _ _ (eval (Expr.Call (Expr.Name "read_clock" _) _ _ _) _) _ _ _); refine Call_ ?_)
  k_with "call ref" => (k_here; (with_reducible show wpAny _ _ (call (Value.ref 357) _) _ _ _); k_dflt (refine' spc_use (read_clock_c _ _ _ _ _ _ _ _ _ _ _ _ _ ?hi ?h0 ?f1 ?f2 ?f3) ?k1 ?k2 ?k3 ?k4 ?k5 ?kK ?kd ?ku ?ki ?_; (case k1 => k_asm); (case k2 => k_asm); (case k3 => k_asm); (case k4 => k_asm); (case k5 => k_asm); (case kK => first | exact rfl | assumption); (case kd => ktr_room); (case ku => ktr_units); (case h0 => assumption); (case ki => exact ⟨_, _, _, _, _, by k_mem, by k_mem, fun p hp => by (repeat (first | exact hp | refine List.Mem.tail _ ?_))⟩)); (case hi => (first | assumption | omega | ((try dsimp only); omega) | ((try dsimp only); (simp (disch := decide) only [Int.fdiv_eq_ediv_of_nonneg, Int.fmod_eq_emod_of_nonneg]); omega) | trivial | (refine ⟨?_, ?_, ?_, ?_, ?_, ?_, ?_, ?_, ?_, ?_, ?_, ?_, ?_, ?_⟩ <;> first | assumption | omega) | decide | (exact decide_eq_true (by omega)) | k_extra "pre")); (case f1 => (first | assumption | omega | ((try dsimp only); omega) | ((try dsimp only); (simp (disch := decide) only [Int.fdiv_eq_ediv_of_nonneg, Int.fmod_eq_emod_of_nonneg]); omega) | trivial | (refine ⟨?_, ?_, ?_, ?_, ?_, ?_, ?_, ?_, ?_, ?_, ?_, ?_, ?_, ?_⟩ <;> first | assumption | omega) | decide | (exact decide_eq_true (by omega)) | k_extra "pre")); (case f2 => (first | assumption | omega | ((try dsimp only); omega) | ((try dsimp only); (simp (disch := decide) only [Int.fdiv_eq_ediv_of_nonneg, Int.fmod_eq_emod_of_nonneg]); omega) | trivial | (refine ⟨?_, ?_, ?_, ?_, ?_, ?_, ?_, ?_, ?_, ?_, ?_, ?_, ?_, ?_⟩ <;> first | assumption | omega) | decide | (exact decide_eq_true (by omega)) | k_extra "pre")); (case f3 => (first | assumption | omega | ((try dsimp only); omega) | ((try dsimp only); (simp (disch := decide) only [Int.fdiv_eq_ediv_of_nonneg, Int.fmod_eq_emod_of_nonneg]); omega) | trivial | (refine ⟨?_, ?_, ?_, ?_, ?_, ?_, ?_, ?_, ?_, ?_, ?_, ?_, ?_, ?_⟩ <;> first | assumption | omega) | decide | (exact decide_eq_true (by omega)) | k_extra "pre")); intro v9 n9 h9 tk9 F9 N9 R9; (try dsimp only at R9); (obtain ⟨r9, t91, t92, t93, k91, k92, k93, u91, u92, e9, en9⟩ := R9); (subst e9; subst en9); (try dsimp only); (try k_sweep); (try k_fold))
  k_with "eval Call Name" => (k_here; (with_reducible show wpAny _ _ (eval (Expr.Call (Expr.Name "is_leap" _) _ _ _) _) _ _ _); refine Call_ ?_)
  k_with "call ref" => (k_here; (with_reducible show wpAny _ _ (call (Value.ref 172) _) _ _ _); k_dflt (refine' pur_use (is_leap_c _ _ _) ?k1 ?k2 ?k3 ?k4 ?k5 ?kK ?kd ?ku ?_; (case k1 => k_asm); (case k2 => k_asm); (case k3 => k_asm); (case k4 => k_asm); (case k5 => k_asm); (case kK => first | exact rfl | assumption); (case kd => ktr_room); (case ku => ktr_units)); intro v9 h9 tk9 F9 N9 R9; (try dsimp only at R9); (subst R9); (try dsimp only); (try k_sweep); (try k_fold))
  k_with "eval Call Name" => (k_here; (with_reducible show wpAny _ _ (eval (Expr.Call (Expr.Name "month_length" _) _ _ _) _) _ _ _); refine Call_ ?_)
  k_with "call ref" => (k_here; (with_reducible show wpAny _ _ (call (Value.ref 179) _) _ _ _); k_dflt (refine' pur_use (month_length_c _ _ _ _ _) ?k1 ?k2 ?k3 ?k4 ?k5 ?kK ?kd ?ku ?_; (case k1 => k_asm); (case k2 => k_asm); (case k3 => k_asm); (case k4 => k_asm); (case k5 => k_asm); (case kK => first | exact rfl | assumption); (case kd => ktr_room); (case ku => ktr_units)); intro v9 h9 tk9 F9 N9 R9; (try dsimp only at R9); (obtain ⟨t9, e9⟩ := R9); (subst e9); (try dsimp only); (try k_sweep); (try k_fold))
  k_with "eval Call Name" => (k_here; (with_reducible show wpAny _ _ (eval (Expr.Call (Expr.Name "days_before_year" _) _ _ _) _) _ _ _); refine Call_ ?_)
  k_with "call ref" => (k_here; (with_reducible show wpAny _ _ (call (Value.ref 186) _) _ _ _); k_dflt (refine' pur_use (days_before_year_c _ _ _) ?k1 ?k2 ?k3 ?k4 ?k5 ?kK ?kd ?ku ?_; (case k1 => k_asm); (case k2 => k_asm); (case k3 => k_asm); (case k4 => k_asm); (case k5 => k_asm); (case kK => first | exact rfl | assumption); (case kd => ktr_room); (case ku => ktr_units)); intro v9 h9 tk9 F9 N9 R9; (try dsimp only at R9); (obtain ⟨t9, e9⟩ := R9); (subst e9); (try dsimp only); (try k_sweep); (try k_fold))
  k_with "eval Call Name" => (k_here; (with_reducible show wpAny _ _ (eval (Expr.Call (Expr.Name "day_number" _) _ _ _) _) _ _ _); refine Call_ ?_)
  k_with "call ref" => (k_here; (with_reducible show wpAny _ _ (call (Value.ref 193) _) _ _ _); k_dflt (refine' pur_use (day_number_c _ _ _ _ _ _ _ ?h1 ?h2) ?k1 ?k2 ?k3 ?k4 ?k5 ?kK ?kd ?ku ?_; (case k1 => k_asm); (case k2 => k_asm); (case k3 => k_asm); (case k4 => k_asm); (case k5 => k_asm); (case kK => first | exact rfl | assumption); (case kd => ktr_room); (case ku => ktr_units)); (case h1 => (first | assumption | omega | ((try dsimp only); omega) | ((try dsimp only); (simp (disch := decide) only [Int.fdiv_eq_ediv_of_nonneg, Int.fmod_eq_emod_of_nonneg]); omega) | trivial | (refine ⟨?_, ?_, ?_, ?_, ?_, ?_, ?_, ?_, ?_, ?_, ?_, ?_, ?_, ?_⟩ <;> first | assumption | omega) | decide | (exact decide_eq_true (by omega)) | k_extra "pre")); (case h2 => (first | assumption | omega | ((try dsimp only); omega) | ((try dsimp only); (simp (disch := decide) only [Int.fdiv_eq_ediv_of_nonneg, Int.fmod_eq_emod_of_nonneg]); omega) | trivial | (refine ⟨?_, ?_, ?_, ?_, ?_, ?_, ?_, ?_, ?_, ?_, ?_, ?_, ?_, ?_⟩ <;> first | assumption | omega) | decide | (exact decide_eq_true (by omega)) | k_extra "pre")); intro v9 h9 tk9 F9 N9 R9; (try dsimp only at R9); (obtain ⟨t9, e9⟩ := R9); (subst e9); (try dsimp only); (try k_sweep); (try k_fold))
  k_with "eval Call Name" => (k_here; (with_reducible show wpAny _ _ (eval (Expr.Call (Expr.Name "weekday" _) _ _ _) _) _ _ _); refine Call_ ?_)
  k_with "call ref" => (k_here; (with_reducible show wpAny _ _ (call (Value.ref 207) _) _ _ _); k_dflt (refine' pur_use (weekday_c _ _ _ _ _ _ _ ?h1 ?h2) ?k1 ?k2 ?k3 ?k4 ?k5 ?kK ?kd ?ku ?_; (case k1 => k_asm); (case k2 => k_asm); (case k3 => k_asm); (case k4 => k_asm); (case k5 => k_asm); (case kK => first | exact rfl | assumption); (case kd => ktr_room); (case ku => ktr_units)); (case h1 => (first | assumption | omega | ((try dsimp only); omega) | ((try dsimp only); (simp (disch := decide) only [Int.fdiv_eq_ediv_of_nonneg, Int.fmod_eq_emod_of_nonneg]); omega) | trivial | (refine ⟨?_, ?_, ?_, ?_, ?_, ?_, ?_, ?_, ?_, ?_, ?_, ?_, ?_, ?_⟩ <;> first | assumption | omega) | decide | (exact decide_eq_true (by omega)) | k_extra "pre")); (case h2 => (first | assumption | omega | ((try dsimp only); omega) | ((try dsimp only); (simp (disch := decide) only [Int.fdiv_eq_ediv_of_nonneg, Int.fmod_eq_emod_of_nonneg]); omega) | trivial | (refine ⟨?_, ?_, ?_, ?_, ?_, ?_, ?_, ?_, ?_, ?_, ?_, ?_, ?_, ?_⟩ <;> first | assumption | omega) | decide | (exact decide_eq_true (by omega)) | k_extra "pre")); intro v9 h9 tk9 F9 N9 R9; (try dsimp only at R9); (obtain ⟨t9, e9⟩ := R9); (subst e9); (try dsimp only); (try k_sweep); (try k_fold))
  k_with "eval Call Name" => (k_here; (with_reducible show wpAny _ _ (eval (Expr.Call (Expr.Name "is_time" _) _ _ _) _) _ _ _); refine Call_ ?_)
  k_with "call ref" => (k_here; (with_reducible show wpAny _ _ (call (Value.ref 221) _) _ _ _); k_dflt (refine' pur_use (is_time_c _ _ _ _ _ _ _ ?h1 ?h2 ?h3 ?h4 ?h5 ?h6) ?k1 ?k2 ?k3 ?k4 ?k5 ?kK ?kd ?ku ?_; (case k1 => k_asm); (case k2 => k_asm); (case k3 => k_asm); (case k4 => k_asm); (case k5 => k_asm); (case kK => first | exact rfl | assumption); (case kd => ktr_room); (case ku => ktr_units)); (case h1 => (first | assumption | omega | ((try dsimp only); omega) | ((try dsimp only); (simp (disch := decide) only [Int.fdiv_eq_ediv_of_nonneg, Int.fmod_eq_emod_of_nonneg]); omega) | trivial | (refine ⟨?_, ?_, ?_, ?_, ?_, ?_, ?_, ?_, ?_, ?_, ?_, ?_, ?_, ?_⟩ <;> first | assumption | omega) | decide | (exact decide_eq_true (by omega)) | k_extra "pre")); (case h2 => (first | assumption | omega | ((try dsimp only); omega) | ((try dsimp only); (simp (disch := decide) only [Int.fdiv_eq_ediv_of_nonneg, Int.fmod_eq_emod_of_nonneg]); omega) | trivial | (refine ⟨?_, ?_, ?_, ?_, ?_, ?_, ?_, ?_, ?_, ?_, ?_, ?_, ?_, ?_⟩ <;> first | assumption | omega) | decide | (exact decide_eq_true (by omega)) | k_extra "pre")); (case h3 => (first | assumption | omega | ((try dsimp only); omega) | ((try dsimp only); (simp (disch := decide) only [Int.fdiv_eq_ediv_of_nonneg, Int.fmod_eq_emod_of_nonneg]); omega) | trivial | (refine ⟨?_, ?_, ?_, ?_, ?_, ?_, ?_, ?_, ?_, ?_, ?_, ?_, ?_, ?_⟩ <;> first | assumption | omega) | decide | (exact decide_eq_true (by omega)) | k_extra "pre")); (case h4 => (first | assumption | omega | ((try dsimp only); omega) | ((try dsimp only); (simp (disch := decide) only [Int.fdiv_eq_ediv_of_nonneg, Int.fmod_eq_emod_of_nonneg]); omega) | trivial | (refine ⟨?_, ?_, ?_, ?_, ?_, ?_, ?_, ?_, ?_, ?_, ?_, ?_, ?_, ?_⟩ <;> first | assumption | omega) | decide | (exact decide_eq_true (by omega)) | k_extra "pre")); (case h5 => (first | assumption | omega | ((try dsimp only); omega) | ((try dsimp only); (simp (disch := decide) only [Int.fdiv_eq_ediv_of_nonneg, Int.fmod_eq_emod_of_nonneg]); omega) | trivial | (refine ⟨?_, ?_, ?_, ?_, ?_, ?_, ?_, ?_, ?_, ?_, ?_, ?_, ?_, ?_⟩ <;> first | assumption | omega) | decide | (exact decide_eq_true (by omega)) | k_extra "pre")); (case h6 => (first | assumption | omega | ((try dsimp only); omega) | ((try dsimp only); (simp (disch := decide) only [Int.fdiv_eq_ediv_of_nonneg, Int.fmod_eq_emod_of_nonneg]); omega) | trivial | (refine ⟨?_, ?_, ?_, ?_, ?_, ?_, ?_, ?_, ?_, ?_, ?_, ?_, ?_, ?_⟩ <;> first | assumption | omega) | decide | (exact decide_eq_true (by omega)) | k_extra "pre")); intro v9 h9 tk9 F9 N9 R9; (try dsimp only at R9); (subst R9); (try dsimp only); (try k_sweep); (try k_fold))
  k_with "eval Call Name" => (k_here; (with_reducible show wpAny _ _ (eval (Expr.Call (Expr.Name "is_day" _) _ _ _) _) _ _ _); refine Call_ ?_)
  k_with "call ref" => (k_here; (with_reducible show wpAny _ _ (call (Value.ref 214) _) _ _ _); k_dflt (refine' pur_use (is_day_c _ _ _ _ _ _ _ ?h1 ?h2 ?h3 ?h4 ?h5 ?h6) ?k1 ?k2 ?k3 ?k4 ?k5 ?kK ?kd ?ku ?_; (case k1 => k_asm); (case k2 => k_asm); (case k3 => k_asm); (case k4 => k_asm); (case k5 => k_asm); (case kK => first | exact rfl | assumption); (case kd => ktr_room); (case ku => ktr_units)); (case h1 => (first | assumption | omega | ((try dsimp only); omega) | ((try dsimp only); (simp (disch := decide) only [Int.fdiv_eq_ediv_of_nonneg, Int.fmod_eq_emod_of_nonneg]); omega) | trivial | (refine ⟨?_, ?_, ?_, ?_, ?_, ?_, ?_, ?_, ?_, ?_, ?_, ?_, ?_, ?_⟩ <;> first | assumption | omega) | decide | (exact decide_eq_true (by omega)) | k_extra "pre")); (case h2 => (first | assumption | omega | ((try dsimp only); omega) | ((try dsimp only); (simp (disch := decide) only [Int.fdiv_eq_ediv_of_nonneg, Int.fmod_eq_emod_of_nonneg]); omega) | trivial | (refine ⟨?_, ?_, ?_, ?_, ?_, ?_, ?_, ?_, ?_, ?_, ?_, ?_, ?_, ?_⟩ <;> first | assumption | omega) | decide | (exact decide_eq_true (by omega)) | k_extra "pre")); (case h3 => (first | assumption | omega | ((try dsimp only); omega) | ((try dsimp only); (simp (disch := decide) only [Int.fdiv_eq_ediv_of_nonneg, Int.fmod_eq_emod_of_nonneg]); omega) | trivial | (refine ⟨?_, ?_, ?_, ?_, ?_, ?_, ?_, ?_, ?_, ?_, ?_, ?_, ?_, ?_⟩ <;> first | assumption | omega) | decide | (exact decide_eq_true (by omega)) | k_extra "pre")); (case h4 => (first | assumption | omega | ((try dsimp only); omega) | ((try dsimp only); (simp (disch := decide) only [Int.fdiv_eq_ediv_of_nonneg, Int.fmod_eq_emod_of_nonneg]); omega) | trivial | (refine ⟨?_, ?_, ?_, ?_, ?_, ?_, ?_, ?_, ?_, ?_, ?_, ?_, ?_, ?_⟩ <;> first | assumption | omega) | decide | (exact decide_eq_true (by omega)) | k_extra "pre")); (case h5 => (first | assumption | omega | ((try dsimp only); omega) | ((try dsimp only); (simp (disch := decide) only [Int.fdiv_eq_ediv_of_nonneg, Int.fmod_eq_emod_of_nonneg]); omega) | trivial | (refine ⟨?_, ?_, ?_, ?_, ?_, ?_, ?_, ?_, ?_, ?_, ?_, ?_, ?_, ?_⟩ <;> first | assumption | omega) | decide | (exact decide_eq_true (by omega)) | k_extra "pre")); (case h6 => (first | assumption | omega | ((try dsimp only); omega) | ((try dsimp only); (simp (disch := decide) only [Int.fdiv_eq_ediv_of_nonneg, Int.fmod_eq_emod_of_nonneg]); omega) | trivial | (refine ⟨?_, ?_, ?_, ?_, ?_, ?_, ?_, ?_, ?_, ?_, ?_, ?_, ?_, ?_⟩ <;> first | assumption | omega) | decide | (exact decide_eq_true (by omega)) | k_extra "pre")); intro v9 h9 tk9 F9 N9 R9; (try dsimp only at R9); (subst R9); (try dsimp only); (try k_sweep); (try k_fold))
  k_with "eval Call Name" => (k_here; (with_reducible show wpAny _ _ (eval (Expr.Call (Expr.Name "day_told" _) _ _ _) _) _ _ _); refine Call_ ?_)
  k_with "call ref" => (k_here; (with_reducible show wpAny _ _ (call (Value.ref 200) _) _ _ _); k_dflt (refine' spc_use (day_told_c _ _ _ ?h1 ?h2) ?k1 ?k2 ?k3 ?k4 ?k5 ?kK ?kd ?ku ?ki ?_; (case k1 => k_asm); (case k2 => k_asm); (case k3 => k_asm); (case k4 => k_asm); (case k5 => k_asm); (case kK => first | exact rfl | assumption); (case kd => ktr_room); (case ku => ktr_units); (case ki => exact trivial)); (case h1 => (first | assumption | omega | ((try dsimp only); omega) | ((try dsimp only); (simp (disch := decide) only [Int.fdiv_eq_ediv_of_nonneg, Int.fmod_eq_emod_of_nonneg]); omega) | trivial | (refine ⟨?_, ?_, ?_, ?_, ?_, ?_, ?_, ?_, ?_, ?_, ?_, ?_, ?_, ?_⟩ <;> first | assumption | omega) | decide | (exact decide_eq_true (by omega)) | k_extra "pre")); (case h2 => (first | assumption | omega | ((try dsimp only); omega) | ((try dsimp only); (simp (disch := decide) only [Int.fdiv_eq_ediv_of_nonneg, Int.fmod_eq_emod_of_nonneg]); omega) | trivial | (refine ⟨?_, ?_, ?_, ?_, ?_, ?_, ?_, ?_, ?_, ?_, ?_, ?_, ?_, ?_⟩ <;> first | assumption | omega) | decide | (exact decide_eq_true (by omega)) | k_extra "pre")); intro v9 n9 h9 tk9 F9 N9 R9; (try dsimp only at R9); (obtain ⟨x9, y9, m9, d9, t91, t92, t93, e9, en9, hy1, hy2, hm1, hm2, hd1, hd2, hn9⟩ := R9); (subst e9; subst en9); (try dsimp only); (try k_sweep); (try k_fold))
  k_with "eval Call Name" => (k_here; (with_reducible show wpAny _ _ (eval (Expr.Call (Expr.Name "Moment" _) _ _ _) _) _ _ _); refine Call_ ?_)
  k_with "call ref" => (k_here; (with_reducible show wpAny _ _ (call (Value.ref 161) _) _ _ _); k_dflt (refine' mom_use (Moment_c _ _ _ _ _ _ _ _ _ _ _ _ _ _ _) ?k1 ?k2 ?k3 ?k4 ?k5 ?kK ?kd ?ku ?ki ?_; (case k1 => k_asm); (case k2 => k_asm); (case k3 => k_asm); (case k4 => k_asm); (case k5 => k_asm); (case kK => first | exact rfl | assumption); (case kd => ktr_room); (case ku => ktr_units); (case ki => exact trivial)); intro x9 dx9 k91 k92 k93 k94 k95 k96 k97 t91 t92 t93 t94 t95 t96 t97 h9 tk9 F9 N9 hl9 hx9; (try dsimp only at N9); (replace hx9 := ltN hx9); (try simp only [AllLt, and_true] at hl9); (try dsimp only); (try k_sweep); (try k_fold))
  k_with "eval Call Name" => (k_here; (with_reducible show wpAny _ _ (eval (Expr.Call (Expr.Name "moment_of" _) _ _ _) _) _ _ _); refine Call_ ?_)
  k_with "call ref" => (k_here; (with_reducible show wpAny _ _ (call (Value.ref 243) _) _ _ _); k_dflt (refine' mof_use (moment_of_c _ _ _ _ _ ?h1 ?h2 ?h3 ?h4) ?k1 ?k2 ?k3 ?k4 ?k5 ?kK ?kd ?ku ?ki ?_; (case k1 => k_asm); (case k2 => k_asm); (case k3 => k_asm); (case k4 => k_asm); (case k5 => k_asm); (case kK => first | exact rfl | assumption); (case kd => ktr_room); (case ku => ktr_units); (case ki => exact trivial)); (case h1 => (first | assumption | omega | ((try dsimp only); omega) | ((try dsimp only); (simp (disch := decide) only [Int.fdiv_eq_ediv_of_nonneg, Int.fmod_eq_emod_of_nonneg]); omega) | trivial | (refine ⟨?_, ?_, ?_, ?_, ?_, ?_, ?_, ?_, ?_, ?_, ?_, ?_, ?_, ?_⟩ <;> first | assumption | omega) | decide | (exact decide_eq_true (by omega)) | k_extra "pre")); (case h2 => (first | assumption | omega | ((try dsimp only); omega) | ((try dsimp only); (simp (disch := decide) only [Int.fdiv_eq_ediv_of_nonneg, Int.fmod_eq_emod_of_nonneg]); omega) | trivial | (refine ⟨?_, ?_, ?_, ?_, ?_, ?_, ?_, ?_, ?_, ?_, ?_, ?_, ?_, ?_⟩ <;> first | assumption | omega) | decide | (exact decide_eq_true (by omega)) | k_extra "pre")); (case h3 => (first | assumption | omega | ((try dsimp only); omega) | ((try dsimp only); (simp (disch := decide) only [Int.fdiv_eq_ediv_of_nonneg, Int.fmod_eq_emod_of_nonneg]); omega) | trivial | (refine ⟨?_, ?_, ?_, ?_, ?_, ?_, ?_, ?_, ?_, ?_, ?_, ?_, ?_, ?_⟩ <;> first | assumption | omega) | decide | (exact decide_eq_true (by omega)) | k_extra "pre")); (case h4 => (first | assumption | omega | ((try dsimp only); omega) | ((try dsimp only); (simp (disch := decide) only [Int.fdiv_eq_ediv_of_nonneg, Int.fmod_eq_emod_of_nonneg]); omega) | trivial | (refine ⟨?_, ?_, ?_, ?_, ?_, ?_, ?_, ?_, ?_, ?_, ?_, ?_, ?_, ?_⟩ <;> first | assumption | omega) | decide | (exact decide_eq_true (by omega)) | k_extra "pre")); intro y9 mo9 d9 hh9 mi9 s9 x9 dx9 k91 k92 k93 k94 k95 k96 k97 t91 t92 t93 t94 t95 t96 t97 h9 tk9 F9 N9 hl9 hx9 hV9 hn9 hm1 hm2 hq9; (try dsimp only at N9); (replace hx9 := ltN hx9); (try simp only [AllLt, and_true] at hl9); (try dsimp only); (try k_sweep); (try k_fold))
  k_with "eval Call Name" => (k_here; (with_reducible show wpAny _ _ (eval (Expr.Call (Expr.Name "instant_of" _) _ _ _) _) _ _ _); refine Call_ ?_)
  k_with "call ref" => (k_here; (with_reducible show wpAny _ _ (call (Value.ref 235) _) _ _ _); k_dflt (refine' spcp_use (instant_of_c _ _ _ _ _ _ _ _ _ ?h1 ?h2) ?k1 ?k2 ?k3 ?k4 ?k5 ?kK ?kd ?ku ?ki ?_; (case k1 => k_asm); (case k2 => k_asm); (case k3 => k_asm); (case k4 => k_asm); (case k5 => k_asm); (case kK => first | exact rfl | assumption); (case kd => ktr_room); (case ku => ktr_units); (case ki => (refine' MomIn.mk ?m1 ?m2; (case m1 => k_mem); (case m2 => k_mem)))); (case h1 => (first | assumption | omega | ((try dsimp only); omega) | ((try dsimp only); (simp (disch := decide) only [Int.fdiv_eq_ediv_of_nonneg, Int.fmod_eq_emod_of_nonneg]); omega) | trivial | (refine ⟨?_, ?_, ?_, ?_, ?_, ?_, ?_, ?_, ?_, ?_, ?_, ?_, ?_, ?_⟩ <;> first | assumption | omega) | decide | (exact decide_eq_true (by omega)) | k_extra "pre")); (case h2 => (first | assumption | omega | ((try dsimp only); omega) | ((try dsimp only); (simp (disch := decide) only [Int.fdiv_eq_ediv_of_nonneg, Int.fmod_eq_emod_of_nonneg]); omega) | trivial | (refine ⟨?_, ?_, ?_, ?_, ?_, ?_, ?_, ?_, ?_, ?_, ?_, ?_, ?_, ?_⟩ <;> first | assumption | omega) | decide | (exact decide_eq_true (by omega)) | k_extra "pre")); intro v9 h9 tk9 F9 N9 R9; (try dsimp only at R9); (obtain ⟨t9, e9⟩ := R9); (subst e9); (try dsimp only); (try k_sweep); (try k_fold))
  k_with "eval Call Name" => (k_here; (with_reducible show wpAny _ _ (eval (Expr.Call (Expr.Name "_law_clock" _) _ _ _) _) _ _ _); refine Call_ ?_)
  k_with "call ref" => (k_here; (with_reducible show wpAny _ _ (call (Value.ref 421) _) _ _ _); k_dflt (refine' spcp_use (law_clock_c _ _ _ _ _ _ _ _ _ ?h1 ?h2) ?k1 ?k2 ?k3 ?k4 ?k5 ?kK ?kd ?ku ?ki ?_; (case k1 => k_asm); (case k2 => k_asm); (case k3 => k_asm); (case k4 => k_asm); (case k5 => k_asm); (case kK => first | exact rfl | assumption); (case kd => ktr_room); (case ku => ktr_units); (case ki => (refine' MomIn.mk ?m1 ?m2; (case m1 => k_mem); (case m2 => k_mem)))); (case h1 => (first | assumption | omega | ((try dsimp only); omega) | ((try dsimp only); (simp (disch := decide) only [Int.fdiv_eq_ediv_of_nonneg, Int.fmod_eq_emod_of_nonneg]); omega) | trivial | (refine ⟨?_, ?_, ?_, ?_, ?_, ?_, ?_, ?_, ?_, ?_, ?_, ?_, ?_, ?_⟩ <;> first | assumption | omega) | decide | (exact decide_eq_true (by omega)) | k_extra "pre")); (case h2 => (first | assumption | omega | ((try dsimp only); omega) | ((try dsimp only); (simp (disch := decide) only [Int.fdiv_eq_ediv_of_nonneg, Int.fmod_eq_emod_of_nonneg]); omega) | trivial | (refine ⟨?_, ?_, ?_, ?_, ?_, ?_, ?_, ?_, ?_, ?_, ?_, ?_, ?_, ?_⟩ <;> first | assumption | omega) | decide | (exact decide_eq_true (by omega)) | k_extra "pre")); intro v9 h9 tk9 F9 N9 R9; (try dsimp only at R9); (obtain ⟨t9, e9⟩ := R9); (subst e9); (try dsimp only); (try k_sweep); (try k_fold))
  k_with "eval Call Name" => (k_here; (with_reducible show wpAny _ _ (eval (Expr.Call (Expr.Name "check_moment" _) _ _ _) _) _ _ _); refine Call_ ?_)
  k_with "call ref" => (k_here; (with_reducible show wpAny _ _ (call (Value.ref 228) _) _ _ _); k_dflt (refine' spcp_use (check_moment_c _ _ _ _ _ _ _ _ _ ?h1) ?k1 ?k2 ?k3 ?k4 ?k5 ?kK ?kd ?ku ?ki ?_; (case k1 => k_asm); (case k2 => k_asm); (case k3 => k_asm); (case k4 => k_asm); (case k5 => k_asm); (case kK => first | exact rfl | assumption); (case kd => ktr_room); (case ku => ktr_units); (case ki => (refine' MomIn.mk ?m1 ?m2; (case m1 => k_mem); (case m2 => k_mem)))); (case h1 => (first | assumption | omega | ((try dsimp only); omega) | ((try dsimp only); (simp (disch := decide) only [Int.fdiv_eq_ediv_of_nonneg, Int.fmod_eq_emod_of_nonneg]); omega) | trivial | (refine ⟨?_, ?_, ?_, ?_, ?_, ?_, ?_, ?_, ?_, ?_, ?_, ?_, ?_, ?_⟩ <;> first | assumption | omega) | decide | (exact decide_eq_true (by omega)) | k_extra "pre")); intro v9 h9 tk9 F9 N9 R9; (try dsimp only at R9); (subst R9); (try dsimp only); (try k_sweep); (try k_fold))
  k_with "eval Call Name" => (k_here; (with_reducible show wpAny _ _ (eval (Expr.Call (Expr.Name "padded" _) _ _ _) _) _ _ _); refine Call_ ?_)
  k_with "call ref" => (k_here; (with_reducible show wpAny _ _ (call (Value.ref 260) _) _ _ _); k_dflt (refine' pur_use (padded2_c _ _ _ _ ?h1 ?h2) ?k1 ?k2 ?k3 ?k4 ?k5 ?kK ?kd ?ku ?_; (case k1 => k_asm); (case k2 => k_asm); (case k3 => k_asm); (case k4 => k_asm); (case k5 => k_asm); (case kK => first | exact rfl | assumption); (case kd => ktr_room); (case ku => ktr_units)); (case h1 => (first | assumption | omega | ((try dsimp only); omega) | ((try dsimp only); (simp (disch := decide) only [Int.fdiv_eq_ediv_of_nonneg, Int.fmod_eq_emod_of_nonneg]); omega) | trivial | (refine ⟨?_, ?_, ?_, ?_, ?_, ?_, ?_, ?_, ?_, ?_, ?_, ?_, ?_, ?_⟩ <;> first | assumption | omega) | decide | (exact decide_eq_true (by omega)) | k_extra "pre")); (case h2 => (first | assumption | omega | ((try dsimp only); omega) | ((try dsimp only); (simp (disch := decide) only [Int.fdiv_eq_ediv_of_nonneg, Int.fmod_eq_emod_of_nonneg]); omega) | trivial | (refine ⟨?_, ?_, ?_, ?_, ?_, ?_, ?_, ?_, ?_, ?_, ?_, ?_, ?_, ?_⟩ <;> first | assumption | omega) | decide | (exact decide_eq_true (by omega)) | k_extra "pre")); intro v9 h9 tk9 F9 N9 R9; (try dsimp only at R9); (obtain ⟨y9, t9, e9, hy9, hl9⟩ := R9); (subst e9); (try dsimp only); (try k_sweep); (try k_fold))
  k_with "call ref" => (k_here; (with_reducible show wpAny _ _ (call (Value.ref 260) _) _ _ _); k_dflt (refine' pur_use (padded4_c _ _ _ _ ?h1 ?h2) ?k1 ?k2 ?k3 ?k4 ?k5 ?kK ?kd ?ku ?_; (case k1 => k_asm); (case k2 => k_asm); (case k3 => k_asm); (case k4 => k_asm); (case k5 => k_asm); (case kK => first | exact rfl | assumption); (case kd => ktr_room); (case ku => ktr_units)); (case h1 => (first | assumption | omega | ((try dsimp only); omega) | ((try dsimp only); (simp (disch := decide) only [Int.fdiv_eq_ediv_of_nonneg, Int.fmod_eq_emod_of_nonneg]); omega) | trivial | (refine ⟨?_, ?_, ?_, ?_, ?_, ?_, ?_, ?_, ?_, ?_, ?_, ?_, ?_, ?_⟩ <;> first | assumption | omega) | decide | (exact decide_eq_true (by omega)) | k_extra "pre")); (case h2 => (first | assumption | omega | ((try dsimp only); omega) | ((try dsimp only); (simp (disch := decide) only [Int.fdiv_eq_ediv_of_nonneg, Int.fmod_eq_emod_of_nonneg]); omega) | trivial | (refine ⟨?_, ?_, ?_, ?_, ?_, ?_, ?_, ?_, ?_, ?_, ?_, ?_, ?_, ?_⟩ <;> first | assumption | omega) | decide | (exact decide_eq_true (by omega)) | k_extra "pre")); intro v9 h9 tk9 F9 N9 R9; (try dsimp only at R9); (obtain ⟨y9, t9, e9, hy9, hl9⟩ := R9); (subst e9); (try dsimp only); (try k_sweep); (try k_fold))
  k_with "eval Call Name" => (k_here; (with_reducible show wpAny _ _ (eval (Expr.Call (Expr.Name "zone_text" _) _ _ _) _) _ _ _); refine Call_ ?_)
  k_with "call ref" => (k_here; (with_reducible show wpAny _ _ (call (Value.ref 267) _) _ _ _); k_dflt (refine' pur_use (zone_text_c _ _ _ ?h1 ?h2) ?k1 ?k2 ?k3 ?k4 ?k5 ?kK ?kd ?ku ?_; (case k1 => k_asm); (case k2 => k_asm); (case k3 => k_asm); (case k4 => k_asm); (case k5 => k_asm); (case kK => first | exact rfl | assumption); (case kd => ktr_room); (case ku => ktr_units)); (case h1 => (first | assumption | omega | ((try dsimp only); omega) | ((try dsimp only); (simp (disch := decide) only [Int.fdiv_eq_ediv_of_nonneg, Int.fmod_eq_emod_of_nonneg]); omega) | trivial | (refine ⟨?_, ?_, ?_, ?_, ?_, ?_, ?_, ?_, ?_, ?_, ?_, ?_, ?_, ?_⟩ <;> first | assumption | omega) | decide | (exact decide_eq_true (by omega)) | k_extra "pre")); (case h2 => (first | assumption | omega | ((try dsimp only); omega) | ((try dsimp only); (simp (disch := decide) only [Int.fdiv_eq_ediv_of_nonneg, Int.fmod_eq_emod_of_nonneg]); omega) | trivial | (refine ⟨?_, ?_, ?_, ?_, ?_, ?_, ?_, ?_, ?_, ?_, ?_, ?_, ?_, ?_⟩ <;> first | assumption | omega) | decide | (exact decide_eq_true (by omega)) | k_extra "pre")); intro v9 h9 tk9 F9 N9 R9; (try dsimp only at R9); (obtain ⟨y9, t9, e9, hy9, hl9⟩ := R9); (subst e9); (try dsimp only); (try k_sweep); (try k_fold))
  k_with "exec Assign cons ListComp" => ((with_reducible show wpAny _ _ (exec (Stmt.Assign _ (Expr.ListComp (Expr.Call (Expr.Name "padded" _) _ _ _) _ _ _) _) _) _ _ _); walk_at "NZ ACOMP")
  k_with "eval Call Name" => (k_here; (with_reducible show wpAny _ _ (eval (Expr.Call (Expr.Name "clock_text" _) _ _ _) _) _ _ _); refine Call_ ?_)
  k_with "call ref" => (k_here; (with_reducible show wpAny _ _ (call (Value.ref 272) _) _ _ _); k_dflt (refine' spcp_use (clock_text_c _ _ _ _ _ _ _ _ _ ?h1) ?k1 ?k2 ?k3 ?k4 ?k5 ?kK ?kd ?ku ?ki ?_; (case k1 => k_asm); (case k2 => k_asm); (case k3 => k_asm); (case k4 => k_asm); (case k5 => k_asm); (case kK => first | exact rfl | assumption); (case kd => ktr_room); (case ku => ktr_units); (case ki => (refine' MomIn.mk ?m1 ?m2; (case m1 => k_mem); (case m2 => k_mem)))); (case h1 => (first | assumption | omega | ((try dsimp only); omega) | ((try dsimp only); (simp (disch := decide) only [Int.fdiv_eq_ediv_of_nonneg, Int.fmod_eq_emod_of_nonneg]); omega) | trivial | (refine ⟨?_, ?_, ?_, ?_, ?_, ?_, ?_, ?_, ?_, ?_, ?_, ?_, ?_, ?_⟩ <;> first | assumption | omega) | decide | (exact decide_eq_true (by omega)) | k_extra "pre")); intro v9 h9 tk9 F9 N9 R9; (try dsimp only at R9); (obtain ⟨y9, t9, e9, hy9, hl9⟩ := R9); (subst e9); (try dsimp only); (try k_sweep); (try k_fold))
  k_with "exec Assign cons ListComp" => ((with_reducible show wpAny _ _ (exec (Stmt.Assign _ (Expr.ListComp (Expr.Call (Expr.Name "lower_text" _) _ _ _) _ _ _) _) _) _ _ _); walk_at "NZ ACOMP")
  k_with "eval ListComp" => ((with_reducible show wpAny _ _ (eval (Expr.ListComp (Expr.Call (Expr.Name "lower_text" _) _ _ _) _ _ _) _) _ _ _); walk_at "NZ ECOMP")
  k_with "eval Call Name" => (k_here; (with_reducible show wpAny _ _ (eval (Expr.Call (Expr.Name "month_number" _) _ _ _) _) _ _ _); refine Call_ ?_)
  k_with "call ref" => (k_here; (with_reducible show wpAny _ _ (call (Value.ref 248) _) _ _ _); k_dflt (refine' pur_use (month_number_c _ _ _ _ ?h1 ?h2) ?k1 ?k2 ?k3 ?k4 ?k5 ?kK ?kd ?ku ?_; (case k1 => k_asm); (case k2 => k_asm); (case k3 => k_asm); (case k4 => k_asm); (case k5 => k_asm); (case kK => first | exact rfl | assumption); (case kd => ktr_room); (case ku => ktr_units)); (case h1 => (first | assumption | omega | ((try dsimp only); omega) | ((try dsimp only); (simp (disch := decide) only [Int.fdiv_eq_ediv_of_nonneg, Int.fmod_eq_emod_of_nonneg]); omega) | trivial | (refine ⟨?_, ?_, ?_, ?_, ?_, ?_, ?_, ?_, ?_, ?_, ?_, ?_, ?_, ?_⟩ <;> first | assumption | omega) | decide | (exact decide_eq_true (by omega)) | k_extra "pre")); (case h2 => (first | assumption | omega | ((try dsimp only); omega) | ((try dsimp only); (simp (disch := decide) only [Int.fdiv_eq_ediv_of_nonneg, Int.fmod_eq_emod_of_nonneg]); omega) | trivial | (refine ⟨?_, ?_, ?_, ?_, ?_, ?_, ?_, ?_, ?_, ?_, ?_, ?_, ?_, ?_⟩ <;> first | assumption | omega) | decide | (exact decide_eq_true (by omega)) | k_extra "pre")); intro v9 h9 tk9 F9 N9 R9; (try dsimp only at R9); (obtain ⟨t9, e9⟩ := R9); (subst e9); (try dsimp only); (try k_sweep); (try k_fold))
  k_with "eval Call Name" => (k_here; (with_reducible show wpAny _ _ (eval (Expr.Call (Expr.Name "is_day_name" _) _ _ _) _) _ _ _); refine Call_ ?_)
  k_with "call ref" => (k_here; (with_reducible show wpAny _ _ (call (Value.ref 253) _) _ _ _); k_dflt (refine' pur_use (is_day_name_c _ _ _ ?h1) ?k1 ?k2 ?k3 ?k4 ?k5 ?kK ?kd ?ku ?_; (case k1 => k_asm); (case k2 => k_asm); (case k3 => k_asm); (case k4 => k_asm); (case k5 => k_asm); (case kK => first | exact rfl | assumption); (case kd => ktr_room); (case ku => ktr_units)); (case h1 => (first | assumption | omega | ((try dsimp only); omega) | ((try dsimp only); (simp (disch := decide) only [Int.fdiv_eq_ediv_of_nonneg, Int.fmod_eq_emod_of_nonneg]); omega) | trivial | (refine ⟨?_, ?_, ?_, ?_, ?_, ?_, ?_, ?_, ?_, ?_, ?_, ?_, ?_, ?_⟩ <;> first | assumption | omega) | decide | (exact decide_eq_true (by omega)) | k_extra "pre")); intro v9 h9 tk9 F9 N9 R9; (try dsimp only at R9); (subst R9); (try dsimp only); (try k_sweep); (try k_fold))
  k_with "eval Call Name" => (k_here; (with_reducible show wpAny _ _ (eval (Expr.Call (Expr.Name "day_text" _) _ _ _) _) _ _ _); refine Call_ ?_)
  k_with "call ref" => (k_here; (with_reducible show wpAny _ _ (call (Value.ref 383) _) _ _ _); k_dflt (refine' pur_use (day_text_c _ _ _ _ _ _ _ ?h1 ?h2 ?h3 ?h4 ?h5 ?h6) ?k1 ?k2 ?k3 ?k4 ?k5 ?kK ?kd ?ku ?_; (case k1 => k_asm); (case k2 => k_asm); (case k3 => k_asm); (case k4 => k_asm); (case k5 => k_asm); (case kK => first | exact rfl | assumption); (case kd => ktr_room); (case ku => ktr_units)); (case h1 => (first | assumption | omega | ((try dsimp only); omega) | ((try dsimp only); (simp (disch := decide) only [Int.fdiv_eq_ediv_of_nonneg, Int.fmod_eq_emod_of_nonneg]); omega) | trivial | (refine ⟨?_, ?_, ?_, ?_, ?_, ?_, ?_, ?_, ?_, ?_, ?_, ?_, ?_, ?_⟩ <;> first | assumption | omega) | decide | (exact decide_eq_true (by omega)) | k_extra "pre")); (case h2 => (first | assumption | omega | ((try dsimp only); omega) | ((try dsimp only); (simp (disch := decide) only [Int.fdiv_eq_ediv_of_nonneg, Int.fmod_eq_emod_of_nonneg]); omega) | trivial | (refine ⟨?_, ?_, ?_, ?_, ?_, ?_, ?_, ?_, ?_, ?_, ?_, ?_, ?_, ?_⟩ <;> first | assumption | omega) | decide | (exact decide_eq_true (by omega)) | k_extra "pre")); (case h3 => (first | assumption | omega | ((try dsimp only); omega) | ((try dsimp only); (simp (disch := decide) only [Int.fdiv_eq_ediv_of_nonneg, Int.fmod_eq_emod_of_nonneg]); omega) | trivial | (refine ⟨?_, ?_, ?_, ?_, ?_, ?_, ?_, ?_, ?_, ?_, ?_, ?_, ?_, ?_⟩ <;> first | assumption | omega) | decide | (exact decide_eq_true (by omega)) | k_extra "pre")); (case h4 => (first | assumption | omega | ((try dsimp only); omega) | ((try dsimp only); (simp (disch := decide) only [Int.fdiv_eq_ediv_of_nonneg, Int.fmod_eq_emod_of_nonneg]); omega) | trivial | (refine ⟨?_, ?_, ?_, ?_, ?_, ?_, ?_, ?_, ?_, ?_, ?_, ?_, ?_, ?_⟩ <;> first | assumption | omega) | decide | (exact decide_eq_true (by omega)) | k_extra "pre")); (case h5 => (first | assumption | omega | ((try dsimp only); omega) | ((try dsimp only); (simp (disch := decide) only [Int.fdiv_eq_ediv_of_nonneg, Int.fmod_eq_emod_of_nonneg]); omega) | trivial | (refine ⟨?_, ?_, ?_, ?_, ?_, ?_, ?_, ?_, ?_, ?_, ?_, ?_, ?_, ?_⟩ <;> first | assumption | omega) | decide | (exact decide_eq_true (by omega)) | k_extra "pre")); (case h6 => (first | assumption | omega | ((try dsimp only); omega) | ((try dsimp only); (simp (disch := decide) only [Int.fdiv_eq_ediv_of_nonneg, Int.fmod_eq_emod_of_nonneg]); omega) | trivial | (refine ⟨?_, ?_, ?_, ?_, ?_, ?_, ?_, ?_, ?_, ?_, ?_, ?_, ?_, ?_⟩ <;> first | assumption | omega) | decide | (exact decide_eq_true (by omega)) | k_extra "pre")); intro v9 h9 tk9 F9 N9 R9; (try dsimp only at R9); (obtain ⟨y9, t9, e9, hy9, hl9⟩ := R9); (subst e9); (try dsimp only); (try k_sweep); (try k_fold))
  k_with "eval Call Name" => (k_here; (with_reducible show wpAny _ _ (eval (Expr.Call (Expr.Name "write_internal" _) _ _ _) _) _ _ _); refine Call_ ?_)
  k_with "call ref" => (k_here; (with_reducible show wpAny _ _ (call (Value.ref 402) _) _ _ _); k_dflt (refine' spcp_use (write_internal_c _ _ _ _ _ _ _ _ _ ?h1) ?k1 ?k2 ?k3 ?k4 ?k5 ?kK ?kd ?ku ?ki ?_; (case k1 => k_asm); (case k2 => k_asm); (case k3 => k_asm); (case k4 => k_asm); (case k5 => k_asm); (case kK => first | exact rfl | assumption); (case kd => ktr_room); (case ku => ktr_units); (case ki => (refine' MomIn.mk ?m1 ?m2; (case m1 => k_mem); (case m2 => k_mem)))); (case h1 => (first | assumption | omega | ((try dsimp only); omega) | ((try dsimp only); (simp (disch := decide) only [Int.fdiv_eq_ediv_of_nonneg, Int.fmod_eq_emod_of_nonneg]); omega) | trivial | (refine ⟨?_, ?_, ?_, ?_, ?_, ?_, ?_, ?_, ?_, ?_, ?_, ?_, ?_, ?_⟩ <;> first | assumption | omega) | decide | (exact decide_eq_true (by omega)) | k_extra "pre")); intro v9 h9 tk9 F9 N9 R9; (try dsimp only at R9); (obtain ⟨y9, t9, e9, hy9, hl9⟩ := R9); (subst e9); (try dsimp only); (try k_sweep); (try k_fold))
  k_with "eval Call Name" => (k_here; (with_reducible show wpAny _ _ (eval (Expr.Call (Expr.Name "zone_in" _) _ _ _) _) _ _ _); refine Call_ ?_)
  k_with "call ref" => (k_here; (with_reducible show wpAny _ _ (call (Value.ref 284) _) _ _ _); k_dflt (refine' pur_use (zone_in_c _ _ _ _ ?h1 ?h2 ?h3) ?k1 ?k2 ?k3 ?k4 ?k5 ?kK ?kd ?ku ?_; (case k1 => k_asm); (case k2 => k_asm); (case k3 => k_asm); (case k4 => k_asm); (case k5 => k_asm); (case kK => first | exact rfl | assumption); (case kd => ktr_room); (case ku => ktr_units)); (case h1 => (first | assumption | omega | ((try dsimp only); omega) | ((try dsimp only); (simp (disch := decide) only [Int.fdiv_eq_ediv_of_nonneg, Int.fmod_eq_emod_of_nonneg]); omega) | trivial | (refine ⟨?_, ?_, ?_, ?_, ?_, ?_, ?_, ?_, ?_, ?_, ?_, ?_, ?_, ?_⟩ <;> first | assumption | omega) | decide | (exact decide_eq_true (by omega)) | k_extra "pre")); (case h2 => (first | assumption | omega | ((try dsimp only); omega) | ((try dsimp only); (simp (disch := decide) only [Int.fdiv_eq_ediv_of_nonneg, Int.fmod_eq_emod_of_nonneg]); omega) | trivial | (refine ⟨?_, ?_, ?_, ?_, ?_, ?_, ?_, ?_, ?_, ?_, ?_, ?_, ?_, ?_⟩ <;> first | assumption | omega) | decide | (exact decide_eq_true (by omega)) | k_extra "pre")); (case h3 => (first | assumption | omega | ((try dsimp only); omega) | ((try dsimp only); (simp (disch := decide) only [Int.fdiv_eq_ediv_of_nonneg, Int.fmod_eq_emod_of_nonneg]); omega) | trivial | (refine ⟨?_, ?_, ?_, ?_, ?_, ?_, ?_, ?_, ?_, ?_, ?_, ?_, ?_, ?_⟩ <;> first | assumption | omega) | decide | (exact decide_eq_true (by omega)) | k_extra "pre")); intro v9 h9 tk9 F9 N9 R9; (try dsimp only at R9); (obtain ⟨t9, e9⟩ := R9); (subst e9); (try dsimp only); (try k_sweep); (try k_fold))
  k_with "call builtin:str.split" => (k_here; (with_reducible show wpAny _ _ (call (Value.builtin "str.split") _) _ _ _); (refine KSpl.split1 (by k_asm) (by k_asm) (by decide) ?_ (by rw [sizeLine_eq]; omega)); intro D' l' h' k' e' a' F' N' l1; (try k_lt l1); (have e2' := Eq.trans e' (by with_reducible assumption)); (clear e'); kspl_open e2'; (simp only [strValues, List.map_cons, List.map_nil] at N' a'))
  k_with "eval Call Name" => (k_here; (with_reducible show wpAny _ _ (eval (Expr.Call (Expr.Name "day_in" _) _ _ _) _) _ _ _); refine Call_ ?_)
  k_with "call ref" => (k_here; (with_reducible show wpAny _ _ (call (Value.ref 390) _) _ _ _); k_dflt (refine' spc_use (day_in_c _ _ _ _ _ _ _ _ _ ?h1 ?h2 ?h3 ?h4 ?h5 ?h6 ?h7 ?h8 ?h9 ?h10) ?k1 ?k2 ?k3 ?k4 ?k5 ?kK ?kd ?ku ?ki ?_; (case k1 => k_asm); (case k2 => k_asm); (case k3 => k_asm); (case k4 => k_asm); (case k5 => k_asm); (case kK => first | exact rfl | assumption); (case kd => ktr_room); (case ku => ktr_units); (case ki => exact trivial)); (case h1 => (first | assumption | omega | ((try dsimp only); omega) | ((try dsimp only); (simp (disch := decide) only [Int.fdiv_eq_ediv_of_nonneg, Int.fmod_eq_emod_of_nonneg]); omega) | trivial | (refine ⟨?_, ?_, ?_, ?_, ?_, ?_, ?_, ?_, ?_, ?_, ?_, ?_, ?_, ?_⟩ <;> first | assumption | omega) | decide | (exact decide_eq_true (by omega)) | k_extra "pre")); (case h4 => (first | assumption | omega | ((try dsimp only); omega) | ((try dsimp only); (simp (disch := decide) only [Int.fdiv_eq_ediv_of_nonneg, Int.fmod_eq_emod_of_nonneg]); omega) | trivial | (refine ⟨?_, ?_, ?_, ?_, ?_, ?_, ?_, ?_, ?_, ?_, ?_, ?_, ?_, ?_⟩ <;> first | assumption | omega) | decide | (exact decide_eq_true (by omega)) | k_extra "pre")); (case h2 => (first | assumption | omega | ((try dsimp only); omega) | ((try dsimp only); (simp (disch := decide) only [Int.fdiv_eq_ediv_of_nonneg, Int.fmod_eq_emod_of_nonneg]); omega) | trivial | (refine ⟨?_, ?_, ?_, ?_, ?_, ?_, ?_, ?_, ?_, ?_, ?_, ?_, ?_, ?_⟩ <;> first | assumption | omega) | decide | (exact decide_eq_true (by omega)) | k_extra "pre")); (case h3 => (first | assumption | omega | ((try dsimp only); omega) | ((try dsimp only); (simp (disch := decide) only [Int.fdiv_eq_ediv_of_nonneg, Int.fmod_eq_emod_of_nonneg]); omega) | trivial | (refine ⟨?_, ?_, ?_, ?_, ?_, ?_, ?_, ?_, ?_, ?_, ?_, ?_, ?_, ?_⟩ <;> first | assumption | omega) | decide | (exact decide_eq_true (by omega)) | k_extra "pre")); (case h5 => (first | assumption | omega | ((try dsimp only); omega) | ((try dsimp only); (simp (disch := decide) only [Int.fdiv_eq_ediv_of_nonneg, Int.fmod_eq_emod_of_nonneg]); omega) | trivial | (refine ⟨?_, ?_, ?_, ?_, ?_, ?_, ?_, ?_, ?_, ?_, ?_, ?_, ?_, ?_⟩ <;> first | assumption | omega) | decide | (exact decide_eq_true (by omega)) | k_extra "pre")); (case h6 => (first | assumption | omega | ((try dsimp only); omega) | ((try dsimp only); (simp (disch := decide) only [Int.fdiv_eq_ediv_of_nonneg, Int.fmod_eq_emod_of_nonneg]); omega) | trivial | (refine ⟨?_, ?_, ?_, ?_, ?_, ?_, ?_, ?_, ?_, ?_, ?_, ?_, ?_, ?_⟩ <;> first | assumption | omega) | decide | (exact decide_eq_true (by omega)) | k_extra "pre")); (case h7 => (first | assumption | omega | ((try dsimp only); omega) | ((try dsimp only); (simp (disch := decide) only [Int.fdiv_eq_ediv_of_nonneg, Int.fmod_eq_emod_of_nonneg]); omega) | trivial | (refine ⟨?_, ?_, ?_, ?_, ?_, ?_, ?_, ?_, ?_, ?_, ?_, ?_, ?_, ?_⟩ <;> first | assumption | omega) | decide | (exact decide_eq_true (by omega)) | k_extra "pre")); (case h8 => (first | assumption | omega | ((try dsimp only); omega) | ((try dsimp only); (simp (disch := decide) only [Int.fdiv_eq_ediv_of_nonneg, Int.fmod_eq_emod_of_nonneg]); omega) | trivial | (refine ⟨?_, ?_, ?_, ?_, ?_, ?_, ?_, ?_, ?_, ?_, ?_, ?_, ?_, ?_⟩ <;> first | assumption | omega) | decide | (exact decide_eq_true (by omega)) | k_extra "pre")); (case h9 => (first | assumption | omega | ((try dsimp only); omega) | ((try dsimp only); (simp (disch := decide) only [Int.fdiv_eq_ediv_of_nonneg, Int.fmod_eq_emod_of_nonneg]); omega) | trivial | (refine ⟨?_, ?_, ?_, ?_, ?_, ?_, ?_, ?_, ?_, ?_, ?_, ?_, ?_, ?_⟩ <;> first | assumption | omega) | decide | (exact decide_eq_true (by omega)) | k_extra "pre")); (case h10 => (first | assumption | omega | ((try dsimp only); omega) | ((try dsimp only); (simp (disch := decide) only [Int.fdiv_eq_ediv_of_nonneg, Int.fmod_eq_emod_of_nonneg]); omega) | trivial | (refine ⟨?_, ?_, ?_, ?_, ?_, ?_, ?_, ?_, ?_, ?_, ?_, ?_, ?_, ?_⟩ <;> first | assumption | omega) | decide | (exact decide_eq_true (by omega)) | k_extra "pre")); intro v9 n9 h9 tk9 F9 N9 R9; (try dsimp only at R9); (obtain ⟨x9, t91, t92, t93, e9, en9, hl9⟩ := R9); (subst e9; subst en9; (try simp only [AllLt, and_true] at hl9)); (try dsimp only); (try k_sweep); (try k_fold))
  k_with "ite" => ((with_reducible show ite (_ = true) (wpAny _ _ (eval (Expr.Constant (Const.int 1) _ _) _) _ _ _) (wpAny _ _ (eval (Expr.Constant (Const.int 0) _ _) _) _ _ _)); refine const_join ?_)
  k_with "exec Assign cons ListComp" => ((with_reducible show wpAny _ _ (exec (Stmt.Assign [Expr.Tuple _ _ _] (Expr.ListComp (Expr.Call (Expr.Name "int" _) _ _ _) _ _ _) _) _) _ _ _); k_dflt (walk_at "exec Assign"))
  k_with "eval ListComp" => ((with_reducible show wpAny _ _ (eval (Expr.ListComp (Expr.Call (Expr.Name "int" _) [Expr.Name "part" _] _ _) _ _ _) _) _ _ _); walk_at "NZ ECOMP")
  trivial
theorem rows_53_69 : True := by
  k_with "eval Call Name" => (k_here; (with_reducible show wpAny _ _ (eval (Expr.Call (Expr.Name "read_internal" _) _ _ _) _) _ _ _); refine Call_ ?_)
  k_with "call ref" => (k_here; (with_reducible show wpAny _ _ (call (Value.ref 395) _) _ _ _); k_dflt (refine' mom_use (read_internal_c _ _ _ _ _ _ _ _ _ _ ?h1 ?h2) ?k1 ?k2 ?k3 ?k4 ?k5 ?kK ?kd ?ku ?ki ?_; (case k1 => k_asm); (case k2 => k_asm); (case k3 => k_asm); (case k4 => k_asm); (case k5 => k_asm); (case kK => first | exact rfl | assumption); (case kd => ktr_room); (case ku => ktr_units); (case ki => exact trivial)); (case h2 => (first | assumption | omega | ((try dsimp only); omega) | ((try dsimp only); (simp (disch := decide) only [Int.fdiv_eq_ediv_of_nonneg, Int.fmod_eq_emod_of_nonneg]); omega) | trivial | (refine ⟨?_, ?_, ?_, ?_, ?_, ?_, ?_, ?_, ?_, ?_, ?_, ?_, ?_, ?_⟩ <;> first | assumption | omega) | decide | (exact decide_eq_true (by omega)) | k_extra "pre")); (case h1 => (first | assumption | omega | ((try dsimp only); omega) | ((try dsimp only); (simp (disch := decide) only [Int.fdiv_eq_ediv_of_nonneg, Int.fmod_eq_emod_of_nonneg]); omega) | trivial | (refine ⟨?_, ?_, ?_, ?_, ?_, ?_, ?_, ?_, ?_, ?_, ?_, ?_, ?_, ?_⟩ <;> first | assumption | omega) | decide | (exact decide_eq_true (by omega)) | k_extra "pre")); intro x9 dx9 k91 k92 k93 k94 k95 k96 k97 t91 t92 t93 t94 t95 t96 t97 h9 tk9 F9 N9 hl9 hx9; (try dsimp only at N9); (replace hx9 := ltN hx9); (try simp only [AllLt, and_true] at hl9); (try dsimp only); (try k_sweep); (try k_fold))
  trivial

def dayL (i : Nat) : List Nat := (DAY.getD i Str.empty).cps.toList
theorem dayL_len : ∀ i : Fin 7, (DAY.getD i.val Str.empty).length = 3 := by decide +kernel
def wdi (y mo d : Int) : Nat := ((dayNum y mo d + 3) % 7).toNat
def dDateH (y mo d h mi s z : Int) : List Nat := dayL (wdi y mo d) ++ 44 :: 32 :: (dDay d.toNat ++ 32 :: (monL (mo - 1).toNat ++ 32 :: (d4 y.toNat ++ 32 :: dClock h mi s z)))
theorem rows_54_70 : True := by
  k_with "eval ListComp" => ((with_reducible show wpAny _ _ (eval (Expr.ListComp (Expr.Call (Expr.Name "ord" _) [Expr.Name "sign" _] _ _) _ _ _) _) _ _ _); walk_at "NZ ECOMP")
  trivial
theorem each_ints {α : Type} (g : α → Int) : ∀ {ds : List α} {vs : List Value}, Each (fun c v => ∃ t, v = .int (g c) t) ds vs → IntsAre vs (ds.map g)
  | _, _, .nil => .nil
  | _, _, .cons ⟨t, e⟩ r => by subst e; exact .cons _ t (each_ints g r)
theorem byteArr_map (l : List Nat) (h : ∀ c ∈ l, c < 256) : (byteArr (l.map fun c : Nat => (c : Int))).toList.map (·.toNat) = l := by
  show ((l.map fun c : Nat => (c : Int)).map fun n : Int => n.toNat.toUInt8).map (·.toNat) = l
  rw [List.map_map, List.map_map]
  refine (List.map_congr_left (g := _root_.id) fun c hc => ?_).trans (List.map_id _)
  have := h c hc
  show (UInt8.ofNat ((c : Int)).toNat).toNat = c
  rw [UInt8.toNat_ofNat', Int.toNat_natCast]
  omega
theorem byteIn_map (l : List Nat) (h : ∀ c ∈ l, c < 256) : KBa.In (l.map fun c : Nat => (c : Int)) := by
  intro n hn
  obtain ⟨c, hc, rfl⟩ := List.mem_map.mp hn
  have := h c hc
  omega
theorem dayL_asc : ∀ i : Fin 7, ∀ c ∈ dayL i.val, c < 128 := by decide +kernel
theorem monL_asc : ∀ i : Fin 12, ∀ c ∈ monL i.val, c < 128 := by decide +kernel
theorem d2_lt {c n : Nat} (hn : n < 100) (hc : c ∈ d2 n) : c < 128 := by simp [d2] at hc; omega
theorem d4_lt {c n : Nat} (hn : n < 10000) (hc : c ∈ d4 n) : c < 128 := by simp [d4] at hc; omega
theorem dDay_lt {c n : Nat} (hn : n < 100) (hc : c ∈ dDay n) : c < 128 := by
  unfold dDay at hc
  by_cases hq : n < 10
  · rw [if_pos hq] at hc; simp at hc; omega
  · rw [if_neg hq] at hc; exact d2_lt hn hc
theorem dZone_lt {c : Nat} {z : Int} (h1 : -5999 ≤ z) (h2 : z ≤ 5999) (hc : c ∈ dZone z) : c < 128 := by
  unfold dZone at hc
  rcases List.mem_cons.mp hc with rfl | hc
  · split <;> decide
  rcases List.mem_append.mp hc with hc | hc
  · exact d2_lt (by omega) hc
  · exact d2_lt (by omega) hc
theorem dClock_lt {c : Nat} {h mi s z : Int} (h1 : h ≤ 23) (h2 : mi ≤ 59) (h3 : s ≤ 59) (h4 : -5999 ≤ z) (h5 : z ≤ 5999) (hc : c ∈ dClock h mi s z) : c < 128 := by
  unfold dClock at hc
  simp only [List.mem_append, List.mem_cons] at hc
  rcases hc with hc | rfl | hc | rfl | hc | rfl | hc
  · exact d2_lt (by omega) hc
  · decide
  · exact d2_lt (by omega) hc
  · decide
  · exact d2_lt (by omega) hc
  · decide
  · exact dZone_lt h4 h5 hc
theorem dDateH_lt {y mo d h mi s z : Int} (hv : Valid y mo d h mi s z) : ∀ c ∈ dDateH y mo d h mi s z, c < 128 := by
  have hml := mLen_pos y mo
  obtain ⟨hy1, hy2, hm1, hm2, hd1, hd2, hh1, hh2, hi1, hi2, hs1, hs2, hz1, hz2⟩ := hv
  intro c hc
  unfold dDateH at hc
  simp only [List.mem_append, List.mem_cons] at hc
  rcases hc with hc | rfl | rfl | hc | rfl | hc | rfl | hc | rfl | hc
  · exact dayL_asc ⟨wdi y mo d, by unfold wdi; omega⟩ c hc
  · decide
  · decide
  · exact dDay_lt (by omega) hc
  · decide
  · exact monL_asc ⟨(mo - 1).toNat, by omega⟩ c hc
  · decide
  · exact d4_lt (by omega) hc
  · decide
  · exact dClock_lt hh2 hi2 hs2 hz1 hz2 hc
theorem join5 {e a b c d f : Str} (h : e.cps.toList = [32]) : (Txt.join e [a, b, c, d, f]).cps.toList = a.cps.toList ++ 32 :: (b.cps.toList ++ 32 :: (c.cps.toList ++ 32 :: (d.cps.toList ++ 32 :: f.cps.toList))) := by
  simp [Txt.join, Builtin.Str.glued, h]
theorem write_date_c (w : World) (x : Addr) (y mo d h mi s z : Int) (hv : Valid y mo d h mi s z) : Spc w 8 (.ref 376) [.ref x] (MomIn w x y mo d h mi s z) (fun news v news' => news' = news ∧ ∃ b t, v = .bytes b t ∧ b.toList.map (·.toNat) = dDateH y mo d h mi s z) := by
  (try unfold Pur)
  unfold Spc
  k_fill
  intro mean mg mb dp un gd cn cs aF ccd cl outer A₀ base h₀ LF mF news sF QF EF B F X N T hk hdp hun hin hret
  refine wpAny_call ?_
  k_dflt cell_enter
  (with_reducible rename Fr _ _ _ (fun nzy => List.lookup nzy _) => F0)
  replace F0 := fr_eq (m' := fun nzy => List.lookup nzy ([(Str.ofString "moment", Value.ref x)] : List (Str × Value))) F0 (by kernel_rfl)
  obtain ⟨dx, k1, k2, k3, k4, k5, k6, k7, t1, t2, t3, t4, t5, t6, t7, hm1, hm2⟩ := hin
  have hlt := dDateH_lt hv
  have hv' := hv
  have hml := mLen_pos y mo
  obtain ⟨hy1, hy2, hm1, hm2, hd1, hd2, hh1, hh2, hi1, hi2, hs1, hs2, hz1, hz2⟩ := hv'
  have hw1 : 0 ≤ (dayNum y mo d + 3) % 7 := by omega
  have hw2 : (dayNum y mo d + 3) % 7 < 7 := by omega
  have hd : (Str.ofString (toString d)).cps.toList = dDay d.toNat := by
    have := str_day ⟨d.toNat, by omega⟩
    simpa [Int.toNat_of_nonneg (show 0 ≤ d by omega)] using this
  have hdl2 : (Str.ofString (toString d)).length ≤ 2 := by
    rw [len_of hd]; unfold dDay; split <;> exact Nat.le_of_ble_eq_true rfl
  have hwl : (DAY.getD (wdi y mo d) Str.empty).length = 3 := dayL_len ⟨wdi y mo d, by unfold wdi; omega⟩
  have hmL : (MON.getD (mo - 1).toNat Str.empty).length = 3 := monL_len ⟨(mo - 1).toNat, by omega⟩
  k_with "table" => skip
  k_steps
  have e4 := ‹_ = d4 y.toNat›
  have l4 := ‹_ = 4›
  have e5 := ‹_ = dClock h mi s z›
  have l5 := ‹_ = 14›
  have ec : (Str.ofString ",").cps.toList = [44] := by decide +kernel
  have es : (Str.ofString " ").cps.toList = [32] := by decide +kernel
  refine join_listW (News.isList (by k_asm) (by k_mem)) (.cons _ _ (.cons _ _ (.cons _ _ (.cons _ _ (.cons _ _ .nil))))) (by decide) ?_ ?_
  · simp only [List.map_cons, List.map_nil, List.sum_cons, List.sum_nil, List.length_cons, List.length_nil, Str.length_append, l4, l5]
    have h1 : ([Str.ofString "Mon", Str.ofString "Tue", Str.ofString "Wed", Str.ofString "Thu", Str.ofString "Fri", Str.ofString "Sat", Str.ofString "Sun"].getD ((dayNum y mo d + 3) % 7).toNat Str.empty).length = 3 := hwl
    have h2 : ([Str.ofString "Jan", Str.ofString "Feb", Str.ofString "Mar", Str.ofString "Apr", Str.ofString "May", Str.ofString "Jun", Str.ofString "Jul", Str.ofString "Aug", Str.ofString "Sep", Str.ofString "Oct", Str.ofString "Nov", Str.ofString "Dec"].getD (mo - 1).toNat Str.empty).length = 3 := hmL
    have h3 : (Str.ofString ",").length = 1 := by decide +kernel
    omega
  intro t' k'
  generalize hJ : Txt.join (Str.ofString " ") _ = J
  have hJl : J.cps.toList = dDateH y mo d h mi s z := by
    rw [← hJ, join5 es, app_list, ec, e4, e5, hd]
    show (dayL (wdi y mo d) ++ [44]) ++ 32 :: (dDay d.toNat ++ 32 :: (monL (mo - 1).toNat ++ 32 :: (d4 y.toNat ++ 32 :: dClock h mi s z))) = _
    unfold dDateH
    simp only [List.append_assoc, List.cons_append, List.nil_append]
  have hJn : J.cps.size ≤ 100 := by
    rw [← Array.length_toList, hJl]
    have h1 : (dayL (wdi y mo d)).length = 3 := hwl
    have h2 : (monL (mo - 1).toNat).length = 3 := hmL
    have h3 : (dDay d.toNat).length ≤ 2 := by unfold dDay; split <;> exact Nat.le_of_ble_eq_true rfl
    have h4 : (dClock h mi s z).length = 14 := rfl
    have h5 : (d4 y.toNat).length = 4 := rfl
    simp only [dDateH, List.length_append, List.length_cons, h1, h2, h4, h5]
    omega
  k_dflt (refine' GSrc.str ?a1 ?a2 ?a3 ?a4 ?a5; (case a1 => rfl); (case a2 => k_asm); (case a3 => k_asm); (case a4 => (rw [sizeLine_eq]; omega)))
  intro g'
  refine rest_gen J.cps.toList (fun c v => ∃ t, v = .str ⟨#[c]⟩ t) (fun (c : Nat) v => ∃ t, v = .int (c : Int) t) trivial (by simp) ?_ ?_ ?_
  · intro i v hv
    obtain ⟨c, u, hc, rfl⟩ := hv
    exact ⟨c, by simpa using hc, u, rfl⟩
  · intro c v I oI C oC D m₂ ys h tk E' hd hv hC hx F N off ne
    obtain ⟨t, rfl⟩ := hv
    k_fold
    k_steps
    all_goals first | k_asm | trace_state
  · intro ys hy
    have hS := each_ints _ hy
    k_steps
    refine KBa.make_K (by k_asm) (by k_asm) rfl (News.isList (by k_asm) (by k_mem)) hS (byteIn_map _ fun c hc => Nat.lt_trans (hlt c (hJl ▸ hc)) (by decide)) (by rw [List.length_map, Array.length_toList]; omega) ?_
    intro h' t' k' F' N' _
    k_steps
    all_goals (refine' hret _ _ _ _ ?e2 ?e3 (⟨rfl, _, _, rfl, (byteArr_map _ fun c hc => Nat.lt_trans (hlt c (hJl ▸ hc)) (by decide)).trans hJl⟩); (case e2 => k_asm); (case e3 => (first | k_asm | (refine' news_drop ?cbN ?cbS; (case cbN => assumption); (case cbS => kcj_all)))))
theorem rows_54_71 : True := by
  k_with_none
  k_with "NZ LOOK" => ((repeat (first | exact if_hit | refine if_miss (by kernel_rfl) ?_ | exact lk_hit | refine lk_miss (by kernel_rfl) ?_ | assumption)); done)
  k_with "ite" => (k_closed; first | (with_reducible refine ite_neg Bool.false_ne_true ?_) | (with_reducible refine ite_pos rfl ?_) | (with_reducible refine ite_neg (by decide +kernel) ?_) | (with_reducible refine ite_pos (by decide +kernel) ?_))
  k_with "subscriptTail" => ((with_reducible show wpAny _ _ (subscriptTail (Expr.Attribute _ _ _) _ _ _) _ _ _); walk_at "last subscriptTail")
  k_with "NZ SUB" => (intro p9 hp9; (repeat (first | exact hp9 | exact List.mem_append_left _ hp9 | (refine (‹∀ p : Addr × Obj, p ∈ _ → p ∈ _› p9 ?_); exact hp9) | refine List.Mem.tail _ ?_)))
  k_with "eval Name" => (k_here; (with_reducible rename Fr _ _ _ _ => kF); with_reducible (refine' nameX_K kF ?nzX ?nzT ?nze ?_ ?nzk ?nza ?nzb; (case nzX => assumption); (case nzT => k_asm); (case nze => k_is); (case nzk => first | exact rfl | assumption); (case nza => kernel_rfl); (case nzb => kernel_rfl); k_whole))
  k_with "eval Name" => (k_here; (with_reducible rename Fr _ _ _ _ => kF); with_reducible (refine' nameX_L kF ?nzv ?_ ?nzk ?nza ?nzb; (case nza => kernel_rfl!); (case nzv => walk_at "NZ LOOK"); (case nzk => first | exact rfl | assumption); (case nzb => kernel_rfl); k_whole))
  k_with "callWith ref" => (k_here; with_reducible (refine' cw_some ?nzx ?nzk ?_ ?nzhe ?nzhp; (case nzx => assumption); (case nzk => k_is); (case nzhe => kernel_rfl); (case nzhp => kernel_rfl); k_whole))
  k_with "callWith ref" => (k_here; with_reducible (refine' cw_none ?nzx ?nzF ?nzk ?_; (case nzx => assumption); (case nzF => assumption); (case nzk => k_is); k_whole))
  k_with "CompEnd" => (k_dflt (refine' end_same ?a1 ?a2 ?a3 ?a4 ?_; (case a1 => k_asm); (case a2 => k_asm); (case a3 => assumption); (case a4 => lcg_src)))
  k_with "NZ TUP" => (k_dflt (refine' GSrc.tup ?a1 ?a2 ?a3 ?a4 ?a5 ?_; (case a1 => rfl); (case a2 => k_asm); (case a3 => k_asm); (case a4 => first | exact Or.inr ⟨_, by k_mem, rfl, _, rfl⟩ | exact Or.inl (by assumption)); (case a5 => first | exact Nat.le_of_ble_eq_true rfl | size_fits)); intro g')
  k_with "NZ TURN" => (refine ⟨_, _, rfl, by k_asm, by (first | k_asm | (refine' news_drop ?cbN ?cbS; (case cbN => assumption); (case cbS => kcj_all))), ?_⟩)
  k_with "NZ ACOMP" => (k_here; k_dflt (refine Assign_ListComp_G (by k_asm) (by rfl) (by with_unfolding_all rfl) (by rfl) (by decide) (by rfl) (by decide) (by rfl) (by rfl) (by rfl) ?_))
  k_with "NZ ECOMP" => (k_here; k_dflt (refine ListComp_G (by k_asm) (by rfl) (by decide) (by rfl) (by decide) (by rfl) ?_))
  k_with "compareOp In int" => (k_here; (with_reducible show wpAny _ _ (compareOp CmpOp.In (Value.int _ _) (Value.bytes _ _)) _ _ _); (refine By.int_in_bytes (by omega) (by omega) ?_))
  k_with "compareOp In bytes" => (k_here; (with_reducible show wpAny _ _ (compareOp CmpOp.In (Value.bytes _ _) (Value.bytes _ _)) _ _ _); k_dflt (refine' By.bytes_in_bytes ?k1 ?k2 ?k3 ?_; (case k1 => rfl); (case k2 => k_asm); (case k3 => k_asm)); intro h9 tk9 F9 N9; (try k_sweep))
  k_with "exec Assign cons ListComp" => ((with_reducible show wpAny _ _ (exec (Stmt.Assign _ (Expr.ListComp (Expr.Call (Expr.Name "int" _) [Expr.Name "cell" _] _ _) _ _ _) _) _) _ _ _); walk_at "NZ ACOMP")
  k_with "call ref" => (k_here; (with_reducible show wpAny _ _ (call (Value.ref 407) _) _ _ _); k_dflt (refine' spcl_use (law_box_c _ _ _ _ ?h1 ?h2) ?k1 ?k2 ?k3 ?k4 ?k5 ?kK ?kd ?ku ?ki ?kL ?_; (case k1 => k_asm); (case k2 => k_asm); (case k3 => k_asm); (case k4 => k_asm); (case k5 => k_asm); (case kK => first | exact rfl | assumption); (case kd => ktr_room); (case ku => ktr_units); (case ki => exact trivial)); (case kL => with_reducible assumption); (case h1 => with_reducible assumption); (case h2 => omega); intro v9 n9 h9 tk9 F9 N9 R9; (try dsimp only at R9); (obtain ⟨p9, c9, ys9, ks9, cap9, cap29, g9, st9, t91, t92, t93, e9, en9, hy9, hk9, hg90, hg91, hs90, hs91, hcp9, hl9, ho9⟩ := R9); (subst e9; subst en9); (try simp only [AllLt, and_true] at hl9); (try simp only [LCg.Off1, and_true] at ho9); (try dsimp only); (try k_sweep); (try k_fold))
  k_with "call ref" => (k_here; (with_reducible show wpAny _ _ (call (Value.ref 414) _) _ _ _); (try walk_at "NZ SPLIT"); k_dflt (refine' draw_use ?k1 ?k2 ?k3 ?k4 ?k5 ?kK ?kd ?ku ?h1 ?h2 ?h3 ?h4 ?h5 ?h6 ?h7 ?h8 ?h9 ?h10 ?h11 ?h12 ?h13 ?_; (case k1 => k_asm); (case k2 => k_asm); (case k3 => k_asm); (case k4 => k_asm); (case k5 => k_asm); (case kK => first | exact rfl | assumption); (case kd => ktr_room); (case ku => ktr_units)); (case h1 => intro o9; k_upd); (case h2 => k_dflt k_mem); (case h3 => k_ne); (case h4 => with_reducible assumption); (case h5 => with_reducible assumption); (case h6 => with_reducible first | assumption | decide); (case h7 => with_reducible assumption); (case h8 => with_reducible assumption); (case h9 => with_reducible assumption); (case h10 => omega); (case h11 => omega); (case h12 => decide); (case h13 => decide); intro k9 t9 g9 st9 cap9 t91 t92 t93 h9 tk9 F9 N9 hk90 hk91 hg90 hg91 hs90 hs91; (try dsimp only at N9); (try dsimp only); (try k_sweep); (try k_fold))
  k_with "eval Call Name" => (k_here; (with_reducible show wpAny _ _ (eval (Expr.Call (Expr.Name "is_atom_code" _) _ _ _) _) _ _ _); refine Call_ ?_)
  k_with "call ref" => (k_here; (with_reducible show wpAny _ _ (call (Value.ref 74) _) _ _ _); k_dflt (refine' pur_use (is_atom_code_c _ _ _ ?h1) ?k1 ?k2 ?k3 ?k4 ?k5 ?kK ?kd ?ku ?_; (case k1 => k_asm); (case k2 => k_asm); (case k3 => k_asm); (case k4 => k_asm); (case k5 => k_asm); (case kK => first | exact rfl | assumption); (case kd => ktr_room); (case ku => ktr_units)); (case h1 => (first | assumption | omega | ((try dsimp only); omega) | ((try dsimp only); (simp (disch := decide) only [Int.fdiv_eq_ediv_of_nonneg, Int.fmod_eq_emod_of_nonneg]); omega) | trivial | (refine ⟨?_, ?_, ?_, ?_, ?_, ?_, ?_, ?_, ?_, ?_, ?_, ?_, ?_, ?_⟩ <;> first | assumption | omega) | decide | (exact decide_eq_true (by omega)) | k_extra "pre")); intro v9 h9 tk9 F9 N9 R9; (try dsimp only at R9); (subst R9); (try dsimp only); (try k_sweep); (try k_fold))
  k_with "eval Call Name" => (k_here; (with_reducible show wpAny _ _ (eval (Expr.Call (Expr.Name "line_end" _) _ _ _) _) _ _ _); refine Call_ ?_)
  k_with "call ref" => (k_here; (with_reducible show wpAny _ _ (call (Value.ref 81) _) _ _ _); k_dflt (refine' pur_use (line_end_c _ _ _ _ _ _ ?h1 ?h2 ?h3 ?h4 ?h5 ?h6) ?k1 ?k2 ?k3 ?k4 ?k5 ?kK ?kd ?ku ?_; (case k1 => k_asm); (case k2 => k_asm); (case k3 => k_asm); (case k4 => k_asm); (case k5 => k_asm); (case kK => first | exact rfl | assumption); (case kd => ktr_room); (case ku => ktr_units)); (case h1 => (first | assumption | omega | ((try dsimp only); omega) | ((try dsimp only); (simp (disch := decide) only [Int.fdiv_eq_ediv_of_nonneg, Int.fmod_eq_emod_of_nonneg]); omega) | trivial | (refine ⟨?_, ?_, ?_, ?_, ?_, ?_, ?_, ?_, ?_, ?_, ?_, ?_, ?_, ?_⟩ <;> first | assumption | omega) | decide | (exact decide_eq_true (by omega)) | k_extra "pre")); (case h2 => (first | assumption | omega | ((try dsimp only); omega) | ((try dsimp only); (simp (disch := decide) only [Int.fdiv_eq_ediv_of_nonneg, Int.fmod_eq_emod_of_nonneg]); omega) | trivial | (refine ⟨?_, ?_, ?_, ?_, ?_, ?_, ?_, ?_, ?_, ?_, ?_, ?_, ?_, ?_⟩ <;> first | assumption | omega) | decide | (exact decide_eq_true (by omega)) | k_extra "pre")); (case h3 => (first | assumption | omega | ((try dsimp only); omega) | ((try dsimp only); (simp (disch := decide) only [Int.fdiv_eq_ediv_of_nonneg, Int.fmod_eq_emod_of_nonneg]); omega) | trivial | (refine ⟨?_, ?_, ?_, ?_, ?_, ?_, ?_, ?_, ?_, ?_, ?_, ?_, ?_, ?_⟩ <;> first | assumption | omega) | decide | (exact decide_eq_true (by omega)) | k_extra "pre")); (case h4 => (first | assumption | omega | ((try dsimp only); omega) | ((try dsimp only); (simp (disch := decide) only [Int.fdiv_eq_ediv_of_nonneg, Int.fmod_eq_emod_of_nonneg]); omega) | trivial | (refine ⟨?_, ?_, ?_, ?_, ?_, ?_, ?_, ?_, ?_, ?_, ?_, ?_, ?_, ?_⟩ <;> first | assumption | omega) | decide | (exact decide_eq_true (by omega)) | k_extra "pre")); (case h5 => (first | assumption | omega | ((try dsimp only); omega) | ((try dsimp only); (simp (disch := decide) only [Int.fdiv_eq_ediv_of_nonneg, Int.fmod_eq_emod_of_nonneg]); omega) | trivial | (refine ⟨?_, ?_, ?_, ?_, ?_, ?_, ?_, ?_, ?_, ?_, ?_, ?_, ?_, ?_⟩ <;> first | assumption | omega) | decide | (exact decide_eq_true (by omega)) | k_extra "pre")); (case h6 => (first | assumption | omega | ((try dsimp only); omega) | ((try dsimp only); (simp (disch := decide) only [Int.fdiv_eq_ediv_of_nonneg, Int.fmod_eq_emod_of_nonneg]); omega) | trivial | (refine ⟨?_, ?_, ?_, ?_, ?_, ?_, ?_, ?_, ?_, ?_, ?_, ?_, ?_, ?_⟩ <;> first | assumption | omega) | decide | (exact decide_eq_true (by omega)) | k_extra "pre")); intro v9 h9 tk9 F9 N9 R9; (try dsimp only at R9); (obtain ⟨t9, e9⟩ := R9); (subst e9); (try dsimp only); (try k_sweep); (try k_fold))
  k_with "eval Call Name" => (k_here; (with_reducible show wpAny _ _ (eval (Expr.Call (Expr.Name "past_white" _) _ _ _) _) _ _ _); refine Call_ ?_)
  k_with "call ref" => (k_here; (with_reducible show wpAny _ _ (call (Value.ref 123) _) _ _ _); k_dflt (refine' pur_use (past_white_c _ _ _ _ _ _ _ ?h1 ?h2) ?k1 ?k2 ?k3 ?k4 ?k5 ?kK ?kd ?ku ?_; (case k1 => k_asm); (case k2 => k_asm); (case k3 => k_asm); (case k4 => k_asm); (case k5 => k_asm); (case kK => first | exact rfl | assumption); (case kd => ktr_room); (case ku => ktr_units)); (case h1 => (first | assumption | omega | ((try dsimp only); omega) | ((try dsimp only); (simp (disch := decide) only [Int.fdiv_eq_ediv_of_nonneg, Int.fmod_eq_emod_of_nonneg]); omega) | trivial | (refine ⟨?_, ?_, ?_, ?_, ?_, ?_, ?_, ?_, ?_, ?_, ?_, ?_, ?_, ?_⟩ <;> first | assumption | omega) | decide | (exact decide_eq_true (by omega)) | k_extra "pre")); (case h2 => (first | assumption | omega | ((try dsimp only); omega) | ((try dsimp only); (simp (disch := decide) only [Int.fdiv_eq_ediv_of_nonneg, Int.fmod_eq_emod_of_nonneg]); omega) | trivial | (refine ⟨?_, ?_, ?_, ?_, ?_, ?_, ?_, ?_, ?_, ?_, ?_, ?_, ?_, ?_⟩ <;> first | assumption | omega) | decide | (exact decide_eq_true (by omega)) | k_extra "pre")); intro v9 h9 tk9 F9 N9 R9; (try dsimp only at R9); (obtain ⟨t9, e9⟩ := R9); (subst e9); (try dsimp only); (try k_sweep); (try k_fold))
  k_with "eval Call Name" => (k_here; (with_reducible show wpAny _ _ (eval (Expr.Call (Expr.Name "atom_at" _) _ _ _) _) _ _ _); refine Call_ ?_)
  k_with "call ref" => (k_here; (with_reducible show wpAny _ _ (call (Value.ref 109) _) _ _ _); k_dflt (refine' spc_use (atom_at_c _ _ _ _ _ _ _ ?h1 ?h2) ?k1 ?k2 ?k3 ?k4 ?k5 ?kK ?kd ?ku ?ki ?_; (case k1 => k_asm); (case k2 => k_asm); (case k3 => k_asm); (case k4 => k_asm); (case k5 => k_asm); (case kK => first | exact rfl | assumption); (case kd => ktr_room); (case ku => ktr_units); (case ki => exact trivial)); (case h1 => (first | assumption | omega | ((try dsimp only); omega) | ((try dsimp only); (simp (disch := decide) only [Int.fdiv_eq_ediv_of_nonneg, Int.fmod_eq_emod_of_nonneg]); omega) | trivial | (refine ⟨?_, ?_, ?_, ?_, ?_, ?_, ?_, ?_, ?_, ?_, ?_, ?_, ?_, ?_⟩ <;> first | assumption | omega) | decide | (exact decide_eq_true (by omega)) | k_extra "pre")); (case h2 => (first | assumption | omega | ((try dsimp only); omega) | ((try dsimp only); (simp (disch := decide) only [Int.fdiv_eq_ediv_of_nonneg, Int.fmod_eq_emod_of_nonneg]); omega) | trivial | (refine ⟨?_, ?_, ?_, ?_, ?_, ?_, ?_, ?_, ?_, ?_, ?_, ?_, ?_, ?_⟩ <;> first | assumption | omega) | decide | (exact decide_eq_true (by omega)) | k_extra "pre")); intro v9 n9 h9 tk9 F9 N9 R9; (try dsimp only at R9); (obtain ⟨x9, t91, t92, e9, en9, hl9⟩ := R9); (subst e9; subst en9; (try simp only [AllLt, and_true] at hl9)); (try dsimp only); (try k_sweep); (try k_fold))
  k_with "eval Call Name" => (k_here; (with_reducible show wpAny _ _ (eval (Expr.Call (Expr.Name "token_at" _) _ _ _) _) _ _ _); refine Call_ ?_)
  k_with "call ref" => (k_here; (with_reducible show wpAny _ _ (call (Value.ref 116) _) _ _ _); k_dflt (refine' spc_use (token_a_c _ _ _ _ _ _ _ ?h1 ?h2) ?k1 ?k2 ?k3 ?k4 ?k5 ?kK ?kd ?ku ?ki ?_; (case k1 => k_asm); (case k2 => k_asm); (case k3 => k_asm); (case k4 => k_asm); (case k5 => k_asm); (case kK => first | exact rfl | assumption); (case kd => ktr_room); (case ku => ktr_units); (case ki => exact trivial)); (case h1 => (first | assumption | omega | ((try dsimp only); omega) | ((try dsimp only); (simp (disch := decide) only [Int.fdiv_eq_ediv_of_nonneg, Int.fmod_eq_emod_of_nonneg]); omega) | trivial | (refine ⟨?_, ?_, ?_, ?_, ?_, ?_, ?_, ?_, ?_, ?_, ?_, ?_, ?_, ?_⟩ <;> first | assumption | omega) | decide | (exact decide_eq_true (by omega)) | k_extra "pre")); (case h2 => (first | assumption | omega | ((try dsimp only); omega) | ((try dsimp only); (simp (disch := decide) only [Int.fdiv_eq_ediv_of_nonneg, Int.fmod_eq_emod_of_nonneg]); omega) | trivial | (refine ⟨?_, ?_, ?_, ?_, ?_, ?_, ?_, ?_, ?_, ?_, ?_, ?_, ?_, ?_⟩ <;> first | assumption | omega) | decide | (exact decide_eq_true (by omega)) | k_extra "pre")); intro v9 n9 h9 tk9 F9 N9 R9; (try dsimp only at R9); (obtain ⟨x9, y9, t91, t92, t93, t94, e9, en9, hl9, hm9⟩ := R9); (subst e9; subst en9; (try simp only [AllLt, and_true] at hl9); (replace hm9 := ltN hm9)); (try dsimp only); (try k_sweep); (try k_fold))
  k_with "eval Call Name" => (k_here; (with_reducible show wpAny _ _ (eval (Expr.Call (Expr.Name "token_at" _) _ _ _) _) _ _ _); refine Call_ ?_)
  k_with "call ref" => (k_here; (with_reducible show wpAny _ _ (call (Value.ref 116) _) _ _ _); k_dflt (refine' spc_use (token_s_c _ _ _ _ _ _ _ _ ?h1 ?h2) ?k1 ?k2 ?k3 ?k4 ?k5 ?kK ?kd ?ku ?ki ?_; (case k1 => k_asm); (case k2 => k_asm); (case k3 => k_asm); (case k4 => k_asm); (case k5 => k_asm); (case kK => first | exact rfl | assumption); (case kd => ktr_room); (case ku => ktr_units); (case ki => exact trivial)); (case h1 => (first | assumption | omega | ((try dsimp only); omega) | ((try dsimp only); (simp (disch := decide) only [Int.fdiv_eq_ediv_of_nonneg, Int.fmod_eq_emod_of_nonneg]); omega) | trivial | (refine ⟨?_, ?_, ?_, ?_, ?_, ?_, ?_, ?_, ?_, ?_, ?_, ?_, ?_, ?_⟩ <;> first | assumption | omega) | decide | (exact decide_eq_true (by omega)) | k_extra "pre")); (case h2 => (first | assumption | omega | ((try dsimp only); omega) | ((try dsimp only); (simp (disch := decide) only [Int.fdiv_eq_ediv_of_nonneg, Int.fmod_eq_emod_of_nonneg]); omega) | trivial | (refine ⟨?_, ?_, ?_, ?_, ?_, ?_, ?_, ?_, ?_, ?_, ?_, ?_, ?_, ?_⟩ <;> first | assumption | omega) | decide | (exact decide_eq_true (by omega)) | k_extra "pre")); intro v9 n9 h9 tk9 F9 N9 R9; (try dsimp only at R9); (obtain ⟨x9, y9, t91, t92, t93, t94, e9, en9, hl9, hm9⟩ := R9); (subst e9; subst en9; (try simp only [AllLt, and_true] at hl9); (replace hm9 := ltN hm9)); (try dsimp only); (try k_sweep); (try k_fold))
  k_with "eval Call Name" => (k_here; (with_reducible show wpAny _ _ (eval (Expr.Call (Expr.Name "token_at" _) _ _ _) _) _ _ _); refine Call_ ?_)
  k_with "call ref" => (k_here; (with_reducible show wpAny _ _ (call (Value.ref 116) _) _ _ _); k_dflt (refine' spc_use (token_c _ _ _ _ _ _ _ ?h1 ?h2 ?h3) ?k1 ?k2 ?k3 ?k4 ?k5 ?kK ?kd ?ku ?ki ?_; (case k1 => k_asm); (case k2 => k_asm); (case k3 => k_asm); (case k4 => k_asm); (case k5 => k_asm); (case kK => first | exact rfl | assumption); (case kd => ktr_room); (case ku => ktr_units); (case ki => exact trivial)); (case h1 => (first | assumption | omega | ((try dsimp only); omega) | ((try dsimp only); (simp (disch := decide) only [Int.fdiv_eq_ediv_of_nonneg, Int.fmod_eq_emod_of_nonneg]); omega) | trivial | (refine ⟨?_, ?_, ?_, ?_, ?_, ?_, ?_, ?_, ?_, ?_, ?_, ?_, ?_, ?_⟩ <;> first | assumption | omega) | decide | (exact decide_eq_true (by omega)) | k_extra "pre")); (case h2 => (first | assumption | omega | ((try dsimp only); omega) | ((try dsimp only); (simp (disch := decide) only [Int.fdiv_eq_ediv_of_nonneg, Int.fmod_eq_emod_of_nonneg]); omega) | trivial | (refine ⟨?_, ?_, ?_, ?_, ?_, ?_, ?_, ?_, ?_, ?_, ?_, ?_, ?_, ?_⟩ <;> first | assumption | omega) | decide | (exact decide_eq_true (by omega)) | k_extra "pre")); (case h3 => (first | assumption | omega | ((try dsimp only); omega) | ((try dsimp only); (simp (disch := decide) only [Int.fdiv_eq_ediv_of_nonneg, Int.fmod_eq_emod_of_nonneg]); omega) | trivial | (refine ⟨?_, ?_, ?_, ?_, ?_, ?_, ?_, ?_, ?_, ?_, ?_, ?_, ?_, ?_⟩ <;> first | assumption | omega) | decide | (exact decide_eq_true (by omega)) | k_extra "pre")); intro v9 n9 h9 tk9 F9 N9 R9; (try dsimp only at R9); (obtain ⟨x9, y9, t91, t92, t93, t94, e9, en9, hl9, hm9⟩ := R9); (subst e9; subst en9; (try simp only [AllLt, and_true] at hl9); (replace hm9 := ltN hm9)); (try dsimp only); (try k_sweep); (try k_fold))
  k_with "eval Call Name" => (k_here; (with_reducible show wpAny _ _ (eval (Expr.Call (Expr.Name "tokens_of" _) _ _ _) _) _ _ _); refine Call_ ?_)
  k_with "call ref" => (k_here; (with_reducible show wpAny _ _ (call (Value.ref 130) _) _ _ _); k_dflt (refine' spc_use (tokens_of_c _ _ _ _ _ ?h1 ?h2) ?k1 ?k2 ?k3 ?k4 ?k5 ?kK ?kd ?ku ?ki ?_; (case k1 => k_asm); (case k2 => k_asm); (case k3 => k_asm); (case k4 => k_asm); (case k5 => k_asm); (case kK => first | exact rfl | assumption); (case kd => ktr_room); (case ku => ktr_units); (case ki => exact trivial)); (case h1 => (first | assumption | omega | ((try dsimp only); omega) | ((try dsimp only); (simp (disch := decide) only [Int.fdiv_eq_ediv_of_nonneg, Int.fmod_eq_emod_of_nonneg]); omega) | trivial | (refine ⟨?_, ?_, ?_, ?_, ?_, ?_, ?_, ?_, ?_, ?_, ?_, ?_, ?_, ?_⟩ <;> first | assumption | omega) | decide | (exact decide_eq_true (by omega)) | k_extra "pre")); (case h2 => (first | assumption | omega | ((try dsimp only); omega) | ((try dsimp only); (simp (disch := decide) only [Int.fdiv_eq_ediv_of_nonneg, Int.fmod_eq_emod_of_nonneg]); omega) | trivial | (refine ⟨?_, ?_, ?_, ?_, ?_, ?_, ?_, ?_, ?_, ?_, ?_, ?_, ?_, ?_⟩ <;> first | assumption | omega) | decide | (exact decide_eq_true (by omega)) | k_extra "pre")); intro v9 n9 h9 tk9 F9 N9 R9; (try dsimp only at R9); (obtain ⟨f9, vs9, cap9, made9, e9, en9, hT9, hsub9, hne9⟩ := R9); (subst e9; subst en9); (try dsimp only); (try k_sweep); (try k_fold))
  k_with "eval Call Name" => (k_here; (with_reducible show wpAny _ _ (eval (Expr.Call (Expr.Name "lower_code" _) _ _ _) _) _ _ _); refine Call_ ?_)
  k_with "call ref" => (k_here; (with_reducible show wpAny _ _ (call (Value.ref 61) _) _ _ _); k_dflt (refine' pur_use (lower_code_c _ _ _) ?k1 ?k2 ?k3 ?k4 ?k5 ?kK ?kd ?ku ?_; (case k1 => k_asm); (case k2 => k_asm); (case k3 => k_asm); (case k4 => k_asm); (case k5 => k_asm); (case kK => first | exact rfl | assumption); (case kd => ktr_room); (case ku => ktr_units)); intro v9 h9 tk9 F9 N9 R9; (try dsimp only at R9); (obtain ⟨t9, e9⟩ := R9); (subst e9); (try dsimp only); (try k_sweep); (try k_fold))
  k_with "eval ListComp" => ((with_reducible show wpAny _ _ (eval (Expr.ListComp (Expr.Call (Expr.Name "chr" _) [Expr.Call (Expr.Name "lower_code" _) _ _ _] _ _) _ _ _) _) _ _ _); walk_at "NZ ECOMP")
  k_with "eval Call Name" => (k_here; (with_reducible show wpAny _ _ (eval (Expr.Call (Expr.Name "lower_text" _) _ _ _) _) _ _ _); refine Call_ ?_)
  k_with "call ref" => (k_here; (with_reducible show wpAny _ _ (call (Value.ref 66) _) _ _ _); k_dflt (refine' pur_use (lower_text_c _ _ _ ?h1 ?h2) ?k1 ?k2 ?k3 ?k4 ?k5 ?kK ?kd ?ku ?_; (case k1 => k_asm); (case k2 => k_asm); (case k3 => k_asm); (case k4 => k_asm); (case k5 => k_asm); (case kK => first | exact rfl | assumption); (case kd => ktr_room); (case ku => ktr_units)); (case h1 => (first | assumption | omega | ((try dsimp only); omega) | ((try dsimp only); (simp (disch := decide) only [Int.fdiv_eq_ediv_of_nonneg, Int.fmod_eq_emod_of_nonneg]); omega) | trivial | (refine ⟨?_, ?_, ?_, ?_, ?_, ?_, ?_, ?_, ?_, ?_, ?_, ?_, ?_, ?_⟩ <;> first | assumption | omega) | decide | (exact decide_eq_true (by omega)) | k_extra "pre")); (case h2 => (first | assumption | omega | ((try dsimp only); omega) | ((try dsimp only); (simp (disch := decide) only [Int.fdiv_eq_ediv_of_nonneg, Int.fmod_eq_emod_of_nonneg]); omega) | trivial | (refine ⟨?_, ?_, ?_, ?_, ?_, ?_, ?_, ?_, ?_, ?_, ?_, ?_, ?_, ?_⟩ <;> first | assumption | omega) | decide | (exact decide_eq_true (by omega)) | k_extra "pre")); intro v9 h9 tk9 F9 N9 R9; (try dsimp only at R9); (obtain ⟨t9, e9, hl9⟩ := R9); (subst e9); (try dsimp only); (try k_sweep); (try k_fold))
  k_with "eval Call Name" => (k_here; (with_reducible show wpAny _ _ (eval (Expr.Call (Expr.Name "without_comments" _) _ _ _) _) _ _ _); refine Call_ ?_)
  k_with "call ref" => (k_here; (with_reducible show wpAny _ _ (call (Value.ref 135) _) _ _ _); k_dflt (refine' spc_use (without_comments_c _ _ _ _ _ _) ?k1 ?k2 ?k3 ?k4 ?k5 ?kK ?kd ?ku ?ki ?_; (case k1 => k_asm); (case k2 => k_asm); (case k3 => k_asm); (case k4 => k_asm); (case k5 => k_asm); (case kK => first | exact rfl | assumption); (case kd => ktr_room); (case ku => ktr_units); (case ki => exact ⟨by k_mem, TkIn.mono (by assumption) (by walk_at "NZ SUB")⟩)); intro v9 n9 h9 tk9 F9 N9 R9; (try dsimp only at R9); (obtain ⟨d9, e9, en9, hd9⟩ := R9); (subst e9; subst en9); (try dsimp only); (try k_sweep); (try k_fold))
  k_with "eval Call Name" => (k_here; (with_reducible show wpAny _ _ (eval (Expr.Call (Expr.Name "DateReader" _) _ _ _) _) _ _ _); refine Call_ ?_)
  k_with "call ref" => (k_here; (with_reducible show wpAny _ _ (call (Value.ref 339) _) _ _ _); k_dflt (refine' spc_use (reader_c _ _ _ _ _ ?h1 ?h2) ?k1 ?k2 ?k3 ?k4 ?k5 ?kK ?kd ?ku ?ki ?_; (case k1 => k_asm); (case k2 => k_asm); (case k3 => k_asm); (case k4 => k_asm); (case k5 => k_asm); (case kK => first | exact rfl | assumption); (case kd => ktr_room); (case ku => ktr_units); (case ki => exact trivial)); (case h1 => (first | assumption | omega | ((try dsimp only); omega) | ((try dsimp only); (simp (disch := decide) only [Int.fdiv_eq_ediv_of_nonneg, Int.fmod_eq_emod_of_nonneg]); omega) | trivial | (refine ⟨?_, ?_, ?_, ?_, ?_, ?_, ?_, ?_, ?_, ?_, ?_, ?_, ?_, ?_⟩ <;> first | assumption | omega) | decide | (exact decide_eq_true (by omega)) | k_extra "pre")); (case h2 => (first | assumption | omega | ((try dsimp only); omega) | ((try dsimp only); (simp (disch := decide) only [Int.fdiv_eq_ediv_of_nonneg, Int.fmod_eq_emod_of_nonneg]); omega) | trivial | (refine ⟨?_, ?_, ?_, ?_, ?_, ?_, ?_, ?_, ?_, ?_, ?_, ?_, ?_, ?_⟩ <;> first | assumption | omega) | decide | (exact decide_eq_true (by omega)) | k_extra "pre")); intro v9 n9 h9 tk9 F9 N9 R9; (try dsimp only at R9); (obtain ⟨rx9, dx9, dl9, vs9, rest9, k91, k92, k93, u91, u92, e9, en9, hsub9, hR9⟩ := R9); (subst e9; subst en9; (have hx9 := ltN hR9.lt); (have hne9 := hR9.ne); (have gl9 := hR9.gl); (have hz9 := hR9.size)); (try dsimp only); (try k_sweep); (try k_fold))
  k_with "eval Call Name" => (k_here; (with_reducible show wpAny _ _ (eval (Expr.Call (Expr.Name "is_figures" _) _ _ _) _) _ _ _); refine Call_ ?_)
  k_with "call ref" => (k_here; (with_reducible show wpAny _ _ (call (Value.ref 277) _) _ _ _); k_dflt (refine' pur_use (is_figures_c _ _ _ ?h1 ?h2 ?h3) ?k1 ?k2 ?k3 ?k4 ?k5 ?kK ?kd ?ku ?_; (case k1 => k_asm); (case k2 => k_asm); (case k3 => k_asm); (case k4 => k_asm); (case k5 => k_asm); (case kK => first | exact rfl | assumption); (case kd => ktr_room); (case ku => ktr_units)); (case h1 => (first | assumption | omega | ((try dsimp only); omega) | ((try dsimp only); (simp (disch := decide) only [Int.fdiv_eq_ediv_of_nonneg, Int.fmod_eq_emod_of_nonneg]); omega) | trivial | (refine ⟨?_, ?_, ?_, ?_, ?_, ?_, ?_, ?_, ?_, ?_, ?_, ?_, ?_, ?_⟩ <;> first | assumption | omega) | decide | (exact decide_eq_true (by omega)) | k_extra "pre")); (case h2 => (first | assumption | omega | ((try dsimp only); omega) | ((try dsimp only); (simp (disch := decide) only [Int.fdiv_eq_ediv_of_nonneg, Int.fmod_eq_emod_of_nonneg]); omega) | trivial | (refine ⟨?_, ?_, ?_, ?_, ?_, ?_, ?_, ?_, ?_, ?_, ?_, ?_, ?_, ?_⟩ <;> first | assumption | omega) | decide | (exact decide_eq_true (by omega)) | k_extra "pre")); (case h3 => (first | assumption | omega | ((try dsimp only); omega) | ((try dsimp only); (simp (disch := decide) only [Int.fdiv_eq_ediv_of_nonneg, Int.fmod_eq_emod_of_nonneg]); omega) | trivial | (refine ⟨?_, ?_, ?_, ?_, ?_, ?_, ?_, ?_, ?_, ?_, ?_, ?_, ?_, ?_⟩ <;> first | assumption | omega) | decide | (exact decide_eq_true (by omega)) | k_extra "pre")); intro v9 h9 tk9 F9 N9 R9; (try dsimp only at R9); (subst R9); (try dsimp only); (try k_sweep); (try k_fold))
  k_with "eval ListComp" => ((with_reducible show wpAny _ _ (eval (Expr.ListComp (Expr.Call (Expr.Name "chr" _) [Expr.Name "code" _] _ _) _ _ _) _) _ _ _); walk_at "NZ ECOMP")
  k_with "call ref" => (k_here; (with_reducible show wpAny _ _ (call (Value.ref 315) _) _ _ _); k_dflt (refine' spcp_use (atom_c _ _ _ _ _ _ _ _ _ _ _ _ ?h0 ?h1 ?h2 ?h3 ?h4 ?h5) ?k1 ?k2 ?k3 ?k4 ?k5 ?kK ?kd ?ku ?ki ?_; (case k1 => k_asm); (case k2 => k_asm); (case k3 => k_asm); (case k4 => k_asm); (case k5 => k_asm); (case kK => first | exact rfl | assumption); (case kd => ktr_room); (case ku => ktr_units); (case h0 => assumption); (case ki => exact ⟨_, _, _, _, _, by k_mem, by k_mem, fun p hp => by (repeat (first | exact hp | refine List.Mem.tail _ ?_))⟩)); (case h1 => first | assumption | k_dflt (exact rfl)); (case h2 => (first | assumption | omega | ((try dsimp only); omega) | ((try dsimp only); (simp (disch := decide) only [Int.fdiv_eq_ediv_of_nonneg, Int.fmod_eq_emod_of_nonneg]); omega) | trivial | (refine ⟨?_, ?_, ?_, ?_, ?_, ?_, ?_, ?_, ?_, ?_, ?_, ?_, ?_, ?_⟩ <;> first | assumption | omega) | decide | (exact decide_eq_true (by omega)) | k_extra "pre")); (case h3 => (first | assumption | omega | ((try dsimp only); omega) | ((try dsimp only); (simp (disch := decide) only [Int.fdiv_eq_ediv_of_nonneg, Int.fmod_eq_emod_of_nonneg]); omega) | trivial | (refine ⟨?_, ?_, ?_, ?_, ?_, ?_, ?_, ?_, ?_, ?_, ?_, ?_, ?_, ?_⟩ <;> first | assumption | omega) | decide | (exact decide_eq_true (by omega)) | k_extra "pre")); (case h4 => (first | assumption | omega | ((try dsimp only); omega) | ((try dsimp only); (simp (disch := decide) only [Int.fdiv_eq_ediv_of_nonneg, Int.fmod_eq_emod_of_nonneg]); omega) | trivial | (refine ⟨?_, ?_, ?_, ?_, ?_, ?_, ?_, ?_, ?_, ?_, ?_, ?_, ?_, ?_⟩ <;> first | assumption | omega) | decide | (exact decide_eq_true (by omega)) | k_extra "pre")); (case h5 => (first | assumption | omega | ((try dsimp only); omega) | ((try dsimp only); (simp (disch := decide) only [Int.fdiv_eq_ediv_of_nonneg, Int.fmod_eq_emod_of_nonneg]); omega) | trivial | (refine ⟨?_, ?_, ?_, ?_, ?_, ?_, ?_, ?_, ?_, ?_, ?_, ?_, ?_, ?_⟩ <;> first | assumption | omega) | decide | (exact decide_eq_true (by omega)) | k_extra "pre")); intro v9 h9 tk9 F9 N9 R9; (try dsimp only at R9); (obtain ⟨t9, e9⟩ := R9); (subst e9); (try dsimp only); (try k_sweep); (try k_fold))
  k_with "subscriptTail" => (k_here; (with_reducible show wpAny _ _ (subscriptTail _ (PySem.Expr.Slice none _ none _) (Value.ref _) (Value.ref _)) _ _ _); k_dflt (refine' slice_to2 ?F ?N ?t ?_ ?s ?g; (case F => k_asm); (case N => k_asm); (case t => exact News.isTup (by k_asm) (by k_mem)); (case s => with_unfolding_all rfl); (case g => kmk_pure)); intro D' h' F' N' l1; (try k_lt l1); (try k_sweep))
  k_with "compareOp NotEq ref ref" => (k_here; k_dflt (refine' ne_sb ?N ?a ?b ?u ?_; (case N => k_asm); (case a => k_mem); (case b => k_mem); (case u => ktr_units)))
  k_with "call ref" => (k_here; (with_reducible show wpAny _ _ (call (Value.ref 336) _) _ _ _); k_dflt (refine' spc_use (need_c _ _ _ _ _ _ _ _ _ _ _ _ _ ?h0 ?h1) ?k1 ?k2 ?k3 ?k4 ?k5 ?kK ?kd ?ku ?ki ?_; (case k1 => k_asm); (case k2 => k_asm); (case k3 => k_asm); (case k4 => k_asm); (case k5 => k_asm); (case kK => first | exact rfl | assumption); (case kd => ktr_room); (case ku => ktr_units); (case h0 => assumption); (case ki => exact ⟨_, _, _, _, _, by k_mem, by k_mem, fun p hp => by (repeat (first | exact hp | refine List.Mem.tail _ ?_))⟩)); (case h1 => (first | assumption | omega | ((try dsimp only); omega) | ((try dsimp only); (simp (disch := decide) only [Int.fdiv_eq_ediv_of_nonneg, Int.fmod_eq_emod_of_nonneg]); omega) | trivial | (refine ⟨?_, ?_, ?_, ?_, ?_, ?_, ?_, ?_, ?_, ?_, ?_, ?_, ?_, ?_⟩ <;> first | assumption | omega) | decide | (exact decide_eq_true (by omega)) | k_extra "pre")); intro v9 n9 h9 tk9 F9 N9 R9; (try dsimp only at R9); (obtain ⟨e9, k91, k92, k93, u91, u92, en9⟩ := R9); (subst e9; subst en9); (try dsimp only); (try k_sweep); (try k_fold))
  k_with "call ref" => (k_here; (with_reducible show wpAny _ _ (call (Value.ref 310) _) _ _ _); k_dflt (refine' spcp_use (place_c _ _ _ _ _ _ _ _ _ _ _ ?h0 ?h1 ?h2 ?h3) ?k1 ?k2 ?k3 ?k4 ?k5 ?kK ?kd ?ku ?ki ?_; (case k1 => k_asm); (case k2 => k_asm); (case k3 => k_asm); (case k4 => k_asm); (case k5 => k_asm); (case kK => first | exact rfl | assumption); (case kd => ktr_room); (case ku => ktr_units); (case h0 => assumption); (case ki => exact ⟨_, _, _, _, _, by k_mem, by k_mem, fun p hp => by (repeat (first | exact hp | refine List.Mem.tail _ ?_))⟩)); (case h1 => first | assumption | k_dflt (exact rfl)); (case h2 => (first | assumption | omega | ((try dsimp only); omega) | ((try dsimp only); (simp (disch := decide) only [Int.fdiv_eq_ediv_of_nonneg, Int.fmod_eq_emod_of_nonneg]); omega) | trivial | (refine ⟨?_, ?_, ?_, ?_, ?_, ?_, ?_, ?_, ?_, ?_, ?_, ?_, ?_, ?_⟩ <;> first | assumption | omega) | decide | (exact decide_eq_true (by omega)) | k_extra "pre")); (case h3 => (first | assumption | omega | ((try dsimp only); omega) | ((try dsimp only); (simp (disch := decide) only [Int.fdiv_eq_ediv_of_nonneg, Int.fmod_eq_emod_of_nonneg]); omega) | trivial | (refine ⟨?_, ?_, ?_, ?_, ?_, ?_, ?_, ?_, ?_, ?_, ?_, ?_, ?_, ?_⟩ <;> first | assumption | omega) | decide | (exact decide_eq_true (by omega)) | k_extra "pre")); intro v9 h9 tk9 F9 N9 R9; (try dsimp only at R9); (obtain ⟨t9, e9⟩ := R9); (subst e9); (try dsimp only); (try k_sweep); (try k_fold))
  k_with "call ref" => (k_here; (with_reducible show wpAny _ _ (call (Value.ref 322) _) _ _ _); k_dflt (refine' spc_use (skip_c _ _ _ _ _ _ _ _ _ _ _ _ _ _ _ ?h0 ?h1 ?h2 ?h3 ?h4) ?k1 ?k2 ?k3 ?k4 ?k5 ?kK ?kd ?ku ?ki ?_; (case k1 => k_asm); (case k2 => k_asm); (case k3 => k_asm); (case k4 => k_asm); (case k5 => k_asm); (case kK => first | exact rfl | assumption); (case kd => ktr_room); (case ku => ktr_units); (case h0 => assumption); (case ki => exact ⟨_, _, _, _, _, by k_mem, by k_mem, fun p hp => by (repeat (first | exact hp | refine List.Mem.tail _ ?_))⟩)); (case h1 => first | assumption | k_dflt (exact rfl)); (case h2 => first | assumption | k_dflt (exact rfl)); (case h3 => (first | assumption | omega | ((try dsimp only); omega) | ((try dsimp only); (simp (disch := decide) only [Int.fdiv_eq_ediv_of_nonneg, Int.fmod_eq_emod_of_nonneg]); omega) | trivial | (refine ⟨?_, ?_, ?_, ?_, ?_, ?_, ?_, ?_, ?_, ?_, ?_, ?_, ?_, ?_⟩ <;> first | assumption | omega) | decide | (exact decide_eq_true (by omega)) | k_extra "pre")); (case h4 => (first | assumption | omega | ((try dsimp only); omega) | ((try dsimp only); (simp (disch := decide) only [Int.fdiv_eq_ediv_of_nonneg, Int.fmod_eq_emod_of_nonneg]); omega) | trivial | (refine ⟨?_, ?_, ?_, ?_, ?_, ?_, ?_, ?_, ?_, ?_, ?_, ?_, ?_, ?_⟩ <;> first | assumption | omega) | decide | (exact decide_eq_true (by omega)) | k_extra "pre")); intro v9 n9 h9 tk9 F9 N9 R9; (try dsimp only at R9); (obtain ⟨e9, k91, k92, k93, u91, u92, en9⟩ := R9); (subst e9; subst en9); (try dsimp only); (try k_sweep); (try k_fold))
  k_with "call ref" => (k_here; (with_reducible show wpAny _ _ (call (Value.ref 329) _) _ _ _); k_dflt (refine' spc_use (number_c _ _ _ _ _ _ _ _ _ _ _ _ _ _ _ _ _ _ ?h0 ?h1 ?h2 ?h3 ?f1 ?f4 ?f5 ?f8 ?f9) ?k1 ?k2 ?k3 ?k4 ?k5 ?kK ?kd ?ku ?ki ?_; (case k1 => k_asm); (case k2 => k_asm); (case k3 => k_asm); (case k4 => k_asm); (case k5 => k_asm); (case kK => first | exact rfl | assumption); (case kd => ktr_room); (case ku => ktr_units); (case h0 => assumption); (case ki => exact ⟨_, _, _, _, _, by k_mem, by k_mem, fun p hp => by (repeat (first | exact hp | refine List.Mem.tail _ ?_))⟩)); (case h1 => first | assumption | k_dflt (exact rfl)); (case h2 => (first | assumption | omega | ((try dsimp only); omega) | ((try dsimp only); (simp (disch := decide) only [Int.fdiv_eq_ediv_of_nonneg, Int.fmod_eq_emod_of_nonneg]); omega) | trivial | (refine ⟨?_, ?_, ?_, ?_, ?_, ?_, ?_, ?_, ?_, ?_, ?_, ?_, ?_, ?_⟩ <;> first | assumption | omega) | decide | (exact decide_eq_true (by omega)) | k_extra "pre")); (case h3 => (first | assumption | omega | ((try dsimp only); omega) | ((try dsimp only); (simp (disch := decide) only [Int.fdiv_eq_ediv_of_nonneg, Int.fmod_eq_emod_of_nonneg]); omega) | trivial | (refine ⟨?_, ?_, ?_, ?_, ?_, ?_, ?_, ?_, ?_, ?_, ?_, ?_, ?_, ?_⟩ <;> first | assumption | omega) | decide | (exact decide_eq_true (by omega)) | k_extra "pre")); (case f1 => first | assumption | k_dflt (exact rfl)); (case f4 => (first | assumption | omega | ((try dsimp only); omega) | ((try dsimp only); (simp (disch := decide) only [Int.fdiv_eq_ediv_of_nonneg, Int.fmod_eq_emod_of_nonneg]); omega) | trivial | (refine ⟨?_, ?_, ?_, ?_, ?_, ?_, ?_, ?_, ?_, ?_, ?_, ?_, ?_, ?_⟩ <;> first | assumption | omega) | decide | (exact decide_eq_true (by omega)) | k_extra "pre")); (case f5 => (first | assumption | omega | ((try dsimp only); omega) | ((try dsimp only); (simp (disch := decide) only [Int.fdiv_eq_ediv_of_nonneg, Int.fmod_eq_emod_of_nonneg]); omega) | trivial | (refine ⟨?_, ?_, ?_, ?_, ?_, ?_, ?_, ?_, ?_, ?_, ?_, ?_, ?_, ?_⟩ <;> first | assumption | omega) | decide | (exact decide_eq_true (by omega)) | k_extra "pre")); (case f8 => (first | assumption | omega | ((try dsimp only); omega) | ((try dsimp only); (simp (disch := decide) only [Int.fdiv_eq_ediv_of_nonneg, Int.fmod_eq_emod_of_nonneg]); omega) | trivial | (refine ⟨?_, ?_, ?_, ?_, ?_, ?_, ?_, ?_, ?_, ?_, ?_, ?_, ?_, ?_⟩ <;> first | assumption | omega) | decide | (exact decide_eq_true (by omega)) | k_extra "pre")); (case f9 => (first | assumption | omega | ((try dsimp only); omega) | ((try dsimp only); (simp (disch := decide) only [Int.fdiv_eq_ediv_of_nonneg, Int.fmod_eq_emod_of_nonneg]); omega) | trivial | (refine ⟨?_, ?_, ?_, ?_, ?_, ?_, ?_, ?_, ?_, ?_, ?_, ?_, ?_, ?_⟩ <;> first | assumption | omega) | decide | (exact decide_eq_true (by omega)) | k_extra "pre")); intro v9 n9 h9 tk9 F9 N9 R9; (try dsimp only at R9); (obtain ⟨r9, t91, t92, k91, k92, k93, u91, u92, e9, en9⟩ := R9); (subst e9; subst en9); (try dsimp only); (try k_sweep); (try k_fold))
  k_with "eval Call Name" => (k_here; (with_reducible show wpAny _ _ (eval (Expr.Call (Expr.Name "read_clock" _) _ _ _) _) _ _ _); refine Call_ ?_)
  k_with "call ref" => (k_here; (with_reducible show wpAny _ _ (call (Value.ref 357) _) _ _ _); k_dflt (refine' spc_use (read_clock_c _ _ _ _ _ _ _ _ _ _ _ _ _ ?hi ?h0 ?f1 ?f2 ?f3) ?k1 ?k2 ?k3 ?k4 ?k5 ?kK ?kd ?ku ?ki ?_; (case k1 => k_asm); (case k2 => k_asm); (case k3 => k_asm); (case k4 => k_asm); (case k5 => k_asm); (case kK => first | exact rfl | assumption); (case kd => ktr_room); (case ku => ktr_units); (case h0 => assumption); (case ki => exact ⟨_, _, _, _, _, by k_mem, by k_mem, fun p hp => by (repeat (first | exact hp | refine List.Mem.tail _ ?_))⟩)); (case hi => (first | assumption | omega | ((try dsimp only); omega) | ((try dsimp only); (simp (disch := decide) only [Int.fdiv_eq_ediv_of_nonneg, Int.fmod_eq_emod_of_nonneg]); omega) | trivial | (refine ⟨?_, ?_, ?_, ?_, ?_, ?_, ?_, ?_, ?_, ?_, ?_, ?_, ?_, ?_⟩ <;> first | assumption | omega) | decide | (exact decide_eq_true (by omega)) | k_extra "pre")); (case f1 => (first | assumption | omega | ((try dsimp only); omega) | ((try dsimp only); (simp (disch := decide) only [Int.fdiv_eq_ediv_of_nonneg, Int.fmod_eq_emod_of_nonneg]); omega) | trivial | (refine ⟨?_, ?_, ?_, ?_, ?_, ?_, ?_, ?_, ?_, ?_, ?_, ?_, ?_, ?_⟩ <;> first | assumption | omega) | decide | (exact decide_eq_true (by omega)) | k_extra "pre")); (case f2 => (first | assumption | omega | ((try dsimp only); omega) | ((try dsimp only); (simp (disch := decide) only [Int.fdiv_eq_ediv_of_nonneg, Int.fmod_eq_emod_of_nonneg]); omega) | trivial | (refine ⟨?_, ?_, ?_, ?_, ?_, ?_, ?_, ?_, ?_, ?_, ?_, ?_, ?_, ?_⟩ <;> first | assumption | omega) | decide | (exact decide_eq_true (by omega)) | k_extra "pre")); (case f3 => (first | assumption | omega | ((try dsimp only); omega) | ((try dsimp only); (simp (disch := decide) only [Int.fdiv_eq_ediv_of_nonneg, Int.fmod_eq_emod_of_nonneg]); omega) | trivial | (refine ⟨?_, ?_, ?_, ?_, ?_, ?_, ?_, ?_, ?_, ?_, ?_, ?_, ?_, ?_⟩ <;> first | assumption | omega) | decide | (exact decide_eq_true (by omega)) | k_extra "pre")); intro v9 n9 h9 tk9 F9 N9 R9; (try dsimp only at R9); (obtain ⟨r9, t91, t92, t93, k91, k92, k93, u91, u92, e9, en9⟩ := R9); (subst e9; subst en9); (try dsimp only); (try k_sweep); (try k_fold))
  k_with "eval Call Name" => (k_here; (with_reducible show wpAny _ _ (eval (Expr.Call (Expr.Name "is_leap" _) _ _ _) _) _ _ _); refine Call_ ?_)
  k_with "call ref" => (k_here; (with_reducible show wpAny _ _ (call (Value.ref 172) _) _ _ _); k_dflt (refine' pur_use (is_leap_c _ _ _) ?k1 ?k2 ?k3 ?k4 ?k5 ?kK ?kd ?ku ?_; (case k1 => k_asm); (case k2 => k_asm); (case k3 => k_asm); (case k4 => k_asm); (case k5 => k_asm); (case kK => first | exact rfl | assumption); (case kd => ktr_room); (case ku => ktr_units)); intro v9 h9 tk9 F9 N9 R9; (try dsimp only at R9); (subst R9); (try dsimp only); (try k_sweep); (try k_fold))
  k_with "eval Call Name" => (k_here; (with_reducible show wpAny _ _ (eval (Expr.Call (Expr.Name "month_length" _) _ _ _) _) _ _ _); refine Call_ ?_)
  k_with "call ref" => (k_here; (with_reducible show wpAny _ _ (call (Value.ref 179) _) _ _ _); k_dflt (refine' pur_use (month_length_c _ _ _ _ _) ?k1 ?k2 ?k3 ?k4 ?k5 ?kK ?kd ?ku ?_; (case k1 => k_asm); (case k2 => k_asm); (case k3 => k_asm); (case k4 => k_asm); (case k5 => k_asm); (case kK => first | exact rfl | assumption); (case kd => ktr_room); (case ku => ktr_units)); intro v9 h9 tk9 F9 N9 R9; (try dsimp only at R9); (obtain ⟨t9, e9⟩ := R9); (subst e9); (try dsimp only); (try k_sweep); (try k_fold))
  k_with "eval Call Name" => (k_here; (with_reducible show wpAny _ _ (eval (Expr.Call (Expr.Name "days_before_year" _) _ _ _) _) _ _ _); refine Call_ ?_)
  k_with "call ref" => (k_here; (with_reducible show wpAny _ _ (call (Value.ref 186) _) _ _ _); k_dflt (refine' pur_use (days_before_year_c _ _ _) ?k1 ?k2 ?k3 ?k4 ?k5 ?kK ?kd ?ku ?_; (case k1 => k_asm); (case k2 => k_asm); (case k3 => k_asm); (case k4 => k_asm); (case k5 => k_asm); (case kK => first | exact rfl | assumption); (case kd => ktr_room); (case ku => ktr_units)); intro v9 h9 tk9 F9 N9 R9; (try dsimp only at R9); (obtain ⟨t9, e9⟩ := R9); (subst e9); (try dsimp only); (try k_sweep); (try k_fold))
  k_with "eval Call Name" => (k_here; (with_reducible show wpAny _ _ (eval (Expr.Call (Expr.Name "day_number" _) _ _ _) _) _ _ _); refine Call_ ?_)
  k_with "call ref" => (k_here; (with_reducible show wpAny _ _ (call (Value.ref 193) _) _ _ _); k_dflt (refine' pur_use (day_number_c _ _ _ _ _ _ _ ?h1 ?h2) ?k1 ?k2 ?k3 ?k4 ?k5 ?kK ?kd ?ku ?_; (case k1 => k_asm); (case k2 => k_asm); (case k3 => k_asm); (case k4 => k_asm); (case k5 => k_asm); (case kK => first | exact rfl | assumption); (case kd => ktr_room); (case ku => ktr_units)); (case h1 => (first | assumption | omega | ((try dsimp only); omega) | ((try dsimp only); (simp (disch := decide) only [Int.fdiv_eq_ediv_of_nonneg, Int.fmod_eq_emod_of_nonneg]); omega) | trivial | (refine ⟨?_, ?_, ?_, ?_, ?_, ?_, ?_, ?_, ?_, ?_, ?_, ?_, ?_, ?_⟩ <;> first | assumption | omega) | decide | (exact decide_eq_true (by omega)) | k_extra "pre")); (case h2 => (first | assumption | omega | ((try dsimp only); omega) | ((try dsimp only); (simp (disch := decide) only [Int.fdiv_eq_ediv_of_nonneg, Int.fmod_eq_emod_of_nonneg]); omega) | trivial | (refine ⟨?_, ?_, ?_, ?_, ?_, ?_, ?_, ?_, ?_, ?_, ?_, ?_, ?_, ?_⟩ <;> first | assumption | omega) | decide | (exact decide_eq_true (by omega)) | k_extra "pre")); intro v9 h9 tk9 F9 N9 R9; (try dsimp only at R9); (obtain ⟨t9, e9⟩ := R9); (subst e9); (try dsimp only); (try k_sweep); (try k_fold))
  k_with "eval Call Name" => (k_here; (with_reducible show wpAny _ _ (eval (Expr.Call (Expr.Name "weekday" _) _ _ _) _) _ _ _); refine Call_ ?_)
  k_with "call ref" => (k_here; (with_reducible show wpAny _ _ (call (Value.ref 207) _) _ _ _); k_dflt (refine' pur_use (weekday_c _ _ _ _ _ _ _ ?h1 ?h2) ?k1 ?k2 ?k3 ?k4 ?k5 ?kK ?kd ?ku ?_; (case k1 => k_asm); (case k2 => k_asm); (case k3 => k_asm); (case k4 => k_asm); (case k5 => k_asm); (case kK => first | exact rfl | assumption); (case kd => ktr_room); (case ku => ktr_units)); (case h1 => (first | assumption | omega | ((try dsimp only); omega) | ((try dsimp only); (simp (disch := decide) only [Int.fdiv_eq_ediv_of_nonneg, Int.fmod_eq_emod_of_nonneg]); omega) | trivial | (refine ⟨?_, ?_, ?_, ?_, ?_, ?_, ?_, ?_, ?_, ?_, ?_, ?_, ?_, ?_⟩ <;> first | assumption | omega) | decide | (exact decide_eq_true (by omega)) | k_extra "pre")); (case h2 => (first | assumption | omega | ((try dsimp only); omega) | ((try dsimp only); (simp (disch := decide) only [Int.fdiv_eq_ediv_of_nonneg, Int.fmod_eq_emod_of_nonneg]); omega) | trivial | (refine ⟨?_, ?_, ?_, ?_, ?_, ?_, ?_, ?_, ?_, ?_, ?_, ?_, ?_, ?_⟩ <;> first | assumption | omega) | decide | (exact decide_eq_true (by omega)) | k_extra "pre")); intro v9 h9 tk9 F9 N9 R9; (try dsimp only at R9); (obtain ⟨t9, e9⟩ := R9); (subst e9); (try dsimp only); (try k_sweep); (try k_fold))
  k_with "eval Call Name" => (k_here; (with_reducible show wpAny _ _ (eval (Expr.Call (Expr.Name "is_time" _) _ _ _) _) _ _ _); refine Call_ ?_)
  k_with "call ref" => (k_here; (with_reducible show wpAny _ _ (call (Value.ref 221) _) _ _ _); k_dflt (refine' pur_use (is_time_c _ _ _ _ _ _ _ ?h1 ?h2 ?h3 ?h4 ?h5 ?h6) ?k1 ?k2 ?k3 ?k4 ?k5 ?kK ?kd ?ku ?_; (case k1 => k_asm); (case k2 => k_asm); (case k3 => k_asm); (case k4 => k_asm); (case k5 => k_asm); (case kK => first | exact rfl | assumption); (case kd => ktr_room); (case ku => ktr_units)); (case h1 => (first | assumption | omega | ((try dsimp only); omega) | ((try dsimp only); (simp (disch := decide) only [Int.fdiv_eq_ediv_of_nonneg, Int.fmod_eq_emod_of_nonneg]); omega) | trivial | (refine ⟨?_, ?_, ?_, ?_, ?_, ?_, ?_, ?_, ?_, ?_, ?_, ?_, ?_, ?_⟩ <;> first | assumption | omega) | decide | (exact decide_eq_true (by omega)) | k_extra "pre")); (case h2 => (first | assumption | omega | ((try dsimp only); omega) | ((try dsimp only); (simp (disch := decide) only [Int.fdiv_eq_ediv_of_nonneg, Int.fmod_eq_emod_of_nonneg]); omega) | trivial | (refine ⟨?_, ?_, ?_, ?_, ?_, ?_, ?_, ?_, ?_, ?_, ?_, ?_, ?_, ?_⟩ <;> first | assumption | omega) | decide | (exact decide_eq_true (by omega)) | k_extra "pre")); (case h3 => (first | assumption | omega | ((try dsimp only); omega) | ((try dsimp only); (simp (disch := decide) only [Int.fdiv_eq_ediv_of_nonneg, Int.fmod_eq_emod_of_nonneg]); omega) | trivial | (refine ⟨?_, ?_, ?_, ?_, ?_, ?_, ?_, ?_, ?_, ?_, ?_, ?_, ?_, ?_⟩ <;> first | assumption | omega) | decide | (exact decide_eq_true (by omega)) | k_extra "pre")); (case h4 => (first | assumption | omega | ((try dsimp only); omega) | ((try dsimp only); (simp (disch := decide) only [Int.fdiv_eq_ediv_of_nonneg, Int.fmod_eq_emod_of_nonneg]); omega) | trivial | (refine ⟨?_, ?_, ?_, ?_, ?_, ?_, ?_, ?_, ?_, ?_, ?_, ?_, ?_, ?_⟩ <;> first | assumption | omega) | decide | (exact decide_eq_true (by omega)) | k_extra "pre")); (case h5 => (first | assumption | omega | ((try dsimp only); omega) | ((try dsimp only); (simp (disch := decide) only [Int.fdiv_eq_ediv_of_nonneg, Int.fmod_eq_emod_of_nonneg]); omega) | trivial | (refine ⟨?_, ?_, ?_, ?_, ?_, ?_, ?_, ?_, ?_, ?_, ?_, ?_, ?_, ?_⟩ <;> first | assumption | omega) | decide | (exact decide_eq_true (by omega)) | k_extra "pre")); (case h6 => (first | assumption | omega | ((try dsimp only); omega) | ((try dsimp only); (simp (disch := decide) only [Int.fdiv_eq_ediv_of_nonneg, Int.fmod_eq_emod_of_nonneg]); omega) | trivial | (refine ⟨?_, ?_, ?_, ?_, ?_, ?_, ?_, ?_, ?_, ?_, ?_, ?_, ?_, ?_⟩ <;> first | assumption | omega) | decide | (exact decide_eq_true (by omega)) | k_extra "pre")); intro v9 h9 tk9 F9 N9 R9; (try dsimp only at R9); (subst R9); (try dsimp only); (try k_sweep); (try k_fold))
  k_with "eval Call Name" => (k_here; (with_reducible show wpAny _ _ (eval (Expr.Call (Expr.Name "is_day" _) _ _ _) _) _ _ _); refine Call_ ?_)
  k_with "call ref" => (k_here; (with_reducible show wpAny _ _ (call (Value.ref 214) _) _ _ _); k_dflt (refine' pur_use (is_day_c _ _ _ _ _ _ _ ?h1 ?h2 ?h3 ?h4 ?h5 ?h6) ?k1 ?k2 ?k3 ?k4 ?k5 ?kK ?kd ?ku ?_; (case k1 => k_asm); (case k2 => k_asm); (case k3 => k_asm); (case k4 => k_asm); (case k5 => k_asm); (case kK => first | exact rfl | assumption); (case kd => ktr_room); (case ku => ktr_units)); (case h1 => (first | assumption | omega | ((try dsimp only); omega) | ((try dsimp only); (simp (disch := decide) only [Int.fdiv_eq_ediv_of_nonneg, Int.fmod_eq_emod_of_nonneg]); omega) | trivial | (refine ⟨?_, ?_, ?_, ?_, ?_, ?_, ?_, ?_, ?_, ?_, ?_, ?_, ?_, ?_⟩ <;> first | assumption | omega) | decide | (exact decide_eq_true (by omega)) | k_extra "pre")); (case h2 => (first | assumption | omega | ((try dsimp only); omega) | ((try dsimp only); (simp (disch := decide) only [Int.fdiv_eq_ediv_of_nonneg, Int.fmod_eq_emod_of_nonneg]); omega) | trivial | (refine ⟨?_, ?_, ?_, ?_, ?_, ?_, ?_, ?_, ?_, ?_, ?_, ?_, ?_, ?_⟩ <;> first | assumption | omega) | decide | (exact decide_eq_true (by omega)) | k_extra "pre")); (case h3 => (first | assumption | omega | ((try dsimp only); omega) | ((try dsimp only); (simp (disch := decide) only [Int.fdiv_eq_ediv_of_nonneg, Int.fmod_eq_emod_of_nonneg]); omega) | trivial | (refine ⟨?_, ?_, ?_, ?_, ?_, ?_, ?_, ?_, ?_, ?_, ?_, ?_, ?_, ?_⟩ <;> first | assumption | omega) | decide | (exact decide_eq_true (by omega)) | k_extra "pre")); (case h4 => (first | assumption | omega | ((try dsimp only); omega) | ((try dsimp only); (simp (disch := decide) only [Int.fdiv_eq_ediv_of_nonneg, Int.fmod_eq_emod_of_nonneg]); omega) | trivial | (refine ⟨?_, ?_, ?_, ?_, ?_, ?_, ?_, ?_, ?_, ?_, ?_, ?_, ?_, ?_⟩ <;> first | assumption | omega) | decide | (exact decide_eq_true (by omega)) | k_extra "pre")); (case h5 => (first | assumption | omega | ((try dsimp only); omega) | ((try dsimp only); (simp (disch := decide) only [Int.fdiv_eq_ediv_of_nonneg, Int.fmod_eq_emod_of_nonneg]); omega) | trivial | (refine ⟨?_, ?_, ?_, ?_, ?_, ?_, ?_, ?_, ?_, ?_, ?_, ?_, ?_, ?_⟩ <;> first | assumption | omega) | decide | (exact decide_eq_true (by omega)) | k_extra "pre")); (case h6 => (first | assumption | omega | ((try dsimp only); omega) | ((try dsimp only); (simp (disch := decide) only [Int.fdiv_eq_ediv_of_nonneg, Int.fmod_eq_emod_of_nonneg]); omega) | trivial | (refine ⟨?_, ?_, ?_, ?_, ?_, ?_, ?_, ?_, ?_, ?_, ?_, ?_, ?_, ?_⟩ <;> first | assumption | omega) | decide | (exact decide_eq_true (by omega)) | k_extra "pre")); intro v9 h9 tk9 F9 N9 R9; (try dsimp only at R9); (subst R9); (try dsimp only); (try k_sweep); (try k_fold))
  k_with "eval Call Name" => (k_here; (with_reducible show wpAny _ _ (eval (Expr.Call (Expr.Name "day_told" _) _ _ _) _) _ _ _); refine Call_ ?_)
  k_with "call ref" => (k_here; (with_reducible show wpAny _ _ (call (Value.ref 200) _) _ _ _); k_dflt (refine' spc_use (day_told_c _ _ _ ?h1 ?h2) ?k1 ?k2 ?k3 ?k4 ?k5 ?kK ?kd ?ku ?ki ?_; (case k1 => k_asm); (case k2 => k_asm); (case k3 => k_asm); (case k4 => k_asm); (case k5 => k_asm); (case kK => first | exact rfl | assumption); (case kd => ktr_room); (case ku => ktr_units); (case ki => exact trivial)); (case h1 => (first | assumption | omega | ((try dsimp only); omega) | ((try dsimp only); (simp (disch := decide) only [Int.fdiv_eq_ediv_of_nonneg, Int.fmod_eq_emod_of_nonneg]); omega) | trivial | (refine ⟨?_, ?_, ?_, ?_, ?_, ?_, ?_, ?_, ?_, ?_, ?_, ?_, ?_, ?_⟩ <;> first | assumption | omega) | decide | (exact decide_eq_true (by omega)) | k_extra "pre")); (case h2 => (first | assumption | omega | ((try dsimp only); omega) | ((try dsimp only); (simp (disch := decide) only [Int.fdiv_eq_ediv_of_nonneg, Int.fmod_eq_emod_of_nonneg]); omega) | trivial | (refine ⟨?_, ?_, ?_, ?_, ?_, ?_, ?_, ?_, ?_, ?_, ?_, ?_, ?_, ?_⟩ <;> first | assumption | omega) | decide | (exact decide_eq_true (by omega)) | k_extra "pre")); intro v9 n9 h9 tk9 F9 N9 R9; (try dsimp only at R9); (obtain ⟨x9, y9, m9, d9, t91, t92, t93, e9, en9, hy1, hy2, hm1, hm2, hd1, hd2, hn9⟩ := R9); (subst e9; subst en9); (try dsimp only); (try k_sweep); (try k_fold))
  k_with "eval Call Name" => (k_here; (with_reducible show wpAny _ _ (eval (Expr.Call (Expr.Name "Moment" _) _ _ _) _) _ _ _); refine Call_ ?_)
  k_with "call ref" => (k_here; (with_reducible show wpAny _ _ (call (Value.ref 161) _) _ _ _); k_dflt (refine' mom_use (Moment_c _ _ _ _ _ _ _ _ _ _ _ _ _ _ _) ?k1 ?k2 ?k3 ?k4 ?k5 ?kK ?kd ?ku ?ki ?_; (case k1 => k_asm); (case k2 => k_asm); (case k3 => k_asm); (case k4 => k_asm); (case k5 => k_asm); (case kK => first | exact rfl | assumption); (case kd => ktr_room); (case ku => ktr_units); (case ki => exact trivial)); intro x9 dx9 k91 k92 k93 k94 k95 k96 k97 t91 t92 t93 t94 t95 t96 t97 h9 tk9 F9 N9 hl9 hx9; (try dsimp only at N9); (replace hx9 := ltN hx9); (try simp only [AllLt, and_true] at hl9); (try dsimp only); (try k_sweep); (try k_fold))
  k_with "eval Call Name" => (k_here; (with_reducible show wpAny _ _ (eval (Expr.Call (Expr.Name "moment_of" _) _ _ _) _) _ _ _); refine Call_ ?_)
  k_with "call ref" => (k_here; (with_reducible show wpAny _ _ (call (Value.ref 243) _) _ _ _); k_dflt (refine' mof_use (moment_of_c _ _ _ _ _ ?h1 ?h2 ?h3 ?h4) ?k1 ?k2 ?k3 ?k4 ?k5 ?kK ?kd ?ku ?ki ?_; (case k1 => k_asm); (case k2 => k_asm); (case k3 => k_asm); (case k4 => k_asm); (case k5 => k_asm); (case kK => first | exact rfl | assumption); (case kd => ktr_room); (case ku => ktr_units); (case ki => exact trivial)); (case h1 => (first | assumption | omega | ((try dsimp only); omega) | ((try dsimp only); (simp (disch := decide) only [Int.fdiv_eq_ediv_of_nonneg, Int.fmod_eq_emod_of_nonneg]); omega) | trivial | (refine ⟨?_, ?_, ?_, ?_, ?_, ?_, ?_, ?_, ?_, ?_, ?_, ?_, ?_, ?_⟩ <;> first | assumption | omega) | decide | (exact decide_eq_true (by omega)) | k_extra "pre")); (case h2 => (first | assumption | omega | ((try dsimp only); omega) | ((try dsimp only); (simp (disch := decide) only [Int.fdiv_eq_ediv_of_nonneg, Int.fmod_eq_emod_of_nonneg]); omega) | trivial | (refine ⟨?_, ?_, ?_, ?_, ?_, ?_, ?_, ?_, ?_, ?_, ?_, ?_, ?_, ?_⟩ <;> first | assumption | omega) | decide | (exact decide_eq_true (by omega)) | k_extra "pre")); (case h3 => (first | assumption | omega | ((try dsimp only); omega) | ((try dsimp only); (simp (disch := decide) only [Int.fdiv_eq_ediv_of_nonneg, Int.fmod_eq_emod_of_nonneg]); omega) | trivial | (refine ⟨?_, ?_, ?_, ?_, ?_, ?_, ?_, ?_, ?_, ?_, ?_, ?_, ?_, ?_⟩ <;> first | assumption | omega) | decide | (exact decide_eq_true (by omega)) | k_extra "pre")); (case h4 => (first | assumption | omega | ((try dsimp only); omega) | ((try dsimp only); (simp (disch := decide) only [Int.fdiv_eq_ediv_of_nonneg, Int.fmod_eq_emod_of_nonneg]); omega) | trivial | (refine ⟨?_, ?_, ?_, ?_, ?_, ?_, ?_, ?_, ?_, ?_, ?_, ?_, ?_, ?_⟩ <;> first | assumption | omega) | decide | (exact decide_eq_true (by omega)) | k_extra "pre")); intro y9 mo9 d9 hh9 mi9 s9 x9 dx9 k91 k92 k93 k94 k95 k96 k97 t91 t92 t93 t94 t95 t96 t97 h9 tk9 F9 N9 hl9 hx9 hV9 hn9 hm1 hm2 hq9; (try dsimp only at N9); (replace hx9 := ltN hx9); (try simp only [AllLt, and_true] at hl9); (try dsimp only); (try k_sweep); (try k_fold))
  k_with "eval Call Name" => (k_here; (with_reducible show wpAny _ _ (eval (Expr.Call (Expr.Name "instant_of" _) _ _ _) _) _ _ _); refine Call_ ?_)
  k_with "call ref" => (k_here; (with_reducible show wpAny _ _ (call (Value.ref 235) _) _ _ _); k_dflt (refine' spcp_use (instant_of_c _ _ _ _ _ _ _ _ _ ?h1 ?h2) ?k1 ?k2 ?k3 ?k4 ?k5 ?kK ?kd ?ku ?ki ?_; (case k1 => k_asm); (case k2 => k_asm); (case k3 => k_asm); (case k4 => k_asm); (case k5 => k_asm); (case kK => first | exact rfl | assumption); (case kd => ktr_room); (case ku => ktr_units); (case ki => (refine' MomIn.mk ?m1 ?m2; (case m1 => k_mem); (case m2 => k_mem)))); (case h1 => (first | assumption | omega | ((try dsimp only); omega) | ((try dsimp only); (simp (disch := decide) only [Int.fdiv_eq_ediv_of_nonneg, Int.fmod_eq_emod_of_nonneg]); omega) | trivial | (refine ⟨?_, ?_, ?_, ?_, ?_, ?_, ?_, ?_, ?_, ?_, ?_, ?_, ?_, ?_⟩ <;> first | assumption | omega) | decide | (exact decide_eq_true (by omega)) | k_extra "pre")); (case h2 => (first | assumption | omega | ((try dsimp only); omega) | ((try dsimp only); (simp (disch := decide) only [Int.fdiv_eq_ediv_of_nonneg, Int.fmod_eq_emod_of_nonneg]); omega) | trivial | (refine ⟨?_, ?_, ?_, ?_, ?_, ?_, ?_, ?_, ?_, ?_, ?_, ?_, ?_, ?_⟩ <;> first | assumption | omega) | decide | (exact decide_eq_true (by omega)) | k_extra "pre")); intro v9 h9 tk9 F9 N9 R9; (try dsimp only at R9); (obtain ⟨t9, e9⟩ := R9); (subst e9); (try dsimp only); (try k_sweep); (try k_fold))
  k_with "eval Call Name" => (k_here; (with_reducible show wpAny _ _ (eval (Expr.Call (Expr.Name "_law_clock" _) _ _ _) _) _ _ _); refine Call_ ?_)
  k_with "call ref" => (k_here; (with_reducible show wpAny _ _ (call (Value.ref 421) _) _ _ _); k_dflt (refine' spcp_use (law_clock_c _ _ _ _ _ _ _ _ _ ?h1 ?h2) ?k1 ?k2 ?k3 ?k4 ?k5 ?kK ?kd ?ku ?ki ?_; (case k1 => k_asm); (case k2 => k_asm); (case k3 => k_asm); (case k4 => k_asm); (case k5 => k_asm); (case kK => first | exact rfl | assumption); (case kd => ktr_room); (case ku => ktr_units); (case ki => (refine' MomIn.mk ?m1 ?m2; (case m1 => k_mem); (case m2 => k_mem)))); (case h1 => (first | assumption | omega | ((try dsimp only); omega) | ((try dsimp only); (simp (disch := decide) only [Int.fdiv_eq_ediv_of_nonneg, Int.fmod_eq_emod_of_nonneg]); omega) | trivial | (refine ⟨?_, ?_, ?_, ?_, ?_, ?_, ?_, ?_, ?_, ?_, ?_, ?_, ?_, ?_⟩ <;> first | assumption | omega) | decide | (exact decide_eq_true (by omega)) | k_extra "pre")); (case h2 => (first | assumption | omega | ((try dsimp only); omega) | ((try dsimp only); (simp (disch := decide) only [Int.fdiv_eq_ediv_of_nonneg, Int.fmod_eq_emod_of_nonneg]); omega) | trivial | (refine ⟨?_, ?_, ?_, ?_, ?_, ?_, ?_, ?_, ?_, ?_, ?_, ?_, ?_, ?_⟩ <;> first | assumption | omega) | decide | (exact decide_eq_true (by omega)) | k_extra "pre")); intro v9 h9 tk9 F9 N9 R9; (try dsimp only at R9); (obtain ⟨t9, e9⟩ := R9); (subst e9); (try dsimp only); (try k_sweep); (try k_fold))
  k_with "eval Call Name" => (k_here; (with_reducible show wpAny _ _ (eval (Expr.Call (Expr.Name "check_moment" _) _ _ _) _) _ _ _); refine Call_ ?_)
  k_with "call ref" => (k_here; (with_reducible show wpAny _ _ (call (Value.ref 228) _) _ _ _); k_dflt (refine' spcp_use (check_moment_c _ _ _ _ _ _ _ _ _ ?h1) ?k1 ?k2 ?k3 ?k4 ?k5 ?kK ?kd ?ku ?ki ?_; (case k1 => k_asm); (case k2 => k_asm); (case k3 => k_asm); (case k4 => k_asm); (case k5 => k_asm); (case kK => first | exact rfl | assumption); (case kd => ktr_room); (case ku => ktr_units); (case ki => (refine' MomIn.mk ?m1 ?m2; (case m1 => k_mem); (case m2 => k_mem)))); (case h1 => (first | assumption | omega | ((try dsimp only); omega) | ((try dsimp only); (simp (disch := decide) only [Int.fdiv_eq_ediv_of_nonneg, Int.fmod_eq_emod_of_nonneg]); omega) | trivial | (refine ⟨?_, ?_, ?_, ?_, ?_, ?_, ?_, ?_, ?_, ?_, ?_, ?_, ?_, ?_⟩ <;> first | assumption | omega) | decide | (exact decide_eq_true (by omega)) | k_extra "pre")); intro v9 h9 tk9 F9 N9 R9; (try dsimp only at R9); (subst R9); (try dsimp only); (try k_sweep); (try k_fold))
  k_with "eval Call Name" => (k_here; (with_reducible show wpAny _ _ (eval (Expr.Call (Expr.Name "padded" _) _ _ _) _) _ _ _); refine Call_ ?_)
  k_with "call ref" => (k_here; (with_reducible show wpAny _ _ (call (Value.ref 260) _) _ _ _); k_dflt (refine' pur_use (padded2_c _ _ _ _ ?h1 ?h2) ?k1 ?k2 ?k3 ?k4 ?k5 ?kK ?kd ?ku ?_; (case k1 => k_asm); (case k2 => k_asm); (case k3 => k_asm); (case k4 => k_asm); (case k5 => k_asm); (case kK => first | exact rfl | assumption); (case kd => ktr_room); (case ku => ktr_units)); (case h1 => (first | assumption | omega | ((try dsimp only); omega) | ((try dsimp only); (simp (disch := decide) only [Int.fdiv_eq_ediv_of_nonneg, Int.fmod_eq_emod_of_nonneg]); omega) | trivial | (refine ⟨?_, ?_, ?_, ?_, ?_, ?_, ?_, ?_, ?_, ?_, ?_, ?_, ?_, ?_⟩ <;> first | assumption | omega) | decide | (exact decide_eq_true (by omega)) | k_extra "pre")); (case h2 => (first | assumption | omega | ((try dsimp only); omega) | ((try dsimp only); (simp (disch := decide) only [Int.fdiv_eq_ediv_of_nonneg, Int.fmod_eq_emod_of_nonneg]); omega) | trivial | (refine ⟨?_, ?_, ?_, ?_, ?_, ?_, ?_, ?_, ?_, ?_, ?_, ?_, ?_, ?_⟩ <;> first | assumption | omega) | decide | (exact decide_eq_true (by omega)) | k_extra "pre")); intro v9 h9 tk9 F9 N9 R9; (try dsimp only at R9); (obtain ⟨y9, t9, e9, hy9, hl9⟩ := R9); (subst e9); (try dsimp only); (try k_sweep); (try k_fold))
  k_with "call ref" => (k_here; (with_reducible show wpAny _ _ (call (Value.ref 260) _) _ _ _); k_dflt (refine' pur_use (padded4_c _ _ _ _ ?h1 ?h2) ?k1 ?k2 ?k3 ?k4 ?k5 ?kK ?kd ?ku ?_; (case k1 => k_asm); (case k2 => k_asm); (case k3 => k_asm); (case k4 => k_asm); (case k5 => k_asm); (case kK => first | exact rfl | assumption); (case kd => ktr_room); (case ku => ktr_units)); (case h1 => (first | assumption | omega | ((try dsimp only); omega) | ((try dsimp only); (simp (disch := decide) only [Int.fdiv_eq_ediv_of_nonneg, Int.fmod_eq_emod_of_nonneg]); omega) | trivial | (refine ⟨?_, ?_, ?_, ?_, ?_, ?_, ?_, ?_, ?_, ?_, ?_, ?_, ?_, ?_⟩ <;> first | assumption | omega) | decide | (exact decide_eq_true (by omega)) | k_extra "pre")); (case h2 => (first | assumption | omega | ((try dsimp only); omega) | ((try dsimp only); (simp (disch := decide) only [Int.fdiv_eq_ediv_of_nonneg, Int.fmod_eq_emod_of_nonneg]); omega) | trivial | (refine ⟨?_, ?_, ?_, ?_, ?_, ?_, ?_, ?_, ?_, ?_, ?_, ?_, ?_, ?_⟩ <;> first | assumption | omega) | decide | (exact decide_eq_true (by omega)) | k_extra "pre")); intro v9 h9 tk9 F9 N9 R9; (try dsimp only at R9); (obtain ⟨y9, t9, e9, hy9, hl9⟩ := R9); (subst e9); (try dsimp only); (try k_sweep); (try k_fold))
  k_with "eval Call Name" => (k_here; (with_reducible show wpAny _ _ (eval (Expr.Call (Expr.Name "zone_text" _) _ _ _) _) _ _ _); refine Call_ ?_)
  k_with "call ref" => (k_here; (with_reducible show wpAny _ _ (call (Value.ref 267) _) _ _ _); k_dflt (refine' pur_use (zone_text_c _ _ _ ?h1 ?h2) ?k1 ?k2 ?k3 ?k4 ?k5 ?kK ?kd ?ku ?_; (case k1 => k_asm); (case k2 => k_asm); (case k3 => k_asm); (case k4 => k_asm); (case k5 => k_asm); (case kK => first | exact rfl | assumption); (case kd => ktr_room); (case ku => ktr_units)); (case h1 => (first | assumption | omega | ((try dsimp only); omega) | ((try dsimp only); (simp (disch := decide) only [Int.fdiv_eq_ediv_of_nonneg, Int.fmod_eq_emod_of_nonneg]); omega) | trivial | (refine ⟨?_, ?_, ?_, ?_, ?_, ?_, ?_, ?_, ?_, ?_, ?_, ?_, ?_, ?_⟩ <;> first | assumption | omega) | decide | (exact decide_eq_true (by omega)) | k_extra "pre")); (case h2 => (first | assumption | omega | ((try dsimp only); omega) | ((try dsimp only); (simp (disch := decide) only [Int.fdiv_eq_ediv_of_nonneg, Int.fmod_eq_emod_of_nonneg]); omega) | trivial | (refine ⟨?_, ?_, ?_, ?_, ?_, ?_, ?_, ?_, ?_, ?_, ?_, ?_, ?_, ?_⟩ <;> first | assumption | omega) | decide | (exact decide_eq_true (by omega)) | k_extra "pre")); intro v9 h9 tk9 F9 N9 R9; (try dsimp only at R9); (obtain ⟨y9, t9, e9, hy9, hl9⟩ := R9); (subst e9); (try dsimp only); (try k_sweep); (try k_fold))
  k_with "exec Assign cons ListComp" => ((with_reducible show wpAny _ _ (exec (Stmt.Assign _ (Expr.ListComp (Expr.Call (Expr.Name "padded" _) _ _ _) _ _ _) _) _) _ _ _); walk_at "NZ ACOMP")
  k_with "eval Call Name" => (k_here; (with_reducible show wpAny _ _ (eval (Expr.Call (Expr.Name "clock_text" _) _ _ _) _) _ _ _); refine Call_ ?_)
  k_with "call ref" => (k_here; (with_reducible show wpAny _ _ (call (Value.ref 272) _) _ _ _); k_dflt (refine' spcp_use (clock_text_c _ _ _ _ _ _ _ _ _ ?h1) ?k1 ?k2 ?k3 ?k4 ?k5 ?kK ?kd ?ku ?ki ?_; (case k1 => k_asm); (case k2 => k_asm); (case k3 => k_asm); (case k4 => k_asm); (case k5 => k_asm); (case kK => first | exact rfl | assumption); (case kd => ktr_room); (case ku => ktr_units); (case ki => (refine' MomIn.mk ?m1 ?m2; (case m1 => k_mem); (case m2 => k_mem)))); (case h1 => (first | assumption | omega | ((try dsimp only); omega) | ((try dsimp only); (simp (disch := decide) only [Int.fdiv_eq_ediv_of_nonneg, Int.fmod_eq_emod_of_nonneg]); omega) | trivial | (refine ⟨?_, ?_, ?_, ?_, ?_, ?_, ?_, ?_, ?_, ?_, ?_, ?_, ?_, ?_⟩ <;> first | assumption | omega) | decide | (exact decide_eq_true (by omega)) | k_extra "pre")); intro v9 h9 tk9 F9 N9 R9; (try dsimp only at R9); (obtain ⟨y9, t9, e9, hy9, hl9⟩ := R9); (subst e9); (try dsimp only); (try k_sweep); (try k_fold))
  k_with "exec Assign cons ListComp" => ((with_reducible show wpAny _ _ (exec (Stmt.Assign _ (Expr.ListComp (Expr.Call (Expr.Name "lower_text" _) _ _ _) _ _ _) _) _) _ _ _); walk_at "NZ ACOMP")
  k_with "eval ListComp" => ((with_reducible show wpAny _ _ (eval (Expr.ListComp (Expr.Call (Expr.Name "lower_text" _) _ _ _) _ _ _) _) _ _ _); walk_at "NZ ECOMP")
  k_with "eval Call Name" => (k_here; (with_reducible show wpAny _ _ (eval (Expr.Call (Expr.Name "month_number" _) _ _ _) _) _ _ _); refine Call_ ?_)
  k_with "call ref" => (k_here; (with_reducible show wpAny _ _ (call (Value.ref 248) _) _ _ _); k_dflt (refine' pur_use (month_number_c _ _ _ _ ?h1 ?h2) ?k1 ?k2 ?k3 ?k4 ?k5 ?kK ?kd ?ku ?_; (case k1 => k_asm); (case k2 => k_asm); (case k3 => k_asm); (case k4 => k_asm); (case k5 => k_asm); (case kK => first | exact rfl | assumption); (case kd => ktr_room); (case ku => ktr_units)); (case h1 => (first | assumption | omega | ((try dsimp only); omega) | ((try dsimp only); (simp (disch := decide) only [Int.fdiv_eq_ediv_of_nonneg, Int.fmod_eq_emod_of_nonneg]); omega) | trivial | (refine ⟨?_, ?_, ?_, ?_, ?_, ?_, ?_, ?_, ?_, ?_, ?_, ?_, ?_, ?_⟩ <;> first | assumption | omega) | decide | (exact decide_eq_true (by omega)) | k_extra "pre")); (case h2 => (first | assumption | omega | ((try dsimp only); omega) | ((try dsimp only); (simp (disch := decide) only [Int.fdiv_eq_ediv_of_nonneg, Int.fmod_eq_emod_of_nonneg]); omega) | trivial | (refine ⟨?_, ?_, ?_, ?_, ?_, ?_, ?_, ?_, ?_, ?_, ?_, ?_, ?_, ?_⟩ <;> first | assumption | omega) | decide | (exact decide_eq_true (by omega)) | k_extra "pre")); intro v9 h9 tk9 F9 N9 R9; (try dsimp only at R9); (obtain ⟨t9, e9⟩ := R9); (subst e9); (try dsimp only); (try k_sweep); (try k_fold))
  k_with "eval Call Name" => (k_here; (with_reducible show wpAny _ _ (eval (Expr.Call (Expr.Name "is_day_name" _) _ _ _) _) _ _ _); refine Call_ ?_)
  k_with "call ref" => (k_here; (with_reducible show wpAny _ _ (call (Value.ref 253) _) _ _ _); k_dflt (refine' pur_use (is_day_name_c _ _ _ ?h1) ?k1 ?k2 ?k3 ?k4 ?k5 ?kK ?kd ?ku ?_; (case k1 => k_asm); (case k2 => k_asm); (case k3 => k_asm); (case k4 => k_asm); (case k5 => k_asm); (case kK => first | exact rfl | assumption); (case kd => ktr_room); (case ku => ktr_units)); (case h1 => (first | assumption | omega | ((try dsimp only); omega) | ((try dsimp only); (simp (disch := decide) only [Int.fdiv_eq_ediv_of_nonneg, Int.fmod_eq_emod_of_nonneg]); omega) | trivial | (refine ⟨?_, ?_, ?_, ?_, ?_, ?_, ?_, ?_, ?_, ?_, ?_, ?_, ?_, ?_⟩ <;> first | assumption | omega) | decide | (exact decide_eq_true (by omega)) | k_extra "pre")); intro v9 h9 tk9 F9 N9 R9; (try dsimp only at R9); (subst R9); (try dsimp only); (try k_sweep); (try k_fold))
  k_with "eval Call Name" => (k_here; (with_reducible show wpAny _ _ (eval (Expr.Call (Expr.Name "day_text" _) _ _ _) _) _ _ _); refine Call_ ?_)
  k_with "call ref" => (k_here; (with_reducible show wpAny _ _ (call (Value.ref 383) _) _ _ _); k_dflt (refine' pur_use (day_text_c _ _ _ _ _ _ _ ?h1 ?h2 ?h3 ?h4 ?h5 ?h6) ?k1 ?k2 ?k3 ?k4 ?k5 ?kK ?kd ?ku ?_; (case k1 => k_asm); (case k2 => k_asm); (case k3 => k_asm); (case k4 => k_asm); (case k5 => k_asm); (case kK => first | exact rfl | assumption); (case kd => ktr_room); (case ku => ktr_units)); (case h1 => (first | assumption | omega | ((try dsimp only); omega) | ((try dsimp only); (simp (disch := decide) only [Int.fdiv_eq_ediv_of_nonneg, Int.fmod_eq_emod_of_nonneg]); omega) | trivial | (refine ⟨?_, ?_, ?_, ?_, ?_, ?_, ?_, ?_, ?_, ?_, ?_, ?_, ?_, ?_⟩ <;> first | assumption | omega) | decide | (exact decide_eq_true (by omega)) | k_extra "pre")); (case h2 => (first | assumption | omega | ((try dsimp only); omega) | ((try dsimp only); (simp (disch := decide) only [Int.fdiv_eq_ediv_of_nonneg, Int.fmod_eq_emod_of_nonneg]); omega) | trivial | (refine ⟨?_, ?_, ?_, ?_, ?_, ?_, ?_, ?_, ?_, ?_, ?_, ?_, ?_, ?_⟩ <;> first | assumption | omega) | decide | (exact decide_eq_true (by omega)) | k_extra "pre")); (case h3 => (first | assumption | omega | ((try dsimp only); omega) | ((try dsimp only); (simp (disch := decide) only [Int.fdiv_eq_ediv_of_nonneg, Int.fmod_eq_emod_of_nonneg]); omega) | trivial | (refine ⟨?_, ?_, ?_, ?_, ?_, ?_, ?_, ?_, ?_, ?_, ?_, ?_, ?_, ?_⟩ <;> first | assumption | omega) | decide | (exact decide_eq_true (by omega)) | k_extra "pre")); (case h4 => (first | assumption | omega | ((try dsimp only); omega) | ((try dsimp only); (simp (disch := decide) only [Int.fdiv_eq_ediv_of_nonneg, Int.fmod_eq_emod_of_nonneg]); omega) | trivial | (refine ⟨?_, ?_, ?_, ?_, ?_, ?_, ?_, ?_, ?_, ?_, ?_, ?_, ?_, ?_⟩ <;> first | assumption | omega) | decide | (exact decide_eq_true (by omega)) | k_extra "pre")); (case h5 => (first | assumption | omega | ((try dsimp only); omega) | ((try dsimp only); (simp (disch := decide) only [Int.fdiv_eq_ediv_of_nonneg, Int.fmod_eq_emod_of_nonneg]); omega) | trivial | (refine ⟨?_, ?_, ?_, ?_, ?_, ?_, ?_, ?_, ?_, ?_, ?_, ?_, ?_, ?_⟩ <;> first | assumption | omega) | decide | (exact decide_eq_true (by omega)) | k_extra "pre")); (case h6 => (first | assumption | omega | ((try dsimp only); omega) | ((try dsimp only); (simp (disch := decide) only [Int.fdiv_eq_ediv_of_nonneg, Int.fmod_eq_emod_of_nonneg]); omega) | trivial | (refine ⟨?_, ?_, ?_, ?_, ?_, ?_, ?_, ?_, ?_, ?_, ?_, ?_, ?_, ?_⟩ <;> first | assumption | omega) | decide | (exact decide_eq_true (by omega)) | k_extra "pre")); intro v9 h9 tk9 F9 N9 R9; (try dsimp only at R9); (obtain ⟨y9, t9, e9, hy9, hl9⟩ := R9); (subst e9); (try dsimp only); (try k_sweep); (try k_fold))
  k_with "eval Call Name" => (k_here; (with_reducible show wpAny _ _ (eval (Expr.Call (Expr.Name "write_internal" _) _ _ _) _) _ _ _); refine Call_ ?_)
  k_with "call ref" => (k_here; (with_reducible show wpAny _ _ (call (Value.ref 402) _) _ _ _); k_dflt (refine' spcp_use (write_internal_c _ _ _ _ _ _ _ _ _ ?h1) ?k1 ?k2 ?k3 ?k4 ?k5 ?kK ?kd ?ku ?ki ?_; (case k1 => k_asm); (case k2 => k_asm); (case k3 => k_asm); (case k4 => k_asm); (case k5 => k_asm); (case kK => first | exact rfl | assumption); (case kd => ktr_room); (case ku => ktr_units); (case ki => (refine' MomIn.mk ?m1 ?m2; (case m1 => k_mem); (case m2 => k_mem)))); (case h1 => (first | assumption | omega | ((try dsimp only); omega) | ((try dsimp only); (simp (disch := decide) only [Int.fdiv_eq_ediv_of_nonneg, Int.fmod_eq_emod_of_nonneg]); omega) | trivial | (refine ⟨?_, ?_, ?_, ?_, ?_, ?_, ?_, ?_, ?_, ?_, ?_, ?_, ?_, ?_⟩ <;> first | assumption | omega) | decide | (exact decide_eq_true (by omega)) | k_extra "pre")); intro v9 h9 tk9 F9 N9 R9; (try dsimp only at R9); (obtain ⟨y9, t9, e9, hy9, hl9⟩ := R9); (subst e9); (try dsimp only); (try k_sweep); (try k_fold))
  k_with "eval Call Name" => (k_here; (with_reducible show wpAny _ _ (eval (Expr.Call (Expr.Name "zone_in" _) _ _ _) _) _ _ _); refine Call_ ?_)
  k_with "call ref" => (k_here; (with_reducible show wpAny _ _ (call (Value.ref 284) _) _ _ _); k_dflt (refine' pur_use (zone_in_c _ _ _ _ ?h1 ?h2 ?h3) ?k1 ?k2 ?k3 ?k4 ?k5 ?kK ?kd ?ku ?_; (case k1 => k_asm); (case k2 => k_asm); (case k3 => k_asm); (case k4 => k_asm); (case k5 => k_asm); (case kK => first | exact rfl | assumption); (case kd => ktr_room); (case ku => ktr_units)); (case h1 => (first | assumption | omega | ((try dsimp only); omega) | ((try dsimp only); (simp (disch := decide) only [Int.fdiv_eq_ediv_of_nonneg, Int.fmod_eq_emod_of_nonneg]); omega) | trivial | (refine ⟨?_, ?_, ?_, ?_, ?_, ?_, ?_, ?_, ?_, ?_, ?_, ?_, ?_, ?_⟩ <;> first | assumption | omega) | decide | (exact decide_eq_true (by omega)) | k_extra "pre")); (case h2 => (first | assumption | omega | ((try dsimp only); omega) | ((try dsimp only); (simp (disch := decide) only [Int.fdiv_eq_ediv_of_nonneg, Int.fmod_eq_emod_of_nonneg]); omega) | trivial | (refine ⟨?_, ?_, ?_, ?_, ?_, ?_, ?_, ?_, ?_, ?_, ?_, ?_, ?_, ?_⟩ <;> first | assumption | omega) | decide | (exact decide_eq_true (by omega)) | k_extra "pre")); (case h3 => (first | assumption | omega | ((try dsimp only); omega) | ((try dsimp only); (simp (disch := decide) only [Int.fdiv_eq_ediv_of_nonneg, Int.fmod_eq_emod_of_nonneg]); omega) | trivial | (refine ⟨?_, ?_, ?_, ?_, ?_, ?_, ?_, ?_, ?_, ?_, ?_, ?_, ?_, ?_⟩ <;> first | assumption | omega) | decide | (exact decide_eq_true (by omega)) | k_extra "pre")); intro v9 h9 tk9 F9 N9 R9; (try dsimp only at R9); (obtain ⟨t9, e9⟩ := R9); (subst e9); (try dsimp only); (try k_sweep); (try k_fold))
  k_with "call builtin:str.split" => (k_here; (with_reducible show wpAny _ _ (call (Value.builtin "str.split") _) _ _ _); (refine KSpl.split1 (by k_asm) (by k_asm) (by decide) ?_ (by rw [sizeLine_eq]; omega)); intro D' l' h' k' e' a' F' N' l1; (try k_lt l1); (have e2' := Eq.trans e' (by with_reducible assumption)); (clear e'); kspl_open e2'; (simp only [strValues, List.map_cons, List.map_nil] at N' a'))
  k_with "eval Call Name" => (k_here; (with_reducible show wpAny _ _ (eval (Expr.Call (Expr.Name "day_in" _) _ _ _) _) _ _ _); refine Call_ ?_)
  k_with "call ref" => (k_here; (with_reducible show wpAny _ _ (call (Value.ref 390) _) _ _ _); k_dflt (refine' spc_use (day_in_c _ _ _ _ _ _ _ _ _ ?h1 ?h2 ?h3 ?h4 ?h5 ?h6 ?h7 ?h8 ?h9 ?h10) ?k1 ?k2 ?k3 ?k4 ?k5 ?kK ?kd ?ku ?ki ?_; (case k1 => k_asm); (case k2 => k_asm); (case k3 => k_asm); (case k4 => k_asm); (case k5 => k_asm); (case kK => first | exact rfl | assumption); (case kd => ktr_room); (case ku => ktr_units); (case ki => exact trivial)); (case h1 => (first | assumption | omega | ((try dsimp only); omega) | ((try dsimp only); (simp (disch := decide) only [Int.fdiv_eq_ediv_of_nonneg, Int.fmod_eq_emod_of_nonneg]); omega) | trivial | (refine ⟨?_, ?_, ?_, ?_, ?_, ?_, ?_, ?_, ?_, ?_, ?_, ?_, ?_, ?_⟩ <;> first | assumption | omega) | decide | (exact decide_eq_true (by omega)) | k_extra "pre")); (case h4 => (first | assumption | omega | ((try dsimp only); omega) | ((try dsimp only); (simp (disch := decide) only [Int.fdiv_eq_ediv_of_nonneg, Int.fmod_eq_emod_of_nonneg]); omega) | trivial | (refine ⟨?_, ?_, ?_, ?_, ?_, ?_, ?_, ?_, ?_, ?_, ?_, ?_, ?_, ?_⟩ <;> first | assumption | omega) | decide | (exact decide_eq_true (by omega)) | k_extra "pre")); (case h2 => (first | assumption | omega | ((try dsimp only); omega) | ((try dsimp only); (simp (disch := decide) only [Int.fdiv_eq_ediv_of_nonneg, Int.fmod_eq_emod_of_nonneg]); omega) | trivial | (refine ⟨?_, ?_, ?_, ?_, ?_, ?_, ?_, ?_, ?_, ?_, ?_, ?_, ?_, ?_⟩ <;> first | assumption | omega) | decide | (exact decide_eq_true (by omega)) | k_extra "pre")); (case h3 => (first | assumption | omega | ((try dsimp only); omega) | ((try dsimp only); (simp (disch := decide) only [Int.fdiv_eq_ediv_of_nonneg, Int.fmod_eq_emod_of_nonneg]); omega) | trivial | (refine ⟨?_, ?_, ?_, ?_, ?_, ?_, ?_, ?_, ?_, ?_, ?_, ?_, ?_, ?_⟩ <;> first | assumption | omega) | decide | (exact decide_eq_true (by omega)) | k_extra "pre")); (case h5 => (first | assumption | omega | ((try dsimp only); omega) | ((try dsimp only); (simp (disch := decide) only [Int.fdiv_eq_ediv_of_nonneg, Int.fmod_eq_emod_of_nonneg]); omega) | trivial | (refine ⟨?_, ?_, ?_, ?_, ?_, ?_, ?_, ?_, ?_, ?_, ?_, ?_, ?_, ?_⟩ <;> first | assumption | omega) | decide | (exact decide_eq_true (by omega)) | k_extra "pre")); (case h6 => (first | assumption | omega | ((try dsimp only); omega) | ((try dsimp only); (simp (disch := decide) only [Int.fdiv_eq_ediv_of_nonneg, Int.fmod_eq_emod_of_nonneg]); omega) | trivial | (refine ⟨?_, ?_, ?_, ?_, ?_, ?_, ?_, ?_, ?_, ?_, ?_, ?_, ?_, ?_⟩ <;> first | assumption | omega) | decide | (exact decide_eq_true (by omega)) | k_extra "pre")); (case h7 => (first | assumption | omega | ((try dsimp only); omega) | ((try dsimp only); (simp (disch := decide) only [Int.fdiv_eq_ediv_of_nonneg, Int.fmod_eq_emod_of_nonneg]); omega) | trivial | (refine ⟨?_, ?_, ?_, ?_, ?_, ?_, ?_, ?_, ?_, ?_, ?_, ?_, ?_, ?_⟩ <;> first | assumption | omega) | decide | (exact decide_eq_true (by omega)) | k_extra "pre")); (case h8 => (first | assumption | omega | ((try dsimp only); omega) | ((try dsimp only); (simp (disch := decide) only [Int.fdiv_eq_ediv_of_nonneg, Int.fmod_eq_emod_of_nonneg]); omega) | trivial | (refine ⟨?_, ?_, ?_, ?_, ?_, ?_, ?_, ?_, ?_, ?_, ?_, ?_, ?_, ?_⟩ <;> first | assumption | omega) | decide | (exact decide_eq_true (by omega)) | k_extra "pre")); (case h9 => (first | assumption | omega | ((try dsimp only); omega) | ((try dsimp only); (simp (disch := decide) only [Int.fdiv_eq_ediv_of_nonneg, Int.fmod_eq_emod_of_nonneg]); omega) | trivial | (refine ⟨?_, ?_, ?_, ?_, ?_, ?_, ?_, ?_, ?_, ?_, ?_, ?_, ?_, ?_⟩ <;> first | assumption | omega) | decide | (exact decide_eq_true (by omega)) | k_extra "pre")); (case h10 => (first | assumption | omega | ((try dsimp only); omega) | ((try dsimp only); (simp (disch := decide) only [Int.fdiv_eq_ediv_of_nonneg, Int.fmod_eq_emod_of_nonneg]); omega) | trivial | (refine ⟨?_, ?_, ?_, ?_, ?_, ?_, ?_, ?_, ?_, ?_, ?_, ?_, ?_, ?_⟩ <;> first | assumption | omega) | decide | (exact decide_eq_true (by omega)) | k_extra "pre")); intro v9 n9 h9 tk9 F9 N9 R9; (try dsimp only at R9); (obtain ⟨x9, t91, t92, t93, e9, en9, hl9⟩ := R9); (subst e9; subst en9; (try simp only [AllLt, and_true] at hl9)); (try dsimp only); (try k_sweep); (try k_fold))
  k_with "ite" => ((with_reducible show ite (_ = true) (wpAny _ _ (eval (Expr.Constant (Const.int 1) _ _) _) _ _ _) (wpAny _ _ (eval (Expr.Constant (Const.int 0) _ _) _) _ _ _)); refine const_join ?_)
  k_with "exec Assign cons ListComp" => ((with_reducible show wpAny _ _ (exec (Stmt.Assign [Expr.Tuple _ _ _] (Expr.ListComp (Expr.Call (Expr.Name "int" _) _ _ _) _ _ _) _) _) _ _ _); k_dflt (walk_at "exec Assign"))
  k_with "eval ListComp" => ((with_reducible show wpAny _ _ (eval (Expr.ListComp (Expr.Call (Expr.Name "int" _) [Expr.Name "part" _] _ _) _ _ _) _) _ _ _); walk_at "NZ ECOMP")
  k_with "eval Call Name" => (k_here; (with_reducible show wpAny _ _ (eval (Expr.Call (Expr.Name "read_internal" _) _ _ _) _) _ _ _); refine Call_ ?_)
  k_with "call ref" => (k_here; (with_reducible show wpAny _ _ (call (Value.ref 395) _) _ _ _); k_dflt (refine' mom_use (read_internal_c _ _ _ _ _ _ _ _ _ _ ?h1 ?h2) ?k1 ?k2 ?k3 ?k4 ?k5 ?kK ?kd ?ku ?ki ?_; (case k1 => k_asm); (case k2 => k_asm); (case k3 => k_asm); (case k4 => k_asm); (case k5 => k_asm); (case kK => first | exact rfl | assumption); (case kd => ktr_room); (case ku => ktr_units); (case ki => exact trivial)); (case h2 => (first | assumption | omega | ((try dsimp only); omega) | ((try dsimp only); (simp (disch := decide) only [Int.fdiv_eq_ediv_of_nonneg, Int.fmod_eq_emod_of_nonneg]); omega) | trivial | (refine ⟨?_, ?_, ?_, ?_, ?_, ?_, ?_, ?_, ?_, ?_, ?_, ?_, ?_, ?_⟩ <;> first | assumption | omega) | decide | (exact decide_eq_true (by omega)) | k_extra "pre")); (case h1 => (first | assumption | omega | ((try dsimp only); omega) | ((try dsimp only); (simp (disch := decide) only [Int.fdiv_eq_ediv_of_nonneg, Int.fmod_eq_emod_of_nonneg]); omega) | trivial | (refine ⟨?_, ?_, ?_, ?_, ?_, ?_, ?_, ?_, ?_, ?_, ?_, ?_, ?_, ?_⟩ <;> first | assumption | omega) | decide | (exact decide_eq_true (by omega)) | k_extra "pre")); intro x9 dx9 k91 k92 k93 k94 k95 k96 k97 t91 t92 t93 t94 t95 t96 t97 h9 tk9 F9 N9 hl9 hx9; (try dsimp only at N9); (replace hx9 := ltN hx9); (try simp only [AllLt, and_true] at hl9); (try dsimp only); (try k_sweep); (try k_fold))
  k_with "eval ListComp" => ((with_reducible show wpAny _ _ (eval (Expr.ListComp (Expr.Call (Expr.Name "ord" _) [Expr.Name "sign" _] _ _) _ _ _) _) _ _ _); walk_at "NZ ECOMP")
  trivial
theorem rows_54_72 : True := by
  k_with "eval Call Name" => (k_here; (with_reducible show wpAny _ _ (eval (Expr.Call (Expr.Name "write_date" _) _ _ _) _) _ _ _); refine Call_ ?_)
  k_with "call ref" => (k_here; (with_reducible show wpAny _ _ (call (Value.ref 376) _) _ _ _); k_dflt (refine' spcp_use (write_date_c _ _ _ _ _ _ _ _ _ ?h1) ?k1 ?k2 ?k3 ?k4 ?k5 ?kK ?kd ?ku ?ki ?_; (case k1 => k_asm); (case k2 => k_asm); (case k3 => k_asm); (case k4 => k_asm); (case k5 => k_asm); (case kK => first | exact rfl | assumption); (case kd => ktr_room); (case ku => ktr_units); (case ki => (refine' MomIn.mk ?m1 ?m2; (case m1 => k_mem); (case m2 => k_mem)))); (case h1 => (first | assumption | omega | ((try dsimp only); omega) | ((try dsimp only); (simp (disch := decide) only [Int.fdiv_eq_ediv_of_nonneg, Int.fmod_eq_emod_of_nonneg]); omega) | trivial | (refine ⟨?_, ?_, ?_, ?_, ?_, ?_, ?_, ?_, ?_, ?_, ?_, ?_, ?_, ?_⟩ <;> first | assumption | omega) | decide | (exact decide_eq_true (by omega)) | k_extra "pre")); intro v9 h9 tk9 F9 N9 R9; (try dsimp only at R9); (obtain ⟨y9, t9, e9, hy9⟩ := R9); (subst e9); (try dsimp only); (try k_sweep); (try k_fold))
  trivial

theorem read_zone_c (w : World) (x : Array UInt8) (D : Int) (rest : List (Addr × Obj)) (vs : List Value) (rx dx dl : Addr) (ln i z : Int) (hi : i = 10) (hR : Rdr x D rest vs rx dx dl)
    (z1 : (pkd x (24 + D) (29 + D)).size ≤ 100) (c1 : ∀ c ∈ (pkd x (24 + D) (29 + D)).toList, c.toNat < 128) (e1 : (asc (pkd x (24 + D) (29 + D))).cps.toList = dZone z) (hz1 : -5999 ≤ z) (hz2 : z ≤ 5999) :
    Spc w 16 (.ref 364) [.ref rx] (RdS w rx dx dl ln rest i) (fun _ v news' => ∃ t k1 k2 k3 u1 u2, v = .int z t ∧ news' = (rx, instObj 339 dx) :: (dx, rdObj w k1 k2 k3 dl 11 ln u1 u2) :: rest) := by
  subst hi
  (try unfold Pur)
  unfold Spc
  k_fill
  intro mean mg mb dp un gd cn cs aF ccd cl outer A₀ base h₀ LF mF news sF QF EF B F X N T hk hdp hun hin hret
  obtain ⟨k1, k2, k3, u1, u2, p1, p2, p3⟩ := hin
  replace N := rd_news N p1 p2 p3
  refine wpAny_call ?_
  k_dflt cell_enter
  (with_reducible rename Fr _ _ _ (fun nzy => List.lookup nzy _) => F0)
  replace F0 := fr_eq (m' := fun nzy => List.lookup nzy ([(Str.ofString "reader", Value.ref rx)] : List (Str × Value))) F0 (by kernel_rfl)
  k_steps
  refine' hret _ _ _ _ ?e2 ?e3 ⟨_, _, _, _, _, _, rfl, rfl⟩
  case e2 => k_asm
  case e3 => k_asm
theorem rows_55_73 : True := by
  k_with "eval Call Name" => (k_here; (with_reducible show wpAny _ _ (eval (Expr.Call (Expr.Name "read_zone" _) _ _ _) _) _ _ _); refine Call_ ?_)
  k_with "call ref" => (k_here; (with_reducible show wpAny _ _ (call (Value.ref 364) _) _ _ _); k_dflt (refine' spc_use (read_zone_c _ _ _ _ _ _ _ _ _ _ _ ?hi ?h0 ?h4 ?h5 ?h6 ?h7 ?h8) ?k1 ?k2 ?k3 ?k4 ?k5 ?kK ?kd ?ku ?ki ?_; (case k1 => k_asm); (case k2 => k_asm); (case k3 => k_asm); (case k4 => k_asm); (case k5 => k_asm); (case kK => first | exact rfl | assumption); (case kd => ktr_room); (case ku => ktr_units); (case h0 => assumption); (case ki => exact ⟨_, _, _, _, _, by k_mem, by k_mem, fun p hp => by (repeat (first | exact hp | refine List.Mem.tail _ ?_))⟩)); (case hi => (first | assumption | omega | ((try dsimp only); omega) | ((try dsimp only); (simp (disch := decide) only [Int.fdiv_eq_ediv_of_nonneg, Int.fmod_eq_emod_of_nonneg]); omega) | trivial | (refine ⟨?_, ?_, ?_, ?_, ?_, ?_, ?_, ?_, ?_, ?_, ?_, ?_, ?_, ?_⟩ <;> first | assumption | omega) | decide | (exact decide_eq_true (by omega)) | k_extra "pre")); (case h4 => (first | assumption | omega | ((try dsimp only); omega) | ((try dsimp only); (simp (disch := decide) only [Int.fdiv_eq_ediv_of_nonneg, Int.fmod_eq_emod_of_nonneg]); omega) | trivial | (refine ⟨?_, ?_, ?_, ?_, ?_, ?_, ?_, ?_, ?_, ?_, ?_, ?_, ?_, ?_⟩ <;> first | assumption | omega) | decide | (exact decide_eq_true (by omega)) | k_extra "pre")); (case h5 => (first | assumption | omega | ((try dsimp only); omega) | ((try dsimp only); (simp (disch := decide) only [Int.fdiv_eq_ediv_of_nonneg, Int.fmod_eq_emod_of_nonneg]); omega) | trivial | (refine ⟨?_, ?_, ?_, ?_, ?_, ?_, ?_, ?_, ?_, ?_, ?_, ?_, ?_, ?_⟩ <;> first | assumption | omega) | decide | (exact decide_eq_true (by omega)) | k_extra "pre")); (case h6 => (first | assumption | omega | ((try dsimp only); omega) | ((try dsimp only); (simp (disch := decide) only [Int.fdiv_eq_ediv_of_nonneg, Int.fmod_eq_emod_of_nonneg]); omega) | trivial | (refine ⟨?_, ?_, ?_, ?_, ?_, ?_, ?_, ?_, ?_, ?_, ?_, ?_, ?_, ?_⟩ <;> first | assumption | omega) | decide | (exact decide_eq_true (by omega)) | k_extra "pre")); (case h7 => (first | assumption | omega | ((try dsimp only); omega) | ((try dsimp only); (simp (disch := decide) only [Int.fdiv_eq_ediv_of_nonneg, Int.fmod_eq_emod_of_nonneg]); omega) | trivial | (refine ⟨?_, ?_, ?_, ?_, ?_, ?_, ?_, ?_, ?_, ?_, ?_, ?_, ?_, ?_⟩ <;> first | assumption | omega) | decide | (exact decide_eq_true (by omega)) | k_extra "pre")); (case h8 => (first | assumption | omega | ((try dsimp only); omega) | ((try dsimp only); (simp (disch := decide) only [Int.fdiv_eq_ediv_of_nonneg, Int.fmod_eq_emod_of_nonneg]); omega) | trivial | (refine ⟨?_, ?_, ?_, ?_, ?_, ?_, ?_, ?_, ?_, ?_, ?_, ?_, ?_, ?_⟩ <;> first | assumption | omega) | decide | (exact decide_eq_true (by omega)) | k_extra "pre")); intro v9 n9 h9 tk9 F9 N9 R9; (try dsimp only at R9); (obtain ⟨t9, k91, k92, k93, u91, u92, e9, en9⟩ := R9); (subst e9; subst en9); (try dsimp only); (try k_sweep); (try k_fold))
  trivial

theorem pk_mem {x : Array UInt8} {ks : List Int} (has : ∀ c ∈ x.toList, c.toNat < 128) (hb : KBw.bInts x = ks) {i j : Int} (h : AT ks i j) : (KBy.picked x (some i) (some j)).size ≤ 100 ∧ ∀ c ∈ (KBy.picked x (some i) (some j)).toList, c.toNat < 128 := by
  obtain ⟨h0, h1, h2, h3, _, _⟩ := h
  have hl : ks.length = x.size := by rw [← hb, KBw.ints_length]
  rw [pk x ks hb i j h0 (by omega) h2]
  refine ⟨?_, fun c hc => ?_⟩
  · simp; omega
  · simp only at hc
    exact has c (List.mem_of_mem_drop (List.mem_of_mem_take hc))
abbrev P (x : Array UInt8) (i j : Int) : Str := asc (KBy.picked x (some i) (some j))
structure DateF (x : Array UInt8) (D y mo d h mi s z : Int) : Prop where
  asci : ∀ c ∈ x.toList, c.toNat < 128
  wd : P x 0 3 ∈ DAY
  dn : NumB (KBy.picked x (some 5) (some (5 + D))) D d
  mm : P x (6 + D) (9 + D) ∈ MON
  mi' : (((MON.map lowT).idxOf (lowT (P x (6 + D) (9 + D))) : Nat) : Int) + 1 = mo
  yn : NumB (KBy.picked x (some (10 + D)) (some (14 + D))) 4 y
  hn : NumB (KBy.picked x (some (15 + D)) (some (17 + D))) 2 h
  tn : NumB (KBy.picked x (some (18 + D)) (some (20 + D))) 2 mi
  sn : NumB (KBy.picked x (some (21 + D)) (some (23 + D))) 2 s
  zn : (P x (24 + D) (29 + D)).cps.toList = dZone z
theorem allLt_sub {d : Addr} {rest : List (Addr × Obj)} (h : AllLt d rest) : ∀ {news : List (Addr × Obj)}, (∀ p ∈ news, p ∈ rest) → AllLt d news
  | [], _ => True.intro
  | p :: l, hs => ⟨allLt_mem h p (hs p (List.Mem.head _)), allLt_sub h fun q hq => hs q (List.Mem.tail _ hq)⟩
theorem full_year_c (w : World) (n : Int) (t u : Tok) : Pur w 1 (.ref 350) [.int n t, .int 4 u] (fun v => ∃ t, v = .int n t) := by
  (try unfold Pur)
  unfold Spc
  k_fill
  intro mean mg mb dp un gd cn cs aF ccd cl outer A₀ base h₀ LF mF news sF QF EF B F X N T hk hdp hun hin hret
  refine wpAny_call ?_
  k_dflt cell_enter
  (with_reducible rename Fr _ _ _ (fun nzy => List.lookup nzy _) => F0)
  replace F0 := fr_eq (m' := fun nzy => List.lookup nzy ([(Str.ofString "figures", Value.int 4 u), (Str.ofString "number", Value.int n t)] : List (Str × Value))) F0 (by kernel_rfl)
  k_steps
  all_goals (refine' hret _ _ _ _ ?e2 ?e3 (⟨rfl, _, rfl⟩); (case e2 => k_asm); (case e3 => (first | k_asm | (refine' news_drop ?cbN ?cbS; (case cbN => assumption); (case cbS => kcj_all)))))
theorem rows_60_74 : True := by
  k_with "eval Call Name" => (k_here; (with_reducible show wpAny _ _ (eval (Expr.Call (Expr.Name "full_year" _) _ _ _) _) _ _ _); refine Call_ ?_)
  k_with "call ref" => (k_here; (with_reducible show wpAny _ _ (call (Value.ref 350) _) _ _ _); k_dflt (refine' pur_use (full_year_c _ _ _ _) ?k1 ?k2 ?k3 ?k4 ?k5 ?kK ?kd ?ku ?_; (case k1 => k_asm); (case k2 => k_asm); (case k3 => k_asm); (case k4 => k_asm); (case k5 => k_asm); (case kK => first | exact rfl | assumption); (case kd => ktr_room); (case ku => ktr_units)); intro v9 h9 tk9 F9 N9 R9; (try dsimp only at R9); (obtain ⟨t9, e9⟩ := R9); (subst e9); (try dsimp only); (try k_sweep); (try k_fold))
  trivial
theorem read_date_c (w : World) (x : Array UInt8) (ks : List Int) (t : Tok) (D y mo d h mi s z : Int) (hb : KBw.bInts x = ks) (hd : DateL ks D) (hf : DateF x D y mo d h mi s z) (hv : Valid y mo d h mi s z) : Spc w 20 (.ref 371) [.bytes x t] (fun _ => True)
    (fun news v news' => MomNew w y mo d h mi s z news v news') := by
  (try unfold Pur)
  unfold Spc
  k_fill
  intro mean mg mb dp un gd cn cs aF ccd cl outer A₀ base h₀ LF mF news sF QF EF B F X N T hk hdp hun hin hret
  refine wpAny_call ?_
  k_dflt cell_enter
  (with_reducible rename Fr _ _ _ (fun nzy => List.lookup nzy _) => F0)
  replace F0 := fr_eq (m' := fun nzy => List.lookup nzy ([(Str.ofString "octets", Value.bytes x t)] : List (Str × Value))) F0 (by kernel_rfl)
  obtain ⟨hv1, hv2, hv3, hv4, hv5, hv6, hv7, hv8, hv9, hv10, hv11, hv12, hv13, hv14⟩ := hv
  have hl := hd.hl
  have hD := hd.hD
  obtain ⟨z1, c1⟩ := pk_mem hf.asci hb hd.a1
  obtain ⟨z4, c4⟩ := pk_mem hf.asci hb hd.a4
  obtain ⟨z11, c11⟩ := pk_mem hf.asci hb hd.a11
  obtain ⟨has, hwd, n3, hmm, hmi, n5, f6, f8, f10, hzn⟩ := hf
  have hlo : (1 : Int) ≤ D := by omega
  have hhi : D ≤ 2 := by omega
  k_steps
  refine' hret _ _ _ _ ?e2 ?e3 (MomNew.mk ?e4 ?e5)
  case e2 => k_asm
  case e3 => refine' news_drop ?cbN ?cbS; (case cbN => assumption); (case cbS => exact List.forall_mem_cons.mpr ⟨by k_mem, List.forall_mem_cons.mpr ⟨by k_mem, fun p hp => List.mem_cons_of_mem _ (List.mem_cons_of_mem _ (List.mem_cons_of_mem _ (List.mem_cons_of_mem _ (hsub9 p hp))))⟩⟩)
  case e4 => exact allLt_sub (‹_ ∧ _ ∧ AllLt _ _›).2.2 hsub9
  case e5 => assumption

theorem atomB_ne {c : Int} (h : atomB c = true) : c ≠ 9 ∧ c ≠ 32 ∧ c ≠ 10 ∧ c ≠ 13 := by
  have := atomB_or h
  omega
theorem ne44 : ((44 : Nat) : Int) ≠ 9 ∧ ((44 : Nat) : Int) ≠ 32 ∧ ((44 : Nat) : Int) ≠ 10 ∧ ((44 : Nat) : Int) ≠ 13 := by decide
theorem ne58 : ((58 : Nat) : Int) ≠ 9 ∧ ((58 : Nat) : Int) ≠ 32 ∧ ((58 : Nat) : Int) ≠ 10 ∧ ((58 : Nat) : Int) ≠ 13 := by decide
theorem dI {p : Prop} [Decidable p] (h : decide p = true) : p := of_decide_eq_true h
theorem lt1 {a k j : Int} (h1 : k ≤ a) (h2 : a < j) (h : j = k + 1) : a = k := by omega
theorem lt2 {a k j : Int} (h1 : k ≤ a) (h2 : a < j) (h : j = k + 2) : a = k ∨ a = k + 1 := by omega
theorem lt3 {a k j : Int} (h1 : k ≤ a) (h2 : a < j) (h : j = k + 3) : a = k ∨ a = k + 1 ∨ a = k + 2 := by omega
theorem lt4 {a k j : Int} (h1 : k ≤ a) (h2 : a < j) (h : j = k + 4) : a = k ∨ a = k + 1 ∨ a = k + 2 ∨ a = k + 3 := by omega
theorem lt5 {a k j : Int} (h1 : k ≤ a) (h2 : a < j) (h : j = k + 5) : a = k ∨ a = k + 1 ∨ a = k + 2 ∨ a = k + 3 ∨ a = k + 4 := by omega
theorem dl1 (w1 w2 w3 a m1 m2 m3 y1 y2 y3 y4 h1 h2 i1 i2 s1 s2 z0 z1 z2 z3 z4 : Nat) (kw1 : atomB ((w1 : Nat) : Int) = true) (kw2 : atomB ((w2 : Nat) : Int) = true) (kw3 : atomB ((w3 : Nat) : Int) = true) (ka : atomB ((a : Nat) : Int) = true) (km1 : atomB ((m1 : Nat) : Int) = true) (km2 : atomB ((m2 : Nat) : Int) = true) (km3 : atomB ((m3 : Nat) : Int) = true) (ky1 : atomB ((y1 : Nat) : Int) = true) (ky2 : atomB ((y2 : Nat) : Int) = true) (ky3 : atomB ((y3 : Nat) : Int) = true) (ky4 : atomB ((y4 : Nat) : Int) = true) (kh1 : atomB ((h1 : Nat) : Int) = true) (kh2 : atomB ((h2 : Nat) : Int) = true) (ki1 : atomB ((i1 : Nat) : Int) = true) (ki2 : atomB ((i2 : Nat) : Int) = true) (ks1 : atomB ((s1 : Nat) : Int) = true) (ks2 : atomB ((s2 : Nat) : Int) = true) (kz0 : atomB ((z0 : Nat) : Int) = true) (kz1 : atomB ((z1 : Nat) : Int) = true) (kz2 : atomB ((z2 : Nat) : Int) = true) (kz3 : atomB ((z3 : Nat) : Int) = true) (kz4 : atomB ((z4 : Nat) : Int) = true) : DateL ([w1, w2, w3, 44, 32, a, 32, m1, m2, m3, 32, y1, y2, y3, y4, 32, h1, h2, 58, i1, i2, 58, s1, s2, 32, z0, z1, z2, z3, z4].map fun n : Nat => (n : Int)) 1 := by
  have hl : ((([w1, w2, w3, 44, 32, a, 32, m1, m2, m3, 32, y1, y2, y3, y4, 32, h1, h2, 58, i1, i2, 58, s1, s2, 32, z0, z1, z2, z3, z4].map fun n : Nat => (n : Int)).length : Nat) : Int) = 30 := rfl
  exact ⟨hl.trans rfl, by decide,
    ⟨dI (by kernel_rfl), dI (by kernel_rfl), dI (by kernel_rfl), dI (by kernel_rfl), fun a h1 h2 => absurd h2 (Int.not_lt.mpr h1), fun _ => atomB_ne kw1⟩,
    ⟨dI (by kernel_rfl), dI (by kernel_rfl), dI (by kernel_rfl), dI (by kernel_rfl), by intro a h1 h2; rcases lt3 h1 h2 rfl with rfl | rfl | rfl; exact kw1; exact kw2; exact kw3, fun _ => Or.inr (Or.inl rfl)⟩,
    ⟨dI (by kernel_rfl), dI (by kernel_rfl), dI (by kernel_rfl), dI (by kernel_rfl), fun a h1 h2 => absurd h2 (Int.not_lt.mpr h1), fun _ => ⟨ne44.1, ne44.2.1, ne44.2.2.1, ne44.2.2.2⟩⟩,
    ⟨dI (by kernel_rfl), dI (by kernel_rfl), dI (by kernel_rfl), dI (by kernel_rfl), rfl, by decide⟩,
    ⟨dI (by kernel_rfl), dI (by kernel_rfl), dI (by kernel_rfl), dI (by kernel_rfl), by intro a h1 h2; rcases lt1 h1 h2 rfl with rfl; rfl, fun _ => atomB_ne ka⟩,
    ⟨dI (by kernel_rfl), dI (by kernel_rfl), dI (by kernel_rfl), dI (by kernel_rfl), by intro a h1 h2; rcases lt1 h1 h2 rfl with rfl; exact ka, fun _ => Or.inl rfl⟩,
    ⟨dI (by kernel_rfl), dI (by kernel_rfl), dI (by kernel_rfl), dI (by kernel_rfl), by intro a h1 h2; rcases lt1 h1 h2 rfl with rfl; rfl, fun _ => atomB_ne km1⟩,
    ⟨dI (by kernel_rfl), dI (by kernel_rfl), dI (by kernel_rfl), dI (by kernel_rfl), by intro a h1 h2; rcases lt3 h1 h2 rfl with rfl | rfl | rfl; exact km1; exact km2; exact km3, fun _ => Or.inl rfl⟩,
    ⟨dI (by kernel_rfl), dI (by kernel_rfl), dI (by kernel_rfl), dI (by kernel_rfl), by intro a h1 h2; rcases lt1 h1 h2 rfl with rfl; rfl, fun _ => atomB_ne ky1⟩,
    ⟨dI (by kernel_rfl), dI (by kernel_rfl), dI (by kernel_rfl), dI (by kernel_rfl), by intro a h1 h2; rcases lt4 h1 h2 rfl with rfl | rfl | rfl | rfl; exact ky1; exact ky2; exact ky3; exact ky4, fun _ => Or.inl rfl⟩,
    ⟨dI (by kernel_rfl), dI (by kernel_rfl), dI (by kernel_rfl), dI (by kernel_rfl), by intro a h1 h2; rcases lt1 h1 h2 rfl with rfl; rfl, fun _ => atomB_ne kh1⟩,
    ⟨dI (by kernel_rfl), dI (by kernel_rfl), dI (by kernel_rfl), dI (by kernel_rfl), by intro a h1 h2; rcases lt2 h1 h2 rfl with rfl | rfl; exact kh1; exact kh2, fun _ => Or.inr (Or.inr rfl)⟩,
    ⟨dI (by kernel_rfl), dI (by kernel_rfl), dI (by kernel_rfl), dI (by kernel_rfl), fun a h1 h2 => absurd h2 (Int.not_lt.mpr h1), fun _ => ⟨ne58.1, ne58.2.1, ne58.2.2.1, ne58.2.2.2⟩⟩,
    ⟨dI (by kernel_rfl), dI (by kernel_rfl), dI (by kernel_rfl), dI (by kernel_rfl), rfl, by decide⟩,
    ⟨dI (by kernel_rfl), dI (by kernel_rfl), dI (by kernel_rfl), dI (by kernel_rfl), fun a h1 h2 => absurd h2 (Int.not_lt.mpr h1), fun _ => atomB_ne ki1⟩,
    ⟨dI (by kernel_rfl), dI (by kernel_rfl), dI (by kernel_rfl), dI (by kernel_rfl), by intro a h1 h2; rcases lt2 h1 h2 rfl with rfl | rfl; exact ki1; exact ki2, fun _ => Or.inr (Or.inr rfl)⟩,
    ⟨dI (by kernel_rfl), dI (by kernel_rfl), dI (by kernel_rfl), dI (by kernel_rfl), fun a h1 h2 => absurd h2 (Int.not_lt.mpr h1), fun _ => ⟨ne58.1, ne58.2.1, ne58.2.2.1, ne58.2.2.2⟩⟩,
    ⟨dI (by kernel_rfl), dI (by kernel_rfl), dI (by kernel_rfl), dI (by kernel_rfl), rfl, by decide⟩,
    ⟨dI (by kernel_rfl), dI (by kernel_rfl), dI (by kernel_rfl), dI (by kernel_rfl), fun a h1 h2 => absurd h2 (Int.not_lt.mpr h1), fun _ => atomB_ne ks1⟩,
    ⟨dI (by kernel_rfl), dI (by kernel_rfl), dI (by kernel_rfl), dI (by kernel_rfl), by intro a h1 h2; rcases lt2 h1 h2 rfl with rfl | rfl; exact ks1; exact ks2, fun _ => Or.inl rfl⟩,
    ⟨dI (by kernel_rfl), dI (by kernel_rfl), dI (by kernel_rfl), dI (by kernel_rfl), by intro a h1 h2; rcases lt1 h1 h2 rfl with rfl; rfl, fun _ => atomB_ne kz0⟩,
    ⟨dI (by kernel_rfl), dI (by kernel_rfl), dI (by kernel_rfl), dI (by kernel_rfl), by intro a h1 h2; rcases lt5 h1 h2 rfl with rfl | rfl | rfl | rfl | rfl; exact kz0; exact kz1; exact kz2; exact kz3; exact kz4, fun h => absurd h (Int.lt_irrefl (30 : Int))⟩,
    ⟨dI (by kernel_rfl), dI (by kernel_rfl), dI (by kernel_rfl), dI (by kernel_rfl), fun a h1 h2 => absurd h2 (Int.not_lt.mpr h1), fun h => absurd h (Int.lt_irrefl (30 : Int))⟩⟩
theorem dl2 (w1 w2 w3 a b m1 m2 m3 y1 y2 y3 y4 h1 h2 i1 i2 s1 s2 z0 z1 z2 z3 z4 : Nat) (kw1 : atomB ((w1 : Nat) : Int) = true) (kw2 : atomB ((w2 : Nat) : Int) = true) (kw3 : atomB ((w3 : Nat) : Int) = true) (ka : atomB ((a : Nat) : Int) = true) (kb : atomB ((b : Nat) : Int) = true) (km1 : atomB ((m1 : Nat) : Int) = true) (km2 : atomB ((m2 : Nat) : Int) = true) (km3 : atomB ((m3 : Nat) : Int) = true) (ky1 : atomB ((y1 : Nat) : Int) = true) (ky2 : atomB ((y2 : Nat) : Int) = true) (ky3 : atomB ((y3 : Nat) : Int) = true) (ky4 : atomB ((y4 : Nat) : Int) = true) (kh1 : atomB ((h1 : Nat) : Int) = true) (kh2 : atomB ((h2 : Nat) : Int) = true) (ki1 : atomB ((i1 : Nat) : Int) = true) (ki2 : atomB ((i2 : Nat) : Int) = true) (ks1 : atomB ((s1 : Nat) : Int) = true) (ks2 : atomB ((s2 : Nat) : Int) = true) (kz0 : atomB ((z0 : Nat) : Int) = true) (kz1 : atomB ((z1 : Nat) : Int) = true) (kz2 : atomB ((z2 : Nat) : Int) = true) (kz3 : atomB ((z3 : Nat) : Int) = true) (kz4 : atomB ((z4 : Nat) : Int) = true) : DateL ([w1, w2, w3, 44, 32, a, b, 32, m1, m2, m3, 32, y1, y2, y3, y4, 32, h1, h2, 58, i1, i2, 58, s1, s2, 32, z0, z1, z2, z3, z4].map fun n : Nat => (n : Int)) 2 := by
  have hl : ((([w1, w2, w3, 44, 32, a, b, 32, m1, m2, m3, 32, y1, y2, y3, y4, 32, h1, h2, 58, i1, i2, 58, s1, s2, 32, z0, z1, z2, z3, z4].map fun n : Nat => (n : Int)).length : Nat) : Int) = 31 := rfl
  exact ⟨hl.trans rfl, by decide,
    ⟨dI (by kernel_rfl), dI (by kernel_rfl), dI (by kernel_rfl), dI (by kernel_rfl), fun a h1 h2 => absurd h2 (Int.not_lt.mpr h1), fun _ => atomB_ne kw1⟩,
    ⟨dI (by kernel_rfl), dI (by kernel_rfl), dI (by kernel_rfl), dI (by kernel_rfl), by intro a h1 h2; rcases lt3 h1 h2 rfl with rfl | rfl | rfl; exact kw1; exact kw2; exact kw3, fun _ => Or.inr (Or.inl rfl)⟩,
    ⟨dI (by kernel_rfl), dI (by kernel_rfl), dI (by kernel_rfl), dI (by kernel_rfl), fun a h1 h2 => absurd h2 (Int.not_lt.mpr h1), fun _ => ⟨ne44.1, ne44.2.1, ne44.2.2.1, ne44.2.2.2⟩⟩,
    ⟨dI (by kernel_rfl), dI (by kernel_rfl), dI (by kernel_rfl), dI (by kernel_rfl), rfl, by decide⟩,
    ⟨dI (by kernel_rfl), dI (by kernel_rfl), dI (by kernel_rfl), dI (by kernel_rfl), by intro a h1 h2; rcases lt1 h1 h2 rfl with rfl; rfl, fun _ => atomB_ne ka⟩,
    ⟨dI (by kernel_rfl), dI (by kernel_rfl), dI (by kernel_rfl), dI (by kernel_rfl), by intro a h1 h2; rcases lt2 h1 h2 rfl with rfl | rfl; exact ka; exact kb, fun _ => Or.inl rfl⟩,
    ⟨dI (by kernel_rfl), dI (by kernel_rfl), dI (by kernel_rfl), dI (by kernel_rfl), by intro a h1 h2; rcases lt1 h1 h2 rfl with rfl; rfl, fun _ => atomB_ne km1⟩,
    ⟨dI (by kernel_rfl), dI (by kernel_rfl), dI (by kernel_rfl), dI (by kernel_rfl), by intro a h1 h2; rcases lt3 h1 h2 rfl with rfl | rfl | rfl; exact km1; exact km2; exact km3, fun _ => Or.inl rfl⟩,
    ⟨dI (by kernel_rfl), dI (by kernel_rfl), dI (by kernel_rfl), dI (by kernel_rfl), by intro a h1 h2; rcases lt1 h1 h2 rfl with rfl; rfl, fun _ => atomB_ne ky1⟩,
    ⟨dI (by kernel_rfl), dI (by kernel_rfl), dI (by kernel_rfl), dI (by kernel_rfl), by intro a h1 h2; rcases lt4 h1 h2 rfl with rfl | rfl | rfl | rfl; exact ky1; exact ky2; exact ky3; exact ky4, fun _ => Or.inl rfl⟩,
    ⟨dI (by kernel_rfl), dI (by kernel_rfl), dI (by kernel_rfl), dI (by kernel_rfl), by intro a h1 h2; rcases lt1 h1 h2 rfl with rfl; rfl, fun _ => atomB_ne kh1⟩,
    ⟨dI (by kernel_rfl), dI (by kernel_rfl), dI (by kernel_rfl), dI (by kernel_rfl), by intro a h1 h2; rcases lt2 h1 h2 rfl with rfl | rfl; exact kh1; exact kh2, fun _ => Or.inr (Or.inr rfl)⟩,
    ⟨dI (by kernel_rfl), dI (by kernel_rfl), dI (by kernel_rfl), dI (by kernel_rfl), fun a h1 h2 => absurd h2 (Int.not_lt.mpr h1), fun _ => ⟨ne58.1, ne58.2.1, ne58.2.2.1, ne58.2.2.2⟩⟩,
    ⟨dI (by kernel_rfl), dI (by kernel_rfl), dI (by kernel_rfl), dI (by kernel_rfl), rfl, by decide⟩,
    ⟨dI (by kernel_rfl), dI (by kernel_rfl), dI (by kernel_rfl), dI (by kernel_rfl), fun a h1 h2 => absurd h2 (Int.not_lt.mpr h1), fun _ => atomB_ne ki1⟩,
    ⟨dI (by kernel_rfl), dI (by kernel_rfl), dI (by kernel_rfl), dI (by kernel_rfl), by intro a h1 h2; rcases lt2 h1 h2 rfl with rfl | rfl; exact ki1; exact ki2, fun _ => Or.inr (Or.inr rfl)⟩,
    ⟨dI (by kernel_rfl), dI (by kernel_rfl), dI (by kernel_rfl), dI (by kernel_rfl), fun a h1 h2 => absurd h2 (Int.not_lt.mpr h1), fun _ => ⟨ne58.1, ne58.2.1, ne58.2.2.1, ne58.2.2.2⟩⟩,
    ⟨dI (by kernel_rfl), dI (by kernel_rfl), dI (by kernel_rfl), dI (by kernel_rfl), rfl, by decide⟩,
    ⟨dI (by kernel_rfl), dI (by kernel_rfl), dI (by kernel_rfl), dI (by kernel_rfl), fun a h1 h2 => absurd h2 (Int.not_lt.mpr h1), fun _ => atomB_ne ks1⟩,
    ⟨dI (by kernel_rfl), dI (by kernel_rfl), dI (by kernel_rfl), dI (by kernel_rfl), by intro a h1 h2; rcases lt2 h1 h2 rfl with rfl | rfl; exact ks1; exact ks2, fun _ => Or.inl rfl⟩,
    ⟨dI (by kernel_rfl), dI (by kernel_rfl), dI (by kernel_rfl), dI (by kernel_rfl), by intro a h1 h2; rcases lt1 h1 h2 rfl with rfl; rfl, fun _ => atomB_ne kz0⟩,
    ⟨dI (by kernel_rfl), dI (by kernel_rfl), dI (by kernel_rfl), dI (by kernel_rfl), by intro a h1 h2; rcases lt5 h1 h2 rfl with rfl | rfl | rfl | rfl | rfl; exact kz0; exact kz1; exact kz2; exact kz3; exact kz4, fun h => absurd h (Int.lt_irrefl (31 : Int))⟩,
    ⟨dI (by kernel_rfl), dI (by kernel_rfl), dI (by kernel_rfl), dI (by kernel_rfl), fun a h1 h2 => absurd h2 (Int.not_lt.mpr h1), fun h => absurd h (Int.lt_irrefl (31 : Int))⟩⟩
theorem P_list {x : Array UInt8} {l : List Nat} (hx : x.toList.map (·.toNat) = l) (i j : Int) (h0 : 0 ≤ i) (h1 : i ≤ j) (h2 : j ≤ l.length) : (P x i j).cps.toList = (l.drop i.toNat).take (j.toNat - i.toNat) := by
  subst hx
  show ((KBy.picked x (some i) (some j)).toList.map (·.toNat)) = _
  rw [pk x _ rfl i j h0 h1 (by rw [KBw.ints_length]; simpa using h2)]
  simp [List.map_take, List.map_drop]
theorem numB_of {b : Array UInt8} {l : List Nat} {L n : Int} (hs : b.size ≤ 100 ∧ ∀ c ∈ b.toList, c.toNat < 128) (e : (asc b).cps.toList = l) (hl : (l.length : Int) = L) (hd : ∀ c ∈ l, 48 ≤ c ∧ c ≤ 57) (hi : PySem.intText? (asc b) = some n) : NumB b L n :=
  ⟨hs.1, hs.2, by rw [len_of e]; exact hl, by rw [e]; exact hd, hi⟩
theorem num2 {b : Array UInt8} {n : Int} (hs : b.size ≤ 100 ∧ ∀ c ∈ b.toList, c.toNat < 128) (e : (asc b).cps.toList = d2 n.toNat) (h0 : 0 ≤ n) (h1 : n < 100) : NumB b 2 n := by
  refine numB_of hs e rfl (fun c hc => dig_d2 (by omega) hc) ?_
  have := int_d2 e (by omega)
  rwa [Int.toNat_of_nonneg h0] at this
theorem num4 {b : Array UInt8} {n : Int} (hs : b.size ≤ 100 ∧ ∀ c ∈ b.toList, c.toNat < 128) (e : (asc b).cps.toList = d4 n.toNat) (h0 : 0 ≤ n) (h1 : n < 10000) : NumB b 4 n := by
  refine numB_of hs e rfl (fun c hc => dig_d4 (by omega) hc) ?_
  have := int_d4 e (by omega)
  rwa [Int.toNat_of_nonneg h0] at this
theorem numD {b : Array UInt8} {n L : Int} (hs : b.size ≤ 100 ∧ ∀ c ∈ b.toList, c.toNat < 128) (e : (asc b).cps.toList = dDay n.toNat) (hl : ((dDay n.toNat).length : Int) = L) (h0 : 0 ≤ n) (h1 : n < 100) : NumB b L n := by
  refine numB_of hs e hl (fun c hc => dig_dDay (by omega) hc) ?_
  have := int_dDay e (by omega)
  rwa [Int.toNat_of_nonneg h0] at this
theorem dayL_atom : ∀ i : Fin 7, ∀ c ∈ dayL i.val, atomB ((c : Nat) : Int) = true := by decide +kernel
theorem monL_atom : ∀ i : Fin 12, ∀ c ∈ monL i.val, atomB ((c : Nat) : Int) = true := by decide +kernel
theorem three {l : List Nat} (h : l.length = 3) : ∃ a b c, l = [a, b, c] := by
  match l, h with
  | [a, b, c], _ => exact ⟨a, b, c, rfl⟩
theorem dig_atom {c : Nat} (h : 48 ≤ c ∧ c ≤ 57) : atomB ((c : Nat) : Int) = true := by
  have h1 : (48 : Int) ≤ ((c : Nat) : Int) ∧ ((c : Nat) : Int) ≤ 57 := by omega
  unfold atomB
  rw [decide_eq_true h1]
  rfl
theorem day_mem (i : Nat) (h : i < 7) : DAY.getD i Str.empty ∈ DAY := by
  have : ∀ i : Fin 7, DAY.getD i.val Str.empty ∈ DAY := by decide +kernel
  exact this ⟨i, h⟩
theorem str_eq {x y : Str} (h : x.cps.toList = y.cps.toList) : x = y := Str.ext' (Array.toList_inj.mp h)
theorem asc_of {x : Array UInt8} {l : List Nat} (hx : x.toList.map (·.toNat) = l) (h : ∀ c ∈ l, c < 128) : ∀ c ∈ x.toList, c.toNat < 128 := fun c hc => h _ (hx ▸ List.mem_map_of_mem hc)
theorem ints_of {x : Array UInt8} {l : List Nat} (hx : x.toList.map (·.toNat) = l) : KBw.bInts x = l.map fun n : Nat => (n : Int) := by
  subst hx
  rw [List.map_map]
  rfl
theorem date_facts {x : Array UInt8} {y mo d h mi s z : Int} (hv : Valid y mo d h mi s z) (hx : x.toList.map (·.toNat) = dDateH y mo d h mi s z) : ∃ D, DateL (KBw.bInts x) D ∧ DateF x D y mo d h mi s z := by
  have has := asc_of hx (dDateH_lt hv)
  have hml := mLen_pos y mo
  obtain ⟨hy1, hy2, hm1, hm2, hd1, hd2, hh1, hh2, hi1, hi2, hs1, hs2, hz1, hz2⟩ := hv
  have hwi : wdi y mo d < 7 := by unfold wdi; omega
  obtain ⟨w1, w2, w3, hw⟩ : ∃ w1 w2 w3, dayL (wdi y mo d) = [w1, w2, w3] := three (dayL_len ⟨wdi y mo d, hwi⟩)
  obtain ⟨m1, m2, m3, hm⟩ : ∃ m1 m2 m3, monL (mo - 1).toNat = [m1, m2, m3] := three (monL_len ⟨(mo - 1).toNat, by omega⟩)
  have kw : ∀ c ∈ dayL (wdi y mo d), atomB ((c : Nat) : Int) = true := dayL_atom ⟨wdi y mo d, hwi⟩
  have km : ∀ c ∈ monL (mo - 1).toNat, atomB ((c : Nat) : Int) = true := monL_atom ⟨(mo - 1).toNat, by omega⟩
  rw [hw] at kw
  rw [hm] at km
  have kd : ∀ n : Nat, n < 100 → ∀ c ∈ d2 n, atomB ((c : Nat) : Int) = true := fun n hn c hc => dig_atom (dig_d2 hn hc)
  have ky : ∀ c ∈ d4 y.toNat, atomB ((c : Nat) : Int) = true := fun c hc => dig_atom (dig_d4 (by omega) hc)
  have kz : atomB (((if z < 0 then 45 else 43 : Nat) : Nat) : Int) = true := by split <;> decide
  have kz1 := kd (z.natAbs / 60) (by omega)
  have kz2 := kd (z.natAbs % 60) (by omega)
  have kh := kd h.toNat (by omega)
  have ki := kd mi.toNat (by omega)
  have ks := kd s.toNat (by omega)
  simp only [d2, d4, List.forall_mem_cons] at kw km ky kz1 kz2 kh ki ks
  by_cases hq : d < 10
  · have hdd : dDay d.toNat = [48 + d.toNat] := by unfold dDay; rw [if_pos (by omega)]
    have hll : dDateH y mo d h mi s z = [w1, w2, w3, 44, 32, 48 + d.toNat, 32, m1, m2, m3, 32, 48 + y.toNat / 1000, 48 + y.toNat / 100 % 10, 48 + y.toNat / 10 % 10, 48 + y.toNat % 10, 32, 48 + h.toNat / 10, 48 + h.toNat % 10, 58, 48 + mi.toNat / 10, 48 + mi.toNat % 10, 58, 48 + s.toNat / 10, 48 + s.toNat % 10, 32, if z < 0 then 45 else 43, 48 + z.natAbs / 60 / 10, 48 + z.natAbs / 60 % 10, 48 + z.natAbs % 60 / 10, 48 + z.natAbs % 60 % 10] := by
      unfold dDateH dClock dZone; rw [hw, hm, hdd]; rfl
    have hxl := hx.trans hll
    have hle : ([w1, w2, w3, 44, 32, 48 + d.toNat, 32, m1, m2, m3, 32, 48 + y.toNat / 1000, 48 + y.toNat / 100 % 10, 48 + y.toNat / 10 % 10, 48 + y.toNat % 10, 32, 48 + h.toNat / 10, 48 + h.toNat % 10, 58, 48 + mi.toNat / 10, 48 + mi.toNat % 10, 58, 48 + s.toNat / 10, 48 + s.toNat % 10, 32, if z < 0 then 45 else 43, 48 + z.natAbs / 60 / 10, 48 + z.natAbs / 60 % 10, 48 + z.natAbs % 60 / 10, 48 + z.natAbs % 60 % 10] : List Nat).length = 30 := rfl
    have ka : atomB ((48 + d.toNat : Nat) : Int) = true := dig_atom (by omega)
    have hd : DateL (KBw.bInts x) 1 := by
      rw [ints_of hxl]
      exact dl1 (w1) (w2) (w3) (48 + d.toNat) (m1) (m2) (m3) (48 + y.toNat / 1000) (48 + y.toNat / 100 % 10) (48 + y.toNat / 10 % 10) (48 + y.toNat % 10) (48 + h.toNat / 10) (48 + h.toNat % 10) (48 + mi.toNat / 10) (48 + mi.toNat % 10) (48 + s.toNat / 10) (48 + s.toNat % 10) (if z < 0 then 45 else 43) (48 + z.natAbs / 60 / 10) (48 + z.natAbs / 60 % 10) (48 + z.natAbs % 60 / 10) (48 + z.natAbs % 60 % 10) kw.1 kw.2.1 kw.2.2.1 ka km.1 km.2.1 km.2.2.1 ky.1 ky.2.1 ky.2.2.1 ky.2.2.2.1 kh.1 kh.2.1 ki.1 ki.2.1 ks.1 ks.2.1 kz kz1.1 kz1.2.1 kz2.1 kz2.2.1
    have pm : ∀ i j, AT (KBw.bInts x) i j → (KBy.picked x (some i) (some j)).size ≤ 100 ∧ ∀ c ∈ (KBy.picked x (some i) (some j)).toList, c.toNat < 128 := fun i j hat => pk_mem has rfl hat
    have P1 : P x 0 3 = DAY.getD (wdi y mo d) Str.empty := str_eq ((P_list hxl 0 3 (by omega) (by omega) (by rw [hle]; omega)).trans hw.symm)
    have P4 : P x (6 + 1) (9 + 1) = MON.getD (mo - 1).toNat Str.empty := str_eq ((P_list hxl (6 + 1) (9 + 1) (by omega) (by omega) (by rw [hle]; omega)).trans hm.symm)
    refine ⟨1, hd, has, P1 ▸ day_mem _ hwi, numD (pm _ _ hd.a3) ((P_list hxl (5) (5 + 1) (by omega) (by omega) (by rw [hle]; omega)).trans hdd.symm) (by rw [hdd]; rfl) (by omega) (by omega), P4 ▸ mon_mem _ (by omega), ?_, num4 (pm _ _ hd.a5) (P_list hxl (10 + 1) (14 + 1) (by omega) (by omega) (by rw [hle]; omega)) (by omega) (by omega), num2 (pm _ _ hd.a6) (P_list hxl (15 + 1) (17 + 1) (by omega) (by omega) (by rw [hle]; omega)) (by omega) (by omega), num2 (pm _ _ hd.a8) (P_list hxl (18 + 1) (20 + 1) (by omega) (by omega) (by rw [hle]; omega)) (by omega) (by omega), num2 (pm _ _ hd.a10) (P_list hxl (21 + 1) (23 + 1) (by omega) (by omega) (by rw [hle]; omega)) (by omega) (by omega), (P_list hxl (24 + 1) (29 + 1) (by omega) (by omega) (by rw [hle]; omega))⟩
    rw [P4]
    have := idx_mon ⟨(mo - 1).toNat, by omega⟩
    rw [this]; simp; omega
  · have hdd : dDay d.toNat = d2 d.toNat := by unfold dDay; rw [if_neg (by omega)]
    have hll : dDateH y mo d h mi s z = [w1, w2, w3, 44, 32, 48 + d.toNat / 10, 48 + d.toNat % 10, 32, m1, m2, m3, 32, 48 + y.toNat / 1000, 48 + y.toNat / 100 % 10, 48 + y.toNat / 10 % 10, 48 + y.toNat % 10, 32, 48 + h.toNat / 10, 48 + h.toNat % 10, 58, 48 + mi.toNat / 10, 48 + mi.toNat % 10, 58, 48 + s.toNat / 10, 48 + s.toNat % 10, 32, if z < 0 then 45 else 43, 48 + z.natAbs / 60 / 10, 48 + z.natAbs / 60 % 10, 48 + z.natAbs % 60 / 10, 48 + z.natAbs % 60 % 10] := by
      unfold dDateH dClock dZone; rw [hw, hm, hdd]; rfl
    have hxl := hx.trans hll
    have hle : ([w1, w2, w3, 44, 32, 48 + d.toNat / 10, 48 + d.toNat % 10, 32, m1, m2, m3, 32, 48 + y.toNat / 1000, 48 + y.toNat / 100 % 10, 48 + y.toNat / 10 % 10, 48 + y.toNat % 10, 32, 48 + h.toNat / 10, 48 + h.toNat % 10, 58, 48 + mi.toNat / 10, 48 + mi.toNat % 10, 58, 48 + s.toNat / 10, 48 + s.toNat % 10, 32, if z < 0 then 45 else 43, 48 + z.natAbs / 60 / 10, 48 + z.natAbs / 60 % 10, 48 + z.natAbs % 60 / 10, 48 + z.natAbs % 60 % 10] : List Nat).length = 31 := rfl
    have ka := kd d.toNat (by omega)
    simp only [d2, List.forall_mem_cons] at ka
    have hd : DateL (KBw.bInts x) 2 := by
      rw [ints_of hxl]
      exact dl2 (w1) (w2) (w3) (48 + d.toNat / 10) (48 + d.toNat % 10) (m1) (m2) (m3) (48 + y.toNat / 1000) (48 + y.toNat / 100 % 10) (48 + y.toNat / 10 % 10) (48 + y.toNat % 10) (48 + h.toNat / 10) (48 + h.toNat % 10) (48 + mi.toNat / 10) (48 + mi.toNat % 10) (48 + s.toNat / 10) (48 + s.toNat % 10) (if z < 0 then 45 else 43) (48 + z.natAbs / 60 / 10) (48 + z.natAbs / 60 % 10) (48 + z.natAbs % 60 / 10) (48 + z.natAbs % 60 % 10) kw.1 kw.2.1 kw.2.2.1 ka.1 ka.2.1 km.1 km.2.1 km.2.2.1 ky.1 ky.2.1 ky.2.2.1 ky.2.2.2.1 kh.1 kh.2.1 ki.1 ki.2.1 ks.1 ks.2.1 kz kz1.1 kz1.2.1 kz2.1 kz2.2.1
    have pm : ∀ i j, AT (KBw.bInts x) i j → (KBy.picked x (some i) (some j)).size ≤ 100 ∧ ∀ c ∈ (KBy.picked x (some i) (some j)).toList, c.toNat < 128 := fun i j hat => pk_mem has rfl hat
    have P1 : P x 0 3 = DAY.getD (wdi y mo d) Str.empty := str_eq ((P_list hxl 0 3 (by omega) (by omega) (by rw [hle]; omega)).trans hw.symm)
    have P4 : P x (6 + 2) (9 + 2) = MON.getD (mo - 1).toNat Str.empty := str_eq ((P_list hxl (6 + 2) (9 + 2) (by omega) (by omega) (by rw [hle]; omega)).trans hm.symm)
    refine ⟨2, hd, has, P1 ▸ day_mem _ hwi, numD (pm _ _ hd.a3) ((P_list hxl (5) (5 + 2) (by omega) (by omega) (by rw [hle]; omega)).trans hdd.symm) (by rw [hdd]; rfl) (by omega) (by omega), P4 ▸ mon_mem _ (by omega), ?_, num4 (pm _ _ hd.a5) (P_list hxl (10 + 2) (14 + 2) (by omega) (by omega) (by rw [hle]; omega)) (by omega) (by omega), num2 (pm _ _ hd.a6) (P_list hxl (15 + 2) (17 + 2) (by omega) (by omega) (by rw [hle]; omega)) (by omega) (by omega), num2 (pm _ _ hd.a8) (P_list hxl (18 + 2) (20 + 2) (by omega) (by omega) (by rw [hle]; omega)) (by omega) (by omega), num2 (pm _ _ hd.a10) (P_list hxl (21 + 2) (23 + 2) (by omega) (by omega) (by rw [hle]; omega)) (by omega) (by omega), (P_list hxl (24 + 2) (29 + 2) (by omega) (by omega) (by rw [hle]; omega))⟩
    rw [P4]
    have := idx_mon ⟨(mo - 1).toNat, by omega⟩
    rw [this]; simp; omega
theorem read_date2_c (w : World) (x : Array UInt8) (t : Tok) (y mo d h mi s z : Int) (hv : Valid y mo d h mi s z) (hx : x.toList.map (·.toNat) = dDateH y mo d h mi s z) : Spc w 20 (.ref 371) [.bytes x t] (fun _ => True)
    (fun news v news' => MomNew w y mo d h mi s z news v news') := by
  obtain ⟨D, hd, hf⟩ := date_facts hv hx
  exact read_date_c w x _ t D y mo d h mi s z rfl hd hf hv
theorem rows_61_75 : True := by
  k_with "eval Call Name" => (k_here; (with_reducible show wpAny _ _ (eval (Expr.Call (Expr.Name "read_date" _) _ _ _) _) _ _ _); refine Call_ ?_)
  k_with "call ref" => (k_here; (with_reducible show wpAny _ _ (call (Value.ref 371) _) _ _ _); k_dflt (refine' mom_use (read_date2_c _ _ _ _ _ _ _ _ _ _ ?h1 ?h2) ?k1 ?k2 ?k3 ?k4 ?k5 ?kK ?kd ?ku ?ki ?_; (case k1 => k_asm); (case k2 => k_asm); (case k3 => k_asm); (case k4 => k_asm); (case k5 => k_asm); (case kK => first | exact rfl | assumption); (case kd => ktr_room); (case ku => ktr_units); (case ki => exact trivial)); (case h2 => (first | assumption | omega | ((try dsimp only); omega) | ((try dsimp only); (simp (disch := decide) only [Int.fdiv_eq_ediv_of_nonneg, Int.fmod_eq_emod_of_nonneg]); omega) | trivial | (refine ⟨?_, ?_, ?_, ?_, ?_, ?_, ?_, ?_, ?_, ?_, ?_, ?_, ?_, ?_⟩ <;> first | assumption | omega) | decide | (exact decide_eq_true (by omega)) | k_extra "pre")); (case h1 => (first | assumption | omega | ((try dsimp only); omega) | ((try dsimp only); (simp (disch := decide) only [Int.fdiv_eq_ediv_of_nonneg, Int.fmod_eq_emod_of_nonneg]); omega) | trivial | (refine ⟨?_, ?_, ?_, ?_, ?_, ?_, ?_, ?_, ?_, ?_, ?_, ?_, ?_, ?_⟩ <;> first | assumption | omega) | decide | (exact decide_eq_true (by omega)) | k_extra "pre")); intro x9 dx9 k91 k92 k93 k94 k95 k96 k97 t91 t92 t93 t94 t95 t96 t97 h9 tk9 F9 N9 hl9 hx9; (try dsimp only at N9); (replace hx9 := ltN hx9); (try simp only [AllLt, and_true] at hl9); (try dsimp only); (try k_sweep); (try k_fold))
  trivial

theorem mtold_c (w : World) (x : Addr) (y mo d h mi s z : Int) : Spc w 2 (.ref 158) [.ref x] (MomIn w x y mo d h mi s z)
    (fun news v news' => ∃ r t1 t2 t3 t4 t5 t6 t7, v = .ref r ∧ news' = (r, { cls := .type "tuple", data := .seq #[.int y t1, .int mo t2, .int d t3, .int h t4, .int mi t5, .int s t6, .int z t7] }) :: news) := by
  (try unfold Pur)
  unfold Spc
  k_fill
  intro mean mg mb dp un gd cn cs aF ccd cl outer A₀ base h₀ LF mF news sF QF EF B F X N T hk hdp hun hin hret
  refine wpAny_call ?_
  k_dflt cell_enter
  (with_reducible rename Fr _ _ _ (fun nzy => List.lookup nzy _) => F0)
  replace F0 := fr_eq (m' := fun nzy => List.lookup nzy ([(Str.ofString "self", Value.ref x)] : List (Str × Value))) F0 (by kernel_rfl)
  obtain ⟨dx, k1, k2, k3, k4, k5, k6, k7, t1, t2, t3, t4, t5, t6, t7, hm1, hm2⟩ := hin
  k_steps
  refine' hret _ _ _ _ ?e2 ?e3 ⟨_, _, _, _, _, _, _, _, rfl, rfl⟩
  case e2 => k_asm
  case e3 => k_asm
theorem rows_72_76 : True := by
  k_with "call ref" => (k_here; (with_reducible show wpAny _ _ (call (Value.ref 158) _) _ _ _); k_dflt (refine' spc_use (mtold_c _ _ _ _ _ _ _ _ _) ?k1 ?k2 ?k3 ?k4 ?k5 ?kK ?kd ?ku ?ki ?_; (case k1 => k_asm); (case k2 => k_asm); (case k3 => k_asm); (case k4 => k_asm); (case k5 => k_asm); (case kK => first | exact rfl | assumption); (case kd => ktr_room); (case ku => ktr_units); (case ki => (refine' MomIn.mk ?m1 ?m2; (case m1 => k_mem); (case m2 => k_mem)))); intro v9 n9 h9 tk9 F9 N9 R9; (try dsimp only at R9); (obtain ⟨r9, t91, t92, t93, t94, t95, t96, t97, e9, en9⟩ := R9); (subst e9; subst en9); (try dsimp only); (try k_sweep); (try k_fold))
  trivial

theorem rows_80_77 : True := by
  k_with_none
  k_with "NZ LOOK" => ((repeat (first | exact if_hit | refine if_miss (by kernel_rfl) ?_ | exact lk_hit | refine lk_miss (by kernel_rfl) ?_ | assumption)); done)
  k_with "ite" => (k_closed; first | (with_reducible refine ite_neg Bool.false_ne_true ?_) | (with_reducible refine ite_pos rfl ?_) | (with_reducible refine ite_neg (by decide +kernel) ?_) | (with_reducible refine ite_pos (by decide +kernel) ?_))
  k_with "subscriptTail" => ((with_reducible show wpAny _ _ (subscriptTail (Expr.Attribute _ _ _) _ _ _) _ _ _); walk_at "last subscriptTail")
  k_with "NZ SUB" => (intro p9 hp9; (repeat (first | exact hp9 | exact List.mem_append_left _ hp9 | (refine (‹∀ p : Addr × Obj, p ∈ _ → p ∈ _› p9 ?_); exact hp9) | refine List.Mem.tail _ ?_)))
  k_with "eval Name" => (k_here; (with_reducible rename Fr _ _ _ _ => kF); with_reducible (refine' nameX_K kF ?nzX ?nzT ?nze ?_ ?nzk ?nza ?nzb; (case nzX => assumption); (case nzT => k_asm); (case nze => k_is); (case nzk => first | exact rfl | assumption); (case nza => kernel_rfl); (case nzb => kernel_rfl); k_whole))
  k_with "eval Name" => (k_here; (with_reducible rename Fr _ _ _ _ => kF); with_reducible (refine' nameX_L kF ?nzv ?_ ?nzk ?nza ?nzb; (case nza => kernel_rfl!); (case nzv => walk_at "NZ LOOK"); (case nzk => first | exact rfl | assumption); (case nzb => kernel_rfl); k_whole))
  k_with "callWith ref" => (k_here; with_reducible (refine' cw_some ?nzx ?nzk ?_ ?nzhe ?nzhp; (case nzx => assumption); (case nzk => k_is); (case nzhe => kernel_rfl); (case nzhp => kernel_rfl); k_whole))
  k_with "callWith ref" => (k_here; with_reducible (refine' cw_none ?nzx ?nzF ?nzk ?_; (case nzx => assumption); (case nzF => assumption); (case nzk => k_is); k_whole))
  k_with "exec Assign cons ListComp" => ((with_reducible show wpAny _ _ (exec (Stmt.Assign _ (Expr.ListComp (Expr.Call (Expr.Name "int" _) [Expr.Name "cell" _] _ _) _ _ _) _) _) _ _ _); walk_at "NZ ACOMP")
  k_with "call ref" => (k_here; (with_reducible show wpAny _ _ (call (Value.ref 407) _) _ _ _); k_dflt (refine' spcl_use (law_box_c _ _ _ _ ?h1 ?h2) ?k1 ?k2 ?k3 ?k4 ?k5 ?kK ?kd ?ku ?ki ?kL ?_; (case k1 => k_asm); (case k2 => k_asm); (case k3 => k_asm); (case k4 => k_asm); (case k5 => k_asm); (case kK => first | exact rfl | assumption); (case kd => ktr_room); (case ku => ktr_units); (case ki => exact trivial)); (case kL => with_reducible assumption); (case h1 => with_reducible assumption); (case h2 => omega); intro v9 n9 h9 tk9 F9 N9 R9; (try dsimp only at R9); (obtain ⟨p9, c9, ys9, ks9, cap9, cap29, g9, st9, t91, t92, t93, e9, en9, hy9, hk9, hg90, hg91, hs90, hs91, hcp9, hl9, ho9⟩ := R9); (subst e9; subst en9); (try simp only [AllLt, and_true] at hl9); (try simp only [LCg.Off1, and_true] at ho9); (try dsimp only); (try k_sweep); (try k_fold))
  k_with "call ref" => (k_here; (with_reducible show wpAny _ _ (call (Value.ref 414) _) _ _ _); (try walk_at "NZ SPLIT"); k_dflt (refine' draw_use ?k1 ?k2 ?k3 ?k4 ?k5 ?kK ?kd ?ku ?h1 ?h2 ?h3 ?h4 ?h5 ?h6 ?h7 ?h8 ?h9 ?h10 ?h11 ?h12 ?h13 ?_; (case k1 => k_asm); (case k2 => k_asm); (case k3 => k_asm); (case k4 => k_asm); (case k5 => k_asm); (case kK => first | exact rfl | assumption); (case kd => ktr_room); (case ku => ktr_units)); (case h1 => intro o9; k_upd); (case h2 => k_dflt k_mem); (case h3 => k_ne); (case h4 => with_reducible assumption); (case h5 => with_reducible assumption); (case h6 => with_reducible first | assumption | decide); (case h7 => with_reducible assumption); (case h8 => with_reducible assumption); (case h9 => with_reducible assumption); (case h10 => omega); (case h11 => omega); (case h12 => decide); (case h13 => decide); intro k9 t9 g9 st9 cap9 t91 t92 t93 h9 tk9 F9 N9 hk90 hk91 hg90 hg91 hs90 hs91; (try dsimp only at N9); (try dsimp only); (try k_sweep); (try k_fold))
  k_with "eval Call Name" => (k_here; (with_reducible show wpAny _ _ (eval (Expr.Call (Expr.Name "Moment" _) _ _ _) _) _ _ _); refine Call_ ?_)
  k_with "call ref" => (k_here; (with_reducible show wpAny _ _ (call (Value.ref 161) _) _ _ _); k_dflt (refine' mom_use (Moment_c _ _ _ _ _ _ _ _ _ _ _ _ _ _ _) ?k1 ?k2 ?k3 ?k4 ?k5 ?kK ?kd ?ku ?ki ?_; (case k1 => k_asm); (case k2 => k_asm); (case k3 => k_asm); (case k4 => k_asm); (case k5 => k_asm); (case kK => first | exact rfl | assumption); (case kd => ktr_room); (case ku => ktr_units); (case ki => exact trivial)); intro x9 dx9 k91 k92 k93 k94 k95 k96 k97 t91 t92 t93 t94 t95 t96 t97 h9 tk9 F9 N9 hl9 hx9; (try dsimp only at N9); (replace hx9 := ltN hx9); (try simp only [AllLt, and_true] at hl9); (try dsimp only); (try k_sweep); (try k_fold))
  k_with "eval Call Name" => (k_here; (with_reducible show wpAny _ _ (eval (Expr.Call (Expr.Name "moment_of" _) _ _ _) _) _ _ _); refine Call_ ?_)
  k_with "call ref" => (k_here; (with_reducible show wpAny _ _ (call (Value.ref 243) _) _ _ _); k_dflt (refine' mof_use (moment_of_c _ _ _ _ _ ?h1 ?h2 ?h3 ?h4) ?k1 ?k2 ?k3 ?k4 ?k5 ?kK ?kd ?ku ?ki ?_; (case k1 => k_asm); (case k2 => k_asm); (case k3 => k_asm); (case k4 => k_asm); (case k5 => k_asm); (case kK => first | exact rfl | assumption); (case kd => ktr_room); (case ku => ktr_units); (case ki => exact trivial)); (case h1 => (first | assumption | omega | ((try dsimp only); omega) | ((try dsimp only); (simp (disch := decide) only [Int.fdiv_eq_ediv_of_nonneg, Int.fmod_eq_emod_of_nonneg]); omega) | trivial | (refine ⟨?_, ?_, ?_, ?_, ?_, ?_, ?_, ?_, ?_, ?_, ?_, ?_, ?_, ?_⟩ <;> first | assumption | omega) | decide | (exact decide_eq_true (by omega)) | k_extra "pre")); (case h2 => (first | assumption | omega | ((try dsimp only); omega) | ((try dsimp only); (simp (disch := decide) only [Int.fdiv_eq_ediv_of_nonneg, Int.fmod_eq_emod_of_nonneg]); omega) | trivial | (refine ⟨?_, ?_, ?_, ?_, ?_, ?_, ?_, ?_, ?_, ?_, ?_, ?_, ?_, ?_⟩ <;> first | assumption | omega) | decide | (exact decide_eq_true (by omega)) | k_extra "pre")); (case h3 => (first | assumption | omega | ((try dsimp only); omega) | ((try dsimp only); (simp (disch := decide) only [Int.fdiv_eq_ediv_of_nonneg, Int.fmod_eq_emod_of_nonneg]); omega) | trivial | (refine ⟨?_, ?_, ?_, ?_, ?_, ?_, ?_, ?_, ?_, ?_, ?_, ?_, ?_, ?_⟩ <;> first | assumption | omega) | decide | (exact decide_eq_true (by omega)) | k_extra "pre")); (case h4 => (first | assumption | omega | ((try dsimp only); omega) | ((try dsimp only); (simp (disch := decide) only [Int.fdiv_eq_ediv_of_nonneg, Int.fmod_eq_emod_of_nonneg]); omega) | trivial | (refine ⟨?_, ?_, ?_, ?_, ?_, ?_, ?_, ?_, ?_, ?_, ?_, ?_, ?_, ?_⟩ <;> first | assumption | omega) | decide | (exact decide_eq_true (by omega)) | k_extra "pre")); intro y9 mo9 d9 hh9 mi9 s9 x9 dx9 k91 k92 k93 k94 k95 k96 k97 t91 t92 t93 t94 t95 t96 t97 h9 tk9 F9 N9 hl9 hx9 hV9 hn9 hm1 hm2 hq9; (try dsimp only at N9); (replace hx9 := ltN hx9); (try simp only [AllLt, and_true] at hl9); (try dsimp only); (try k_sweep); (try k_fold))
  k_with "eval Call Name" => (k_here; (with_reducible show wpAny _ _ (eval (Expr.Call (Expr.Name "instant_of" _) _ _ _) _) _ _ _); refine Call_ ?_)
  k_with "call ref" => (k_here; (with_reducible show wpAny _ _ (call (Value.ref 235) _) _ _ _); k_dflt (refine' spcp_use (instant_of_c _ _ _ _ _ _ _ _ _ ?h1 ?h2) ?k1 ?k2 ?k3 ?k4 ?k5 ?kK ?kd ?ku ?ki ?_; (case k1 => k_asm); (case k2 => k_asm); (case k3 => k_asm); (case k4 => k_asm); (case k5 => k_asm); (case kK => first | exact rfl | assumption); (case kd => ktr_room); (case ku => ktr_units); (case ki => (refine' MomIn.mk ?m1 ?m2; (case m1 => k_mem); (case m2 => k_mem)))); (case h1 => (first | assumption | omega | ((try dsimp only); omega) | ((try dsimp only); (simp (disch := decide) only [Int.fdiv_eq_ediv_of_nonneg, Int.fmod_eq_emod_of_nonneg]); omega) | trivial | (refine ⟨?_, ?_, ?_, ?_, ?_, ?_, ?_, ?_, ?_, ?_, ?_, ?_, ?_, ?_⟩ <;> first | assumption | omega) | decide | (exact decide_eq_true (by omega)) | k_extra "pre")); (case h2 => (first | assumption | omega | ((try dsimp only); omega) | ((try dsimp only); (simp (disch := decide) only [Int.fdiv_eq_ediv_of_nonneg, Int.fmod_eq_emod_of_nonneg]); omega) | trivial | (refine ⟨?_, ?_, ?_, ?_, ?_, ?_, ?_, ?_, ?_, ?_, ?_, ?_, ?_, ?_⟩ <;> first | assumption | omega) | decide | (exact decide_eq_true (by omega)) | k_extra "pre")); intro v9 h9 tk9 F9 N9 R9; (try dsimp only at R9); (obtain ⟨t9, e9⟩ := R9); (subst e9); (try dsimp only); (try k_sweep); (try k_fold))
  k_with "eval Call Name" => (k_here; (with_reducible show wpAny _ _ (eval (Expr.Call (Expr.Name "_law_clock" _) _ _ _) _) _ _ _); refine Call_ ?_)
  k_with "call ref" => (k_here; (with_reducible show wpAny _ _ (call (Value.ref 421) _) _ _ _); k_dflt (refine' spcp_use (law_clock_c _ _ _ _ _ _ _ _ _ ?h1 ?h2) ?k1 ?k2 ?k3 ?k4 ?k5 ?kK ?kd ?ku ?ki ?_; (case k1 => k_asm); (case k2 => k_asm); (case k3 => k_asm); (case k4 => k_asm); (case k5 => k_asm); (case kK => first | exact rfl | assumption); (case kd => ktr_room); (case ku => ktr_units); (case ki => (refine' MomIn.mk ?m1 ?m2; (case m1 => k_mem); (case m2 => k_mem)))); (case h1 => (first | assumption | omega | ((try dsimp only); omega) | ((try dsimp only); (simp (disch := decide) only [Int.fdiv_eq_ediv_of_nonneg, Int.fmod_eq_emod_of_nonneg]); omega) | trivial | (refine ⟨?_, ?_, ?_, ?_, ?_, ?_, ?_, ?_, ?_, ?_, ?_, ?_, ?_, ?_⟩ <;> first | assumption | omega) | decide | (exact decide_eq_true (by omega)) | k_extra "pre")); (case h2 => (first | assumption | omega | ((try dsimp only); omega) | ((try dsimp only); (simp (disch := decide) only [Int.fdiv_eq_ediv_of_nonneg, Int.fmod_eq_emod_of_nonneg]); omega) | trivial | (refine ⟨?_, ?_, ?_, ?_, ?_, ?_, ?_, ?_, ?_, ?_, ?_, ?_, ?_, ?_⟩ <;> first | assumption | omega) | decide | (exact decide_eq_true (by omega)) | k_extra "pre")); intro v9 h9 tk9 F9 N9 R9; (try dsimp only at R9); (obtain ⟨t9, e9⟩ := R9); (subst e9); (try dsimp only); (try k_sweep); (try k_fold))
  k_with "eval Call Name" => (k_here; (with_reducible show wpAny _ _ (eval (Expr.Call (Expr.Name "check_moment" _) _ _ _) _) _ _ _); refine Call_ ?_)
  k_with "call ref" => (k_here; (with_reducible show wpAny _ _ (call (Value.ref 228) _) _ _ _); k_dflt (refine' spcp_use (check_moment_c _ _ _ _ _ _ _ _ _ ?h1) ?k1 ?k2 ?k3 ?k4 ?k5 ?kK ?kd ?ku ?ki ?_; (case k1 => k_asm); (case k2 => k_asm); (case k3 => k_asm); (case k4 => k_asm); (case k5 => k_asm); (case kK => first | exact rfl | assumption); (case kd => ktr_room); (case ku => ktr_units); (case ki => (refine' MomIn.mk ?m1 ?m2; (case m1 => k_mem); (case m2 => k_mem)))); (case h1 => (first | assumption | omega | ((try dsimp only); omega) | ((try dsimp only); (simp (disch := decide) only [Int.fdiv_eq_ediv_of_nonneg, Int.fmod_eq_emod_of_nonneg]); omega) | trivial | (refine ⟨?_, ?_, ?_, ?_, ?_, ?_, ?_, ?_, ?_, ?_, ?_, ?_, ?_, ?_⟩ <;> first | assumption | omega) | decide | (exact decide_eq_true (by omega)) | k_extra "pre")); intro v9 h9 tk9 F9 N9 R9; (try dsimp only at R9); (subst R9); (try dsimp only); (try k_sweep); (try k_fold))
  k_with "eval Call Name" => (k_here; (with_reducible show wpAny _ _ (eval (Expr.Call (Expr.Name "day_text" _) _ _ _) _) _ _ _); refine Call_ ?_)
  k_with "call ref" => (k_here; (with_reducible show wpAny _ _ (call (Value.ref 383) _) _ _ _); k_dflt (refine' pur_use (day_text_c _ _ _ _ _ _ _ ?h1 ?h2 ?h3 ?h4 ?h5 ?h6) ?k1 ?k2 ?k3 ?k4 ?k5 ?kK ?kd ?ku ?_; (case k1 => k_asm); (case k2 => k_asm); (case k3 => k_asm); (case k4 => k_asm); (case k5 => k_asm); (case kK => first | exact rfl | assumption); (case kd => ktr_room); (case ku => ktr_units)); (case h1 => (first | assumption | omega | ((try dsimp only); omega) | ((try dsimp only); (simp (disch := decide) only [Int.fdiv_eq_ediv_of_nonneg, Int.fmod_eq_emod_of_nonneg]); omega) | trivial | (refine ⟨?_, ?_, ?_, ?_, ?_, ?_, ?_, ?_, ?_, ?_, ?_, ?_, ?_, ?_⟩ <;> first | assumption | omega) | decide | (exact decide_eq_true (by omega)) | k_extra "pre")); (case h2 => (first | assumption | omega | ((try dsimp only); omega) | ((try dsimp only); (simp (disch := decide) only [Int.fdiv_eq_ediv_of_nonneg, Int.fmod_eq_emod_of_nonneg]); omega) | trivial | (refine ⟨?_, ?_, ?_, ?_, ?_, ?_, ?_, ?_, ?_, ?_, ?_, ?_, ?_, ?_⟩ <;> first | assumption | omega) | decide | (exact decide_eq_true (by omega)) | k_extra "pre")); (case h3 => (first | assumption | omega | ((try dsimp only); omega) | ((try dsimp only); (simp (disch := decide) only [Int.fdiv_eq_ediv_of_nonneg, Int.fmod_eq_emod_of_nonneg]); omega) | trivial | (refine ⟨?_, ?_, ?_, ?_, ?_, ?_, ?_, ?_, ?_, ?_, ?_, ?_, ?_, ?_⟩ <;> first | assumption | omega) | decide | (exact decide_eq_true (by omega)) | k_extra "pre")); (case h4 => (first | assumption | omega | ((try dsimp only); omega) | ((try dsimp only); (simp (disch := decide) only [Int.fdiv_eq_ediv_of_nonneg, Int.fmod_eq_emod_of_nonneg]); omega) | trivial | (refine ⟨?_, ?_, ?_, ?_, ?_, ?_, ?_, ?_, ?_, ?_, ?_, ?_, ?_, ?_⟩ <;> first | assumption | omega) | decide | (exact decide_eq_true (by omega)) | k_extra "pre")); (case h5 => (first | assumption | omega | ((try dsimp only); omega) | ((try dsimp only); (simp (disch := decide) only [Int.fdiv_eq_ediv_of_nonneg, Int.fmod_eq_emod_of_nonneg]); omega) | trivial | (refine ⟨?_, ?_, ?_, ?_, ?_, ?_, ?_, ?_, ?_, ?_, ?_, ?_, ?_, ?_⟩ <;> first | assumption | omega) | decide | (exact decide_eq_true (by omega)) | k_extra "pre")); (case h6 => (first | assumption | omega | ((try dsimp only); omega) | ((try dsimp only); (simp (disch := decide) only [Int.fdiv_eq_ediv_of_nonneg, Int.fmod_eq_emod_of_nonneg]); omega) | trivial | (refine ⟨?_, ?_, ?_, ?_, ?_, ?_, ?_, ?_, ?_, ?_, ?_, ?_, ?_, ?_⟩ <;> first | assumption | omega) | decide | (exact decide_eq_true (by omega)) | k_extra "pre")); intro v9 h9 tk9 F9 N9 R9; (try dsimp only at R9); (obtain ⟨y9, t9, e9, hy9, hl9⟩ := R9); (subst e9); (try dsimp only); (try k_sweep); (try k_fold))
  k_with "eval Call Name" => (k_here; (with_reducible show wpAny _ _ (eval (Expr.Call (Expr.Name "write_internal" _) _ _ _) _) _ _ _); refine Call_ ?_)
  k_with "call ref" => (k_here; (with_reducible show wpAny _ _ (call (Value.ref 402) _) _ _ _); k_dflt (refine' spcp_use (write_internal_c _ _ _ _ _ _ _ _ _ ?h1) ?k1 ?k2 ?k3 ?k4 ?k5 ?kK ?kd ?ku ?ki ?_; (case k1 => k_asm); (case k2 => k_asm); (case k3 => k_asm); (case k4 => k_asm); (case k5 => k_asm); (case kK => first | exact rfl | assumption); (case kd => ktr_room); (case ku => ktr_units); (case ki => (refine' MomIn.mk ?m1 ?m2; (case m1 => k_mem); (case m2 => k_mem)))); (case h1 => (first | assumption | omega | ((try dsimp only); omega) | ((try dsimp only); (simp (disch := decide) only [Int.fdiv_eq_ediv_of_nonneg, Int.fmod_eq_emod_of_nonneg]); omega) | trivial | (refine ⟨?_, ?_, ?_, ?_, ?_, ?_, ?_, ?_, ?_, ?_, ?_, ?_, ?_, ?_⟩ <;> first | assumption | omega) | decide | (exact decide_eq_true (by omega)) | k_extra "pre")); intro v9 h9 tk9 F9 N9 R9; (try dsimp only at R9); (obtain ⟨y9, t9, e9, hy9, hl9⟩ := R9); (subst e9); (try dsimp only); (try k_sweep); (try k_fold))
  k_with "ite" => ((with_reducible show ite (_ = true) (wpAny _ _ (eval (Expr.Constant (Const.int 1) _ _) _) _ _ _) (wpAny _ _ (eval (Expr.Constant (Const.int 0) _ _) _) _ _ _)); refine const_join ?_)
  k_with "exec Assign cons ListComp" => ((with_reducible show wpAny _ _ (exec (Stmt.Assign [Expr.Tuple _ _ _] (Expr.ListComp (Expr.Call (Expr.Name "int" _) _ _ _) _ _ _) _) _) _ _ _); k_dflt (walk_at "exec Assign"))
  k_with "eval ListComp" => ((with_reducible show wpAny _ _ (eval (Expr.ListComp (Expr.Call (Expr.Name "int" _) [Expr.Name "part" _] _ _) _ _ _) _) _ _ _); walk_at "NZ ECOMP")
  k_with "eval Call Name" => (k_here; (with_reducible show wpAny _ _ (eval (Expr.Call (Expr.Name "read_internal" _) _ _ _) _) _ _ _); refine Call_ ?_)
  k_with "call ref" => (k_here; (with_reducible show wpAny _ _ (call (Value.ref 395) _) _ _ _); k_dflt (refine' mom_use (read_internal_c _ _ _ _ _ _ _ _ _ _ ?h1 ?h2) ?k1 ?k2 ?k3 ?k4 ?k5 ?kK ?kd ?ku ?ki ?_; (case k1 => k_asm); (case k2 => k_asm); (case k3 => k_asm); (case k4 => k_asm); (case k5 => k_asm); (case kK => first | exact rfl | assumption); (case kd => ktr_room); (case ku => ktr_units); (case ki => exact trivial)); (case h2 => (first | assumption | omega | ((try dsimp only); omega) | ((try dsimp only); (simp (disch := decide) only [Int.fdiv_eq_ediv_of_nonneg, Int.fmod_eq_emod_of_nonneg]); omega) | trivial | (refine ⟨?_, ?_, ?_, ?_, ?_, ?_, ?_, ?_, ?_, ?_, ?_, ?_, ?_, ?_⟩ <;> first | assumption | omega) | decide | (exact decide_eq_true (by omega)) | k_extra "pre")); (case h1 => (first | assumption | omega | ((try dsimp only); omega) | ((try dsimp only); (simp (disch := decide) only [Int.fdiv_eq_ediv_of_nonneg, Int.fmod_eq_emod_of_nonneg]); omega) | trivial | (refine ⟨?_, ?_, ?_, ?_, ?_, ?_, ?_, ?_, ?_, ?_, ?_, ?_, ?_, ?_⟩ <;> first | assumption | omega) | decide | (exact decide_eq_true (by omega)) | k_extra "pre")); intro x9 dx9 k91 k92 k93 k94 k95 k96 k97 t91 t92 t93 t94 t95 t96 t97 h9 tk9 F9 N9 hl9 hx9; (try dsimp only at N9); (replace hx9 := ltN hx9); (try simp only [AllLt, and_true] at hl9); (try dsimp only); (try k_sweep); (try k_fold))
  k_with "eval ListComp" => ((with_reducible show wpAny _ _ (eval (Expr.ListComp (Expr.Call (Expr.Name "ord" _) [Expr.Name "sign" _] _ _) _ _ _) _) _ _ _); walk_at "NZ ECOMP")
  k_with "eval Call Name" => (k_here; (with_reducible show wpAny _ _ (eval (Expr.Call (Expr.Name "write_date" _) _ _ _) _) _ _ _); refine Call_ ?_)
  k_with "call ref" => (k_here; (with_reducible show wpAny _ _ (call (Value.ref 376) _) _ _ _); k_dflt (refine' spcp_use (write_date_c _ _ _ _ _ _ _ _ _ ?h1) ?k1 ?k2 ?k3 ?k4 ?k5 ?kK ?kd ?ku ?ki ?_; (case k1 => k_asm); (case k2 => k_asm); (case k3 => k_asm); (case k4 => k_asm); (case k5 => k_asm); (case kK => first | exact rfl | assumption); (case kd => ktr_room); (case ku => ktr_units); (case ki => (refine' MomIn.mk ?m1 ?m2; (case m1 => k_mem); (case m2 => k_mem)))); (case h1 => (first | assumption | omega | ((try dsimp only); omega) | ((try dsimp only); (simp (disch := decide) only [Int.fdiv_eq_ediv_of_nonneg, Int.fmod_eq_emod_of_nonneg]); omega) | trivial | (refine ⟨?_, ?_, ?_, ?_, ?_, ?_, ?_, ?_, ?_, ?_, ?_, ?_, ?_, ?_⟩ <;> first | assumption | omega) | decide | (exact decide_eq_true (by omega)) | k_extra "pre")); intro v9 h9 tk9 F9 N9 R9; (try dsimp only at R9); (obtain ⟨y9, t9, e9, hy9⟩ := R9); (subst e9); (try dsimp only); (try k_sweep); (try k_fold))
  k_with "eval Call Name" => (k_here; (with_reducible show wpAny _ _ (eval (Expr.Call (Expr.Name "read_date" _) _ _ _) _) _ _ _); refine Call_ ?_)
  k_with "call ref" => (k_here; (with_reducible show wpAny _ _ (call (Value.ref 371) _) _ _ _); k_dflt (refine' mom_use (read_date2_c _ _ _ _ _ _ _ _ _ _ ?h1 ?h2) ?k1 ?k2 ?k3 ?k4 ?k5 ?kK ?kd ?ku ?ki ?_; (case k1 => k_asm); (case k2 => k_asm); (case k3 => k_asm); (case k4 => k_asm); (case k5 => k_asm); (case kK => first | exact rfl | assumption); (case kd => ktr_room); (case ku => ktr_units); (case ki => exact trivial)); (case h2 => (first | assumption | omega | ((try dsimp only); omega) | ((try dsimp only); (simp (disch := decide) only [Int.fdiv_eq_ediv_of_nonneg, Int.fmod_eq_emod_of_nonneg]); omega) | trivial | (refine ⟨?_, ?_, ?_, ?_, ?_, ?_, ?_, ?_, ?_, ?_, ?_, ?_, ?_, ?_⟩ <;> first | assumption | omega) | decide | (exact decide_eq_true (by omega)) | k_extra "pre")); (case h1 => (first | assumption | omega | ((try dsimp only); omega) | ((try dsimp only); (simp (disch := decide) only [Int.fdiv_eq_ediv_of_nonneg, Int.fmod_eq_emod_of_nonneg]); omega) | trivial | (refine ⟨?_, ?_, ?_, ?_, ?_, ?_, ?_, ?_, ?_, ?_, ?_, ?_, ?_, ?_⟩ <;> first | assumption | omega) | decide | (exact decide_eq_true (by omega)) | k_extra "pre")); intro x9 dx9 k91 k92 k93 k94 k95 k96 k97 t91 t92 t93 t94 t95 t96 t97 h9 tk9 F9 N9 hl9 hx9; (try dsimp only at N9); (replace hx9 := ltN hx9); (try simp only [AllLt, and_true] at hl9); (try dsimp only); (try k_sweep); (try k_fold))
  k_with "call ref" => (k_here; (with_reducible show wpAny _ _ (call (Value.ref 158) _) _ _ _); k_dflt (refine' spc_use (mtold_c _ _ _ _ _ _ _ _ _) ?k1 ?k2 ?k3 ?k4 ?k5 ?kK ?kd ?ku ?ki ?_; (case k1 => k_asm); (case k2 => k_asm); (case k3 => k_asm); (case k4 => k_asm); (case k5 => k_asm); (case kK => first | exact rfl | assumption); (case kd => ktr_room); (case ku => ktr_units); (case ki => (refine' MomIn.mk ?m1 ?m2; (case m1 => k_mem); (case m2 => k_mem)))); intro v9 n9 h9 tk9 F9 N9 R9; (try dsimp only at R9); (obtain ⟨r9, t91, t92, t93, t94, t95, t96, t97, e9, en9⟩ := R9); (subst e9; subst en9); (try dsimp only); (try k_sweep); (try k_fold))
  trivial
theorem zones0 {prog : Program} {w : World} {A : Around} {E : Value → Shared → Prop} {s : Shared} {h₀ : Heap} {L l : Addr} {news : List (Addr × Obj)} {a b : Int} {ta tb u : Tok} {value slice : Expr} {Q : Value → Shared → Prop} (N : News h₀ L s.heap news) (hm : (l, LCg.lst [.int a ta, .int b tb]) ∈ news) (h : Q (.int a ta) s)
    (hs : subscripted slice false (.ref l) (.int 0 u) = operate [.ref l, .int 0 u] (getItem (.ref l) (.int 0 u))) (hg : ∀ r, letTemporaryGo value (.ref l) r = pure ()) : wpAny (model prog w) A (subscriptTail value slice (.ref l) (.int 0 u)) Q E s :=
  PyProof.Rows.item_list (News.isList N hm) (by decide) (by decide) (x := .int a ta) rfl h hs hg
theorem zones1 {prog : Program} {w : World} {A : Around} {E : Value → Shared → Prop} {s : Shared} {h₀ : Heap} {L l : Addr} {news : List (Addr × Obj)} {a b : Int} {ta tb u : Tok} {value slice : Expr} {Q : Value → Shared → Prop} (N : News h₀ L s.heap news) (hm : (l, LCg.lst [.int a ta, .int b tb]) ∈ news) (h : Q (.int b tb) s)
    (hs : subscripted slice false (.ref l) (.int 1 u) = operate [.ref l, .int 1 u] (getItem (.ref l) (.int 1 u))) (hg : ∀ r, letTemporaryGo value (.ref l) r = pure ()) : wpAny (model prog w) A (subscriptTail value slice (.ref l) (.int 1 u)) Q E s :=
  PyProof.Rows.item_list (News.isList N hm) (by decide) (by decide) (x := .int b tb) rfl h hs hg
theorem ne_i7 {prog : Program} {w : World} {A : Around} {E : Value → Shared → Prop} {s : Shared} {h₀ : Heap} {L : Addr} {news : List (Addr × Obj)} {a b : Addr} {k1 k2 k3 k4 k5 k6 k7 : Int} {t1 t2 t3 t4 t5 t6 t7 u1 u2 u3 u4 u5 u6 u7 : Tok} {n1 n2 : Nat} {Q : Value → Shared → Prop} (N : News h₀ L s.heap news)
    (ma : ((a, { cls := .type "tuple", data := .seq #[.int k1 t1, .int k2 t2, .int k3 t3, .int k4 t4, .int k5 t5, .int k6 t6, .int k7 t7] n1 }) : Addr × Obj) ∈ news) (mb : ((b, { cls := .type "tuple", data := .seq #[.int k1 u1, .int k2 u2, .int k3 u3, .int k4 u4, .int k5 u5, .int k6 u6, .int k7 u7] n2 }) : Addr × Obj) ∈ news) (hu : A.units < cLine)
    (h : Q (.bool false) s) : wpAny (model prog w) A (compareOp .NotEq (.ref a) (.ref b)) Q E s := by
  have ta : s.heap.IsTuple a #[.int k1 t1, .int k2 t2, .int k3 t3, .int k4 t4, .int k5 t5, .int k6 t6, .int k7 t7] := ⟨_, (N _ ma).1, rfl, _, rfl⟩
  have tb : s.heap.IsTuple b #[.int k1 u1, .int k2 u2, .int k3 u3, .int k4 u4, .int k5 u5, .int k6 u6, .int k7 u7] := ⟨_, (N _ mb).1, rfl, _, rfl⟩
  have key : ∀ k t u, SeqAt.EqAt A.in1 s (.int k t) (.int k u) true := fun k t u => by
    have q := SeqAt.EqAt.int_int (A := A.in1) (s := s) k t k u
    rw [beq_self_eq_true] at q
    exact q
  refine SeqAt.RcNeAt.tuples (e := fun _ => true) ta tb hu (fun j h1 h2 => ?_) prog w E Q h
  have hj : j = 0 ∨ j = 1 ∨ j = 2 ∨ j = 3 ∨ j = 4 ∨ j = 5 ∨ j = 6 := by
    have : j < 7 := h1
    omega
  rcases hj with rfl | rfl | rfl | rfl | rfl | rfl | rfl <;> exact key _ _ _
section
variable {prog : Program} {w : World} {A : Around} {E : Value → Shared → Prop} {s : Shared} {h₀ : Heap} {env : Env} {target : Expr} {body : List Stmt} {Q : Flow → Shared → Prop}
theorem allObj_mono : ∀ {ws : List (Addr × String)} {k k' : List (Addr × Obj) → Prop}, (∀ its, k its → k' its) → AllObj ws k → AllObj ws k'
  | [], _, _, h, x => h _ x
  | _ :: _, _, _, h, x => fun o ho => allObj_mono (fun its => h _) (x o ho)
/-- The turns of a loop over written values, by what holds between them. -/
theorem items_inv {ws : List (Addr × String)} {keep : List (Addr × Obj)} (J : (Str → Option Value) → List (Addr × Obj) → Prop) (done : ∀ m news h tk, J m news → Fr h₀ env.locals h m → News h₀ env.locals h news → Q .next { s with heap := h, toks := tk }) :
    ∀ (items : List Itm), (∀ a ∈ items, ∃ v, a = Itm.val v) → (∀ v m news h tk, Itm.val v ∈ items → J m news → Fr h₀ env.locals h m → AllObj ws (fun its => News h₀ env.locals h (its ++ news) →
      wpAny (model prog w) A (assign target env v) (fun _ s₂ => wpAny (model prog w) A (execs body env) (UnrPostW h₀ env.locals { s with heap := h, toks := tk } its (fun m' n' => SubL keep n' ∧ J m' n') Q) E s₂) E { s with heap := h, toks := tk })) →
    ∀ m news, J m news → ItemsRest prog w A E h₀ env target body Q s ws keep items m news
  | [], _, _, m, news, hj => fun h tk F N => done m news h tk hj F N
  | a :: r, hv, turn, m, news, hj => by
    intro v h tk hav F
    obtain ⟨v', rfl⟩ := hv a (.head _)
    have e : v = v' := hav
    subst e
    refine allObj_mono (fun its h1 N => ?_) (turn v m news h tk (.head _) hj F)
    refine wpAny_mono (h1 N) (fun _ s₂ h2 => wpAny_mono h2 (fun f s₃ h3 => ?_) fun _ _ e => e) fun _ _ e => e
    have ih := items_inv J done r (fun a ha => hv a (.tail _ ha)) (fun v m news h tk hm => turn v m news h tk (.tail _ hm))
    cases f with
    | ret v => exact h3
    | brk => exact h3
    | next =>
      obtain ⟨h', tk', m', n', e, F', N', off, k, j⟩ := h3
      exact ⟨h', tk', m', n', e, F', N', off, k, ih m' n' j⟩
    | cont =>
      obtain ⟨h', tk', m', n', e, F', N', off, k, j⟩ := h3
      exact ⟨h', tk', m', n', e, F', N', off, k, ih m' n' j⟩
end
theorem drop1 {h₀ h : Heap} {L q : Addr} {news : List (Addr × Obj)} {a b : Int} {ta tb : Tok} (N : News h₀ L h news) (hm : (q, LCg.lst [.int a ta, .int b tb]) ∈ news) : News h₀ L h [(q, LCg.lst [.int a ta, .int b tb])] := fun p hp => by
  rcases List.mem_cons.mp hp with rfl | hp
  · exact N _ hm
  · exact nomatch hp
inductive Two (w : World) (sec : Int) (news : List (Addr × Obj)) : Value → Prop where
  | intro (x : Addr) (y mo d h mi s z : Int) (hm : MomIn w x y mo d h mi s z news) (hv : Valid y mo d h mi s z) (hi : inst y mo d h mi s z = sec) : Two w sec news (.ref x)
theorem two_of {w : World} {h₀ h : Heap} {L : Addr} {news : List (Addr × Obj)} {x dx : Addr} {k1 k2 k3 k4 k5 k6 k7 t1 t2 t3 t4 t5 t6 t7 : Tok} {y mo d hh mi s z sec : Int} (_N : News h₀ L h news) (m1 : (x, instObj 161 dx) ∈ news) (m2 : (dx, momObj w k1 k2 k3 k4 k5 k6 k7 y mo d hh mi s z t1 t2 t3 t4 t5 t6 t7) ∈ news) (hv : Valid y mo d hh mi s z) (hi : inst y mo d hh mi s z = sec) : Two w sec news (.ref x) :=
  .intro _ _ _ _ _ _ _ _ (MomIn.mk m1 m2) hv hi
section
variable {prog : Program} {w : World} {A : Around} {E : Value → Shared → Prop} {s : Shared} {h₀ : Heap} {env : Env} {target : Expr} {body : List Stmt} {Q : Flow → Shared → Prop}
/-- The law's loop: both moments, one after the other. -/
theorem items_two {ws : List (Addr × String)} {keep : List (Addr × Obj)} {sec : Int} {ts : Tok} {a b : Value} {m : Str → Option Value} {news : List (Addr × Obj)} (hs : m (Str.ofString "seconds") = some (.int sec ts)) (ta : Two w sec news a) (tb : Two w sec news b) (hk : SubL keep news) (hc : ∀ p ∈ news, p.2.cls ≠ .type "tuple_iterator")
    (done : ∀ (m : Str → Option Value) h tk, Fr h₀ env.locals h m → Q .next { s with heap := h, toks := tk })
    (turn : ∀ (n0 : List (Addr × Obj)) v (m : Str → Option Value) h tk, Two w sec n0 v → SubL keep n0 → (∀ p ∈ n0, p.2.cls ≠ .type "tuple_iterator") → m (Str.ofString "seconds") = some (.int sec ts) → Fr h₀ env.locals h m → AllObj ws (fun its => News h₀ env.locals h (its ++ n0) →
      wpAny (model prog w) A (assign target env v) (fun _ s₂ => wpAny (model prog w) A (execs body env) (UnrPostW h₀ env.locals { s with heap := h, toks := tk } its (fun m' n' => SubL keep n' ∧ m' (Str.ofString "seconds") = some (.int sec ts) ∧ n' = n0) Q) E s₂) E { s with heap := h, toks := tk })) :
    ItemsRest prog w A E h₀ env target body Q s ws keep [.val a, .val b] m news := by
  refine items_inv (fun m' n' => m' (Str.ofString "seconds") = some (.int sec ts) ∧ n' = news) (fun m' n' h tk _ F _ => done m' h tk F) _ ?_ ?_ m news ⟨hs, rfl⟩
  · intro x hx
    rcases List.mem_cons.mp hx with rfl | hx
    · exact ⟨_, rfl⟩
    rcases List.mem_cons.mp hx with rfl | hx
    · exact ⟨_, rfl⟩
    · exact nomatch hx
  · intro v m' n' h tk hm hj F
    obtain ⟨h1, rfl⟩ := hj
    refine turn n' v m' h tk ?_ hk hc h1 F
    rcases List.mem_cons.mp hm with e | hm
    · cases e; exact ta
    rcases List.mem_cons.mp hm with e | hm
    · cases e; exact tb
    · exact nomatch hm
end
theorem cls_off {h₀ h : Heap} {L I : Addr} {o : Obj} {n0 : List (Addr × Obj)} (N : News h₀ L h ([(I, o)] ++ n0)) (ho : o.cls = .type "tuple_iterator") (hc : ∀ p ∈ n0, p.2.cls ≠ .type "tuple_iterator") : ∀ p ∈ n0, ∀ q ∈ [(I, o)], p.1 ≠ q.1 := by
  intro p hp q hq e
  rw [List.mem_singleton.mp hq] at e
  have h1 := (N p (List.mem_append_right _ hp)).1
  have h2 := (N (I, o) (List.mem_append_left _ (.head _))).1
  rw [e] at h1
  exact hc p hp ((congrArg Obj.cls (Option.some.inj (h1.symm.trans h2))).trans ho)
theorem mul_zone {prog : Program} {w : World} {A : Around} {E : Value → Shared → Prop} {s : Shared} {a b : Int} {t u : Tok} {Q : Value → Shared → Prop} (h0 : 0 ≤ a) (h1 : a < 6000) (h2 : 0 ≤ b) (h3 : b < 2)
    (h : ∀ z t' tk, -5999 ≤ z → z ≤ 5999 → Q (.int z t') { s with toks := tk }) : wpAny (model prog w) A (binaryOp .Mult (.int a t) (.int (1 - 2 * b) u)) Q E s := by
  have hb : b = 0 ∨ b = 1 := by omega
  rcases hb with rfl | rfl
  · exact mul_int (h _ _ _ (by omega) (by omega))
  · exact mul_int (h _ _ _ (by omega) (by omega))
local macro_rules | `(tactic| k_ne) => `(tactic| first | (with_reducible (first | assumption | exact Ne.symm (by assumption) | exact Nat.ne_of_lt (by assumption) | exact Nat.ne_of_gt (by assumption))) | (refine neN ?_; (try dsimp only); omega))
theorem rows_80_78 : True := by
  k_with "NZ CLEAN" => ((repeat ((rename LCg.NsObj _ _ => nzc); clear nzc)); (repeat ((rename InElt _ _ => nzc); clear nzc)); (repeat ((rename _ ∧ _ => nzc); clear nzc)); (repeat ((rename @LT.lt Nat _ _ _ => nzc); clear nzc)); (repeat ((rename @Ne Nat _ _ => nzc); clear nzc)); (repeat ((rename @LT.lt Int _ _ (10 ^ 200) => nzc); clear nzc)); (repeat ((rename @LT.lt Int _ _ 2147483647 => nzc); clear nzc)))
  k_with "NZ SPLIT" => (with_reducible (repeat ((rename _ ∧ _ => nzc); obtain ⟨_, _⟩ := nzc)))
  k_with "exec Assign" => ((with_reducible show wpAny _ _ (exec (Stmt.Assign [Expr.Tuple _ _ _] _ _) _) _ _ _); (with_reducible ((rename @Eq Nat 77 77 => nzc); clear nzc)); refine hold ?_)
  k_with "exec For Name Tuple cons nil" => (with_reducible ((rename _ ∧ _ => nzc); clear nzc; walk_at "NZ CLEAN"))
  k_with "subscriptTail Name Constant ref int" => (k_here; (with_reducible show wpAny _ _ (subscriptTail (Expr.Name "zones" _) _ (Value.ref _) (Value.int 0 _)) _ _ _); k_dflt (refine' zones0 ?N ?m ?_ ?s ?g; (case N => k_asm); (case m => k_mem); (case s => with_unfolding_all rfl); (case g => kmk_pure)))
  k_with "subscriptTail Name Constant ref int" => (k_here; (with_reducible show wpAny _ _ (subscriptTail (Expr.Name "zones" _) _ (Value.ref _) (Value.int 1 _)) _ _ _); k_dflt (refine' zones1 ?N ?m ?_ ?s ?g; (case N => k_asm); (case m => k_mem); (case s => with_unfolding_all rfl); (case g => kmk_pure)))
  k_with "eval Name" => (k_here; (with_reducible show wpAny _ _ (eval _ (envOfC _ _ _ _ _)) _ _ _); (with_reducible rename Fr _ _ _ _ => kF); k_dflt (refine' nameX_L kF ?nzv ?_ ?nzk ?nza ?nzb; (case nza => kernel_rfl!); (case nzv => with_reducible walk_at "NZ LOOK"); (case nzk => exact rfl); (case nzb => kernel_rfl); k_whole))
  k_with "compareOp NotEq ref ref" => (k_here; k_dflt (refine' ne_i7 ?N ?a ?b ?u ?_; (case N => k_asm); (case a => with_reducible k_mem); (case b => with_reducible k_mem); (case u => ktr_units)))
  k_with "binaryOp Mult int int" => (k_here; (with_reducible show wpAny _ _ (binaryOp Operator.Mult (Value.int _ _) (Value.int (1 - 2 * _) _)) _ _ _); (refine mul_zone (by with_reducible assumption) (by with_reducible assumption) (by with_reducible assumption) (by with_reducible assumption) ?_); intro z9 t9 tk9 hz90 hz91)
  trivial
theorem rows_80_79 : True := by
  k_with "exec Assign cons ListComp" => (k_here; (with_reducible show wpAny _ _ (exec (Stmt.Assign _ (Expr.ListComp (Expr.BinOp (Expr.Call (Expr.Name "_law_draw" _) _ _ _) _ _ _) _ _ _) _) _) _ _ _); k_dflt (refine LCg.Assign_ListComp_U (F₀ := by k_asm) (by rfl) (by with_unfolding_all rfl) (by with_unfolding_all rfl) (by decide) (by rfl) (by decide) (by rfl) (by rfl) (by rfl) ?_))
  k_with "CompSrc" => (k_here; k_dflt (refine LCg.CompSrc.range (by rfl) (by k_asm) (by k_asm) (by assumption) (by first | decide | rfl) (by first | rfl | decide) (by exact Nat.le_of_ble_eq_true rfl) ?_; intro g'; lcg_lit))
  k_with "CompEnd" => lcg_end
  trivial
theorem law_holds : PySem.Challenge.rw_nz0313_01.Holds := hd (by
  w_strict (
    k_go0
    (try ((rename Ground _ _ _ _ _ _ _ _ _ => nzc); clear nzc))
    (try ((rename Dflts _ _ _ _ _ _ => nzc); clear nzc))
    (try ((rename Heap.CodeRec _ _ _ => nzc); clear nzc))
    (try ((rename TopE _ _ _ _ => nzc); clear nzc))
    (try ((rename TopW _ _ _ => nzc); clear nzc))
    (try ((rename BMod _ _ _ _ _ => nzc); clear nzc))
    (try ((rename Glob _ _ _ _ _ _ _ _ => nzc); clear nzc))
    (try ((rename LooseAre _ _ _ => nzc); clear nzc))
    (try ((rename Flt.MathXP _ _ _ => nzc); clear nzc))
    (try ((rename Tables _ _ _ _ => nzc); clear nzc))
    (try ((rename Well _ _ _ _ => nzc); clear nzc))
    (try ((rename ReadsAll _ _ _ _ => nzc); clear nzc))
    (try ((rename ReadsAllW _ _ _ _ _ _ => nzc); clear nzc))
    (try ((rename Reads _ _ _ _ => nzc); clear nzc))
    (try ((rename WShape.hasAll _ _ _ = _ => nzc); clear nzc))
    (rename Fr _ _ _ _ => F0)
    (with_unfolding_all have F1 := (id F0 : Fr _ _ _ (fun y => if y = Str.ofString "script" then some (Value.ref _) else none)))
    clear F0
    (rename _ = Data.cell _ => r0)
    (with_unfolding_all have r1 := (id r0 : _ = Data.cell none))
    clear r0
    (rename CellsAre _ _ _ => X0)
    clear X0
    all_goals try k_fold
    have nzmark : @Eq Nat 77 77 := rfl
    k_with "ItemsRest" => (refine hold ?_)
    k_with "UnrEndW" => (refine hold ?_)
    k_steps
    refine unhold ?_
    (with_reducible (repeat ((rename IntsAre _ _ => nzc); clear nzc)))
    walk_at "NZ CLEAN"
    (with_reducible rename News _ _ _ _ => N9)
    replace N9 := drop1 N9 (by k_mem)
    k_steps
    refine unhold ?_
    (with_reducible rename News _ _ _ _ => N9)
    refine' items_two ?nhs (two_of N9 (by k_mem) (by k_mem) (by with_reducible assumption) (by with_reducible assumption)) (two_of N9 (by k_mem) (by k_mem) (by with_reducible assumption) (by with_reducible assumption)) ?nhk ?nhc ?ndone ?nturn
    case nhs => with_reducible walk_at "NZ LOOK"
    case nhk => exact ⟨by k_mem, trivial⟩
    case nhc => (repeat (refine List.forall_mem_cons.mpr ⟨by first | (intro e; cases e; done) | (intro e; injection e with e; exact absurd e (by decide)), ?_⟩)); exact fun _ h => nomatch h
    case ndone =>
      intro m h tk F
      k_steps
    case nturn =>
      (repeat ((with_reducible rename News _ _ _ _ => nzc); clear nzc))
      (repeat ((with_reducible rename Valid _ _ _ _ _ _ _ => nzc); clear nzc))
      intro n0 v m h tk ht hk hc hs F
      obtain ⟨x, y, mo, d, hh, mi, s, z, ⟨dx, k1, k2, k3, k4, k5, k6, k7, t1, t2, t3, t4, t5, t6, t7, hm1, hm2⟩, hV, hi⟩ := ht
      refine AllObj.cons fun o ho => AllObj.nil ?_
      intro N
      have hoff := cls_off N ho hc
      dsimp only [List.cons_append, List.nil_append] at N
      have hV' := hV
      unfold Valid at hV'
      obtain ⟨hy1, hy2, hm1', hm2', hd1, hd2, hh1, hh2, hi1, hi2, hs1, hs2, hz1, hz2⟩ := hV'
      have hq := sec_of hi hs1 hs2
      k_steps
      all_goals (
        refine unhold ?_
        (with_reducible rename Fr _ _ _ _ => F3)
        (with_reducible rename News _ _ _ _ => N3)
        refine ⟨_, _, _, n0, rfl, F3, news_drop N3 ?_, hoff, hk, by with_reducible walk_at "NZ LOOK", rfl⟩
        intro p hp
        (repeat (first | exact List.Mem.head _ | exact hp | (rcases List.mem_cons.mp hp with rfl | hp; · k_mem) | refine List.Mem.tail _ ?_)))))

end Nz
theorem PySem.Challenge.cw_nz0313_01_holds : PySem.Challenge.rw_nz0313_01.Holds :=
  Nz.law_holds
#print axioms PySem.Challenge.cw_nz0313_01_holds
