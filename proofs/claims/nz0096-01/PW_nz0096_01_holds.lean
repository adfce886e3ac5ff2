import PyProof.Rows.All
import Wide.All
import OpenK.AllK
import Wide.FinOn
import Lean
import PySem.Challenge.RW_nz0096_01
open PySem PySem.W PyProof.Rows
set_option Elab.async false
set_option maxRecDepth 100000
set_option maxHeartbeats 8000000
set_option linter.all false
set_option genInjectivity false
set_option genSizeOf false
set_option compiler.extract_closed false
namespace Mine
inductive Got {T : Prop} (x : T) : Prop where | it
theorem walk_on {T : Prop} (x : T) (_ : Got x) : T := x
theorem got {T : Prop} (x : T) : Got x := .it
theorem hd.tw10012880186880212623 (p : Prop) (h : p) : p := h
theorem hd.tw10024716035694756283 (p : Prop) (h : p) : p := h
theorem hd.tw10030107230732127627 (p : Prop) (h : p) : p := h
theorem hd.tw100483095206116625 (p : Prop) (h : p) : p := h
theorem hd.tw10111801491309104144 (p : Prop) (h : p) : p := h
theorem hd.tw1011335219593555734 (p : Prop) (h : p) : p := h
theorem hd.tw10117440562283002822 (p : Prop) (h : p) : p := h
theorem hd.tw1013155817946168525 (p : Prop) (h : p) : p := h
theorem hd.tw10170382586518783626 (p : Prop) (h : p) : p := h
theorem hd.tw1017328040139425936 (p : Prop) (h : p) : p := h
theorem hd.tw10216474801634566288 (p : Prop) (h : p) : p := h
theorem hd.tw10246146449241189800 (p : Prop) (h : p) : p := h
theorem hd.tw10258225898301398825 (p : Prop) (h : p) : p := h
theorem hd.tw10258999931320997221 (p : Prop) (h : p) : p := h
theorem hd.tw10264135568141901301 (p : Prop) (h : p) : p := h
theorem hd.tw10296555574160606952 (p : Prop) (h : p) : p := h
theorem hd.tw10403243965636340961 (p : Prop) (h : p) : p := h
theorem hd.tw10404513684093684653 (p : Prop) (h : p) : p := h
theorem hd.tw10424393626065333798 (p : Prop) (h : p) : p := h
theorem hd.tw1043307727769730188 (p : Prop) (h : p) : p := h
theorem hd.tw10458740792067480800 (p : Prop) (h : p) : p := h
theorem hd.tw10507497572311344420 (p : Prop) (h : p) : p := h
theorem hd.tw10525666975642140466 (p : Prop) (h : p) : p := h
theorem hd.tw10543509907540572799 (p : Prop) (h : p) : p := h
theorem hd.tw10583446816852156582 (p : Prop) (h : p) : p := h
theorem hd.tw10601615944963115059 (p : Prop) (h : p) : p := h
theorem hd.tw10614716105012338702 (p : Prop) (h : p) : p := h
theorem hd.tw10678649693572172417 (p : Prop) (h : p) : p := h
theorem hd.tw10738003575532504788 (p : Prop) (h : p) : p := h
theorem hd.tw10743916045514856203 (p : Prop) (h : p) : p := h
theorem hd.tw10752148897807903841 (p : Prop) (h : p) : p := h
theorem hd.tw10779200252408728858 (p : Prop) (h : p) : p := h
theorem hd.tw10781468475247234061 (p : Prop) (h : p) : p := h
theorem hd.tw10792051664901133789 (p : Prop) (h : p) : p := h
theorem hd.tw10806950440038215891 (p : Prop) (h : p) : p := h
theorem hd.tw10844753989422098599 (p : Prop) (h : p) : p := h
theorem hd.tw10847404155465417027 (p : Prop) (h : p) : p := h
theorem hd.tw10860895700388868024 (p : Prop) (h : p) : p := h
theorem hd.tw1088296927520436173 (p : Prop) (h : p) : p := h
theorem hd.tw10905682514733158466 (p : Prop) (h : p) : p := h
theorem hd.tw10919297434634762262 (p : Prop) (h : p) : p := h
theorem hd.tw1097998534492414930 (p : Prop) (h : p) : p := h
theorem hd.tw11011131195910976488 (p : Prop) (h : p) : p := h
theorem hd.tw11032806212648032379 (p : Prop) (h : p) : p := h
theorem hd.tw11034497122203965937 (p : Prop) (h : p) : p := h
theorem hd.tw11054480109507316185 (p : Prop) (h : p) : p := h
theorem hd.tw11079593142295127227 (p : Prop) (h : p) : p := h
theorem hd.tw11117797201346649052 (p : Prop) (h : p) : p := h
theorem hd.tw11128854368766332075 (p : Prop) (h : p) : p := h
theorem hd.tw11136197038861592535 (p : Prop) (h : p) : p := h
theorem hd.tw11151547217846952531 (p : Prop) (h : p) : p := h
theorem hd.tw11162318198679636149 (p : Prop) (h : p) : p := h
theorem hd.tw11210553801493137410 (p : Prop) (h : p) : p := h
theorem hd.tw11232374478483605306 (p : Prop) (h : p) : p := h
theorem hd.tw11249132867342737325 (p : Prop) (h : p) : p := h
theorem hd.tw11251137523995926341 (p : Prop) (h : p) : p := h
theorem hd.tw11256106856564762260 (p : Prop) (h : p) : p := h
theorem hd.tw1129884963351977449 (p : Prop) (h : p) : p := h
theorem hd.tw11319097763535126812 (p : Prop) (h : p) : p := h
theorem hd.tw11319892378374348655 (p : Prop) (h : p) : p := h
theorem hd.tw11375277706881905925 (p : Prop) (h : p) : p := h
theorem hd.tw11387694631328260470 (p : Prop) (h : p) : p := h
theorem hd.tw11389486352061984695 (p : Prop) (h : p) : p := h
theorem hd.tw11402939732021071671 (p : Prop) (h : p) : p := h
theorem hd.tw11465210709893060100 (p : Prop) (h : p) : p := h
theorem hd.tw11470795383141926799 (p : Prop) (h : p) : p := h
theorem hd.tw11513968764499736323 (p : Prop) (h : p) : p := h
theorem hd.tw11551083187376567056 (p : Prop) (h : p) : p := h
theorem hd.tw11587034568685482758 (p : Prop) (h : p) : p := h
theorem hd.tw11611254532205267744 (p : Prop) (h : p) : p := h
theorem hd.tw11631947586910100387 (p : Prop) (h : p) : p := h
theorem hd.tw11632984921778587759 (p : Prop) (h : p) : p := h
theorem hd.tw11652457597714270106 (p : Prop) (h : p) : p := h
theorem hd.tw11660266114150955751 (p : Prop) (h : p) : p := h
theorem hd.tw11709330566771433103 (p : Prop) (h : p) : p := h
theorem hd.tw11713075325732132258 (p : Prop) (h : p) : p := h
theorem hd.tw11754176132448286083 (p : Prop) (h : p) : p := h
theorem hd.tw11778180911958503814 (p : Prop) (h : p) : p := h
theorem hd.tw11953376511379268794 (p : Prop) (h : p) : p := h
theorem hd.tw11959044307898795358 (p : Prop) (h : p) : p := h
theorem hd.tw11968265576560266318 (p : Prop) (h : p) : p := h
theorem hd.tw11975651509544506050 (p : Prop) (h : p) : p := h
theorem hd.tw1197925565968671727 (p : Prop) (h : p) : p := h
theorem hd.tw12023040214023829324 (p : Prop) (h : p) : p := h
theorem hd.tw12050417470231563642 (p : Prop) (h : p) : p := h
theorem hd.tw12058812876911547015 (p : Prop) (h : p) : p := h
theorem hd.tw12070654863422294720 (p : Prop) (h : p) : p := h
theorem hd.tw12113243949977362033 (p : Prop) (h : p) : p := h
theorem hd.tw12127338746724423809 (p : Prop) (h : p) : p := h
theorem hd.tw12131494931117144662 (p : Prop) (h : p) : p := h
theorem hd.tw12173100003817136821 (p : Prop) (h : p) : p := h
theorem hd.tw1222794163293265305 (p : Prop) (h : p) : p := h
theorem hd.tw12268275109542032366 (p : Prop) (h : p) : p := h
theorem hd.tw12393119488966705847 (p : Prop) (h : p) : p := h
theorem hd.tw12394076208661396346 (p : Prop) (h : p) : p := h
theorem hd.tw12399718760709695909 (p : Prop) (h : p) : p := h
theorem hd.tw1241404454085649124 (p : Prop) (h : p) : p := h
theorem hd.tw12414669353804360901 (p : Prop) (h : p) : p := h
theorem hd.tw12451258846644117672 (p : Prop) (h : p) : p := h
theorem hd.tw12459740579856956213 (p : Prop) (h : p) : p := h
theorem hd.tw12487502673411948298 (p : Prop) (h : p) : p := h
theorem hd.tw12575139184659369484 (p : Prop) (h : p) : p := h
theorem hd.tw12588582704262371052 (p : Prop) (h : p) : p := h
theorem hd.tw12591134339009171964 (p : Prop) (h : p) : p := h
theorem hd.tw12614811148066621264 (p : Prop) (h : p) : p := h
theorem hd.tw12629568148972539762 (p : Prop) (h : p) : p := h
theorem hd.tw12631932088317031055 (p : Prop) (h : p) : p := h
theorem hd.tw12647368939536790636 (p : Prop) (h : p) : p := h
theorem hd.tw12769127236821124696 (p : Prop) (h : p) : p := h
theorem hd.tw12797040952259185971 (p : Prop) (h : p) : p := h
theorem hd.tw12832683148521936107 (p : Prop) (h : p) : p := h
theorem hd.tw128412058910260475 (p : Prop) (h : p) : p := h
theorem hd.tw12936449754285732098 (p : Prop) (h : p) : p := h
theorem hd.tw12949589719889679912 (p : Prop) (h : p) : p := h
theorem hd.tw1299046323782801668 (p : Prop) (h : p) : p := h
theorem hd.tw12994019391074448376 (p : Prop) (h : p) : p := h
theorem hd.tw13038990169509382042 (p : Prop) (h : p) : p := h
theorem hd.tw13047593935725612058 (p : Prop) (h : p) : p := h
theorem hd.tw13066319289922817542 (p : Prop) (h : p) : p := h
theorem hd.tw13132618709999183898 (p : Prop) (h : p) : p := h
theorem hd.tw13181700845877081190 (p : Prop) (h : p) : p := h
theorem hd.tw13217225542625558698 (p : Prop) (h : p) : p := h
theorem hd.tw13220430256171166289 (p : Prop) (h : p) : p := h
theorem hd.tw13225837485096350037 (p : Prop) (h : p) : p := h
theorem hd.tw13267510147771200024 (p : Prop) (h : p) : p := h
theorem hd.tw13280443560766958183 (p : Prop) (h : p) : p := h
theorem hd.tw13285133528070534704 (p : Prop) (h : p) : p := h
theorem hd.tw13293453174229064190 (p : Prop) (h : p) : p := h
theorem hd.tw1331086792558400476 (p : Prop) (h : p) : p := h
theorem hd.tw13315533130655954831 (p : Prop) (h : p) : p := h
theorem hd.tw13321331477185743149 (p : Prop) (h : p) : p := h
theorem hd.tw13330244855972007585 (p : Prop) (h : p) : p := h
theorem hd.tw13338143212406534295 (p : Prop) (h : p) : p := h
theorem hd.tw13342606739435360313 (p : Prop) (h : p) : p := h
theorem hd.tw13363553139645760527 (p : Prop) (h : p) : p := h
theorem hd.tw13368278939475635651 (p : Prop) (h : p) : p := h
theorem hd.tw13431754692932380062 (p : Prop) (h : p) : p := h
theorem hd.tw13483081372092288885 (p : Prop) (h : p) : p := h
theorem hd.tw13532847315355080253 (p : Prop) (h : p) : p := h
theorem hd.tw1359830224848277088 (p : Prop) (h : p) : p := h
theorem hd.tw13609717118414637909 (p : Prop) (h : p) : p := h
theorem hd.tw13642289790063256904 (p : Prop) (h : p) : p := h
theorem hd.tw13753220567063992666 (p : Prop) (h : p) : p := h
theorem hd.tw13770079208771991547 (p : Prop) (h : p) : p := h
theorem hd.tw13783031573616600631 (p : Prop) (h : p) : p := h
theorem hd.tw13790719812936386609 (p : Prop) (h : p) : p := h
theorem hd.tw13825509269061658866 (p : Prop) (h : p) : p := h
theorem hd.tw1382963296337349011 (p : Prop) (h : p) : p := h
theorem hd.tw13855946660403688772 (p : Prop) (h : p) : p := h
theorem hd.tw13866372431405929976 (p : Prop) (h : p) : p := h
theorem hd.tw13893168526513508166 (p : Prop) (h : p) : p := h
theorem hd.tw13919464512627920130 (p : Prop) (h : p) : p := h
theorem hd.tw13929354066492186541 (p : Prop) (h : p) : p := h
theorem hd.tw13931416462566266981 (p : Prop) (h : p) : p := h
theorem hd.tw13956165655338008812 (p : Prop) (h : p) : p := h
theorem hd.tw14015909994521340511 (p : Prop) (h : p) : p := h
theorem hd.tw14029546391885035639 (p : Prop) (h : p) : p := h
theorem hd.tw14060154772996877548 (p : Prop) (h : p) : p := h
theorem hd.tw14103535550066685397 (p : Prop) (h : p) : p := h
theorem hd.tw1413172679324656950 (p : Prop) (h : p) : p := h
theorem hd.tw14168552714766633299 (p : Prop) (h : p) : p := h
theorem hd.tw14246236162039180721 (p : Prop) (h : p) : p := h
theorem hd.tw1425423193147277237 (p : Prop) (h : p) : p := h
theorem hd.tw14294001040229213422 (p : Prop) (h : p) : p := h
theorem hd.tw14294344414604881677 (p : Prop) (h : p) : p := h
theorem hd.tw14353793391729792155 (p : Prop) (h : p) : p := h
theorem hd.tw1439246655266547700 (p : Prop) (h : p) : p := h
theorem hd.tw14400467628812073631 (p : Prop) (h : p) : p := h
theorem hd.tw14457593812595234344 (p : Prop) (h : p) : p := h
theorem hd.tw14478148883734587675 (p : Prop) (h : p) : p := h
theorem hd.tw14492701947808656938 (p : Prop) (h : p) : p := h
theorem hd.tw14496233646976209081 (p : Prop) (h : p) : p := h
theorem hd.tw1450087424629197153 (p : Prop) (h : p) : p := h
theorem hd.tw1452849714261714991 (p : Prop) (h : p) : p := h
theorem hd.tw14553816603554493358 (p : Prop) (h : p) : p := h
theorem hd.tw14560493823538711346 (p : Prop) (h : p) : p := h
theorem hd.tw14598272352848978880 (p : Prop) (h : p) : p := h
theorem hd.tw14620637471214046174 (p : Prop) (h : p) : p := h
theorem hd.tw14678209027938369040 (p : Prop) (h : p) : p := h
theorem hd.tw14690822567662456159 (p : Prop) (h : p) : p := h
theorem hd.tw14705683404202351889 (p : Prop) (h : p) : p := h
theorem hd.tw14768889098011018680 (p : Prop) (h : p) : p := h
theorem hd.tw14772383043592177042 (p : Prop) (h : p) : p := h
theorem hd.tw14852329139284432860 (p : Prop) (h : p) : p := h
theorem hd.tw14892549342360969540 (p : Prop) (h : p) : p := h
theorem hd.tw14896477498954680388 (p : Prop) (h : p) : p := h
theorem hd.tw14955159897011116063 (p : Prop) (h : p) : p := h
theorem hd.tw14960593345356199642 (p : Prop) (h : p) : p := h
theorem hd.tw14980023328507725902 (p : Prop) (h : p) : p := h
theorem hd.tw15042006015671813226 (p : Prop) (h : p) : p := h
theorem hd.tw15043168886218598503 (p : Prop) (h : p) : p := h
theorem hd.tw15048261121198461528 (p : Prop) (h : p) : p := h
theorem hd.tw1506431575118746342 (p : Prop) (h : p) : p := h
theorem hd.tw15083628210047938546 (p : Prop) (h : p) : p := h
theorem hd.tw15089522573102190283 (p : Prop) (h : p) : p := h
theorem hd.tw15103106377680225435 (p : Prop) (h : p) : p := h
theorem hd.tw15114108414909977919 (p : Prop) (h : p) : p := h
theorem hd.tw15153279154761372571 (p : Prop) (h : p) : p := h
theorem hd.tw15166520500009309586 (p : Prop) (h : p) : p := h
theorem hd.tw15207398651663016943 (p : Prop) (h : p) : p := h
theorem hd.tw15212605336921212581 (p : Prop) (h : p) : p := h
theorem hd.tw15213948185873263833 (p : Prop) (h : p) : p := h
theorem hd.tw15220180469806662145 (p : Prop) (h : p) : p := h
theorem hd.tw15279998641719260112 (p : Prop) (h : p) : p := h
theorem hd.tw15344866539931968096 (p : Prop) (h : p) : p := h
theorem hd.tw15368132723985388332 (p : Prop) (h : p) : p := h
theorem hd.tw15416985209724490359 (p : Prop) (h : p) : p := h
theorem hd.tw15422856539912107476 (p : Prop) (h : p) : p := h
theorem hd.tw15427206886491885616 (p : Prop) (h : p) : p := h
theorem hd.tw15463257786427224491 (p : Prop) (h : p) : p := h
theorem hd.tw15508949281206285077 (p : Prop) (h : p) : p := h
theorem hd.tw15527848837575444561 (p : Prop) (h : p) : p := h
theorem hd.tw15529170255622000948 (p : Prop) (h : p) : p := h
theorem hd.tw15595854959937240912 (p : Prop) (h : p) : p := h
theorem hd.tw15610959940260225430 (p : Prop) (h : p) : p := h
theorem hd.tw15615420239508185596 (p : Prop) (h : p) : p := h
theorem hd.tw15616948245753086127 (p : Prop) (h : p) : p := h
theorem hd.tw1563692795949630186 (p : Prop) (h : p) : p := h
theorem hd.tw15642763164714097627 (p : Prop) (h : p) : p := h
theorem hd.tw15643275761693703936 (p : Prop) (h : p) : p := h
theorem hd.tw15673258824015622330 (p : Prop) (h : p) : p := h
theorem hd.tw15683763237869141255 (p : Prop) (h : p) : p := h
theorem hd.tw15759970867653108152 (p : Prop) (h : p) : p := h
theorem hd.tw15790720579355451973 (p : Prop) (h : p) : p := h
theorem hd.tw1580110805410547442 (p : Prop) (h : p) : p := h
theorem hd.tw15833661619300960221 (p : Prop) (h : p) : p := h
theorem hd.tw15837987909243819085 (p : Prop) (h : p) : p := h
theorem hd.tw15852365999677673905 (p : Prop) (h : p) : p := h
theorem hd.tw1589133516308662214 (p : Prop) (h : p) : p := h
theorem hd.tw15910714762333108613 (p : Prop) (h : p) : p := h
theorem hd.tw15946388913382835224 (p : Prop) (h : p) : p := h
theorem hd.tw15948780112781908787 (p : Prop) (h : p) : p := h
theorem hd.tw15967140613478806237 (p : Prop) (h : p) : p := h
theorem hd.tw15987713032478767096 (p : Prop) (h : p) : p := h
theorem hd.tw15992342658441690333 (p : Prop) (h : p) : p := h
theorem hd.tw1600037746751723098 (p : Prop) (h : p) : p := h
theorem hd.tw16006246977917349235 (p : Prop) (h : p) : p := h
theorem hd.tw16007149819294483003 (p : Prop) (h : p) : p := h
theorem hd.tw16011055738799735888 (p : Prop) (h : p) : p := h
theorem hd.tw16029623286316568529 (p : Prop) (h : p) : p := h
theorem hd.tw16037735763661986305 (p : Prop) (h : p) : p := h
theorem hd.tw16053994301053490033 (p : Prop) (h : p) : p := h
theorem hd.tw16056359734778111409 (p : Prop) (h : p) : p := h
theorem hd.tw16064382804478563927 (p : Prop) (h : p) : p := h
theorem hd.tw16091413853298234908 (p : Prop) (h : p) : p := h
theorem hd.tw1610171440888473627 (p : Prop) (h : p) : p := h
theorem hd.tw16114801073306886617 (p : Prop) (h : p) : p := h
theorem hd.tw16154546982801380032 (p : Prop) (h : p) : p := h
theorem hd.tw16157073509204512506 (p : Prop) (h : p) : p := h
theorem hd.tw16178712458983371728 (p : Prop) (h : p) : p := h
theorem hd.tw16194383521188589630 (p : Prop) (h : p) : p := h
theorem hd.tw16222499966895952523 (p : Prop) (h : p) : p := h
theorem hd.tw16257038226119295666 (p : Prop) (h : p) : p := h
theorem hd.tw16259696140248634718 (p : Prop) (h : p) : p := h
theorem hd.tw162610821266807592 (p : Prop) (h : p) : p := h
theorem hd.tw16299908979028503884 (p : Prop) (h : p) : p := h
theorem hd.tw16302227732802510677 (p : Prop) (h : p) : p := h
theorem hd.tw16332348944364537037 (p : Prop) (h : p) : p := h
theorem hd.tw16357263729072622229 (p : Prop) (h : p) : p := h
theorem hd.tw16412773359747925120 (p : Prop) (h : p) : p := h
theorem hd.tw16432713993328977331 (p : Prop) (h : p) : p := h
theorem hd.tw16456969618363192440 (p : Prop) (h : p) : p := h
theorem hd.tw16473244170626142550 (p : Prop) (h : p) : p := h
theorem hd.tw16477043939570097188 (p : Prop) (h : p) : p := h
theorem hd.tw16502264421070913907 (p : Prop) (h : p) : p := h
theorem hd.tw16634568088961857937 (p : Prop) (h : p) : p := h
theorem hd.tw16640546478005224243 (p : Prop) (h : p) : p := h
theorem hd.tw1666387254794493845 (p : Prop) (h : p) : p := h
theorem hd.tw16694946328126371552 (p : Prop) (h : p) : p := h
theorem hd.tw16713699803418581334 (p : Prop) (h : p) : p := h
theorem hd.tw16722109127936396110 (p : Prop) (h : p) : p := h
theorem hd.tw16772102934027710169 (p : Prop) (h : p) : p := h
theorem hd.tw16794629799341752650 (p : Prop) (h : p) : p := h
theorem hd.tw16828841361933241965 (p : Prop) (h : p) : p := h
theorem hd.tw16853341256802265648 (p : Prop) (h : p) : p := h
theorem hd.tw16904818350239718627 (p : Prop) (h : p) : p := h
theorem hd.tw16919406825032445293 (p : Prop) (h : p) : p := h
theorem hd.tw16920754564084929960 (p : Prop) (h : p) : p := h
theorem hd.tw16945582573551092051 (p : Prop) (h : p) : p := h
theorem hd.tw16970440968685349367 (p : Prop) (h : p) : p := h
theorem hd.tw17001982702790524580 (p : Prop) (h : p) : p := h
theorem hd.tw17047115858639842297 (p : Prop) (h : p) : p := h
theorem hd.tw17062030032774818151 (p : Prop) (h : p) : p := h
theorem hd.tw17070941380808615275 (p : Prop) (h : p) : p := h
theorem hd.tw17087091549796120035 (p : Prop) (h : p) : p := h
theorem hd.tw1712922718373300912 (p : Prop) (h : p) : p := h
theorem hd.tw17177331786930743035 (p : Prop) (h : p) : p := h
theorem hd.tw17183224562656869120 (p : Prop) (h : p) : p := h
theorem hd.tw17213754286329925777 (p : Prop) (h : p) : p := h
theorem hd.tw17234923516513369237 (p : Prop) (h : p) : p := h
theorem hd.tw17252143746492648416 (p : Prop) (h : p) : p := h
theorem hd.tw17252343639133405964 (p : Prop) (h : p) : p := h
theorem hd.tw17258206423299326598 (p : Prop) (h : p) : p := h
theorem hd.tw17330945745186091897 (p : Prop) (h : p) : p := h
theorem hd.tw17336936450418997793 (p : Prop) (h : p) : p := h
theorem hd.tw17377529257436501650 (p : Prop) (h : p) : p := h
theorem hd.tw17387473266821786944 (p : Prop) (h : p) : p := h
theorem hd.tw17420951861521290806 (p : Prop) (h : p) : p := h
theorem hd.tw17491280204586788870 (p : Prop) (h : p) : p := h
theorem hd.tw17542962492245011380 (p : Prop) (h : p) : p := h
theorem hd.tw17562767543260142214 (p : Prop) (h : p) : p := h
theorem hd.tw17574625026820762457 (p : Prop) (h : p) : p := h
theorem hd.tw17588044629489971554 (p : Prop) (h : p) : p := h
theorem hd.tw17606422857730326317 (p : Prop) (h : p) : p := h
theorem hd.tw17673860158736603733 (p : Prop) (h : p) : p := h
theorem hd.tw17681399029576232318 (p : Prop) (h : p) : p := h
theorem hd.tw17696971302532935780 (p : Prop) (h : p) : p := h
theorem hd.tw17711083657039698284 (p : Prop) (h : p) : p := h
theorem hd.tw17714235663813219645 (p : Prop) (h : p) : p := h
theorem hd.tw17739348878880393726 (p : Prop) (h : p) : p := h
theorem hd.tw17808607793243039243 (p : Prop) (h : p) : p := h
theorem hd.tw1781861727890032366 (p : Prop) (h : p) : p := h
theorem hd.tw17893044597097874663 (p : Prop) (h : p) : p := h
theorem hd.tw17895171251205151618 (p : Prop) (h : p) : p := h
theorem hd.tw17903497710992402801 (p : Prop) (h : p) : p := h
theorem hd.tw17919194246423945575 (p : Prop) (h : p) : p := h
theorem hd.tw17948085552500728524 (p : Prop) (h : p) : p := h
theorem hd.tw17950676927832955104 (p : Prop) (h : p) : p := h
theorem hd.tw17975533764899295144 (p : Prop) (h : p) : p := h
theorem hd.tw17986969038992634876 (p : Prop) (h : p) : p := h
theorem hd.tw1800889605409440832 (p : Prop) (h : p) : p := h
theorem hd.tw18093812233618175256 (p : Prop) (h : p) : p := h
theorem hd.tw18103342009636024947 (p : Prop) (h : p) : p := h
theorem hd.tw18103420901670897651 (p : Prop) (h : p) : p := h
theorem hd.tw18129098259903571784 (p : Prop) (h : p) : p := h
theorem hd.tw18166333605607142505 (p : Prop) (h : p) : p := h
theorem hd.tw18176940659606848779 (p : Prop) (h : p) : p := h
theorem hd.tw18185175575083235020 (p : Prop) (h : p) : p := h
theorem hd.tw18219297243305740317 (p : Prop) (h : p) : p := h
theorem hd.tw18241275227582772068 (p : Prop) (h : p) : p := h
theorem hd.tw18264374347568628810 (p : Prop) (h : p) : p := h
theorem hd.tw18293732401869909652 (p : Prop) (h : p) : p := h
theorem hd.tw18293851220164018083 (p : Prop) (h : p) : p := h
theorem hd.tw18300207936620678264 (p : Prop) (h : p) : p := h
theorem hd.tw1836080755315867724 (p : Prop) (h : p) : p := h
theorem hd.tw185848376630758926 (p : Prop) (h : p) : p := h
theorem hd.tw1865391376527767206 (p : Prop) (h : p) : p := h
theorem hd.tw1882180444382439491 (p : Prop) (h : p) : p := h
theorem hd.tw189712035060473897 (p : Prop) (h : p) : p := h
theorem hd.tw190519026028168232 (p : Prop) (h : p) : p := h
theorem hd.tw1954109241102656831 (p : Prop) (h : p) : p := h
theorem hd.tw1997569388931296116 (p : Prop) (h : p) : p := h
theorem hd.tw2000490053193787569 (p : Prop) (h : p) : p := h
theorem hd.tw2037972409741389414 (p : Prop) (h : p) : p := h
theorem hd.tw2051048951616859547 (p : Prop) (h : p) : p := h
theorem hd.tw2068664650715991707 (p : Prop) (h : p) : p := h
theorem hd.tw208794232270334677 (p : Prop) (h : p) : p := h
theorem hd.tw2101469004524951375 (p : Prop) (h : p) : p := h
theorem hd.tw2114630138375439770 (p : Prop) (h : p) : p := h
theorem hd.tw212345690472687942 (p : Prop) (h : p) : p := h
theorem hd.tw2134215046882385847 (p : Prop) (h : p) : p := h
theorem hd.tw2167537188350426706 (p : Prop) (h : p) : p := h
theorem hd.tw2195365466389143174 (p : Prop) (h : p) : p := h
theorem hd.tw2238560673963483907 (p : Prop) (h : p) : p := h
theorem hd.tw2252305205657439004 (p : Prop) (h : p) : p := h
theorem hd.tw22551697357593593 (p : Prop) (h : p) : p := h
theorem hd.tw2274498078352570744 (p : Prop) (h : p) : p := h
theorem hd.tw2295870552580634182 (p : Prop) (h : p) : p := h
theorem hd.tw2304311442786299043 (p : Prop) (h : p) : p := h
theorem hd.tw2315301623876862497 (p : Prop) (h : p) : p := h
theorem hd.tw2323474266016966308 (p : Prop) (h : p) : p := h
theorem hd.tw2327210489368252092 (p : Prop) (h : p) : p := h
theorem hd.tw2329189449893159454 (p : Prop) (h : p) : p := h
theorem hd.tw2391449824757734642 (p : Prop) (h : p) : p := h
theorem hd.tw2442259710966052079 (p : Prop) (h : p) : p := h
theorem hd.tw2448417245163862455 (p : Prop) (h : p) : p := h
theorem hd.tw2457190517430149469 (p : Prop) (h : p) : p := h
theorem hd.tw2502866573005156581 (p : Prop) (h : p) : p := h
theorem hd.tw250903467453971090 (p : Prop) (h : p) : p := h
theorem hd.tw257007361410690125 (p : Prop) (h : p) : p := h
theorem hd.tw2603259988358896889 (p : Prop) (h : p) : p := h
theorem hd.tw2608437505485318709 (p : Prop) (h : p) : p := h
theorem hd.tw2708950531961675432 (p : Prop) (h : p) : p := h
theorem hd.tw2783992281797965187 (p : Prop) (h : p) : p := h
theorem hd.tw2788664435532181463 (p : Prop) (h : p) : p := h
theorem hd.tw2799067240506288376 (p : Prop) (h : p) : p := h
theorem hd.tw2845679848157327705 (p : Prop) (h : p) : p := h
theorem hd.tw2855845756224970109 (p : Prop) (h : p) : p := h
theorem hd.tw2867327485932766208 (p : Prop) (h : p) : p := h
theorem hd.tw2887051446865420828 (p : Prop) (h : p) : p := h
theorem hd.tw2930668341846507884 (p : Prop) (h : p) : p := h
theorem hd.tw2951005344575393816 (p : Prop) (h : p) : p := h
theorem hd.tw2999033326186475339 (p : Prop) (h : p) : p := h
theorem hd.tw3008623586974134963 (p : Prop) (h : p) : p := h
theorem hd.tw307737655149646647 (p : Prop) (h : p) : p := h
theorem hd.tw3085183777334472315 (p : Prop) (h : p) : p := h
theorem hd.tw3219085151875037572 (p : Prop) (h : p) : p := h
theorem hd.tw3229955645248102723 (p : Prop) (h : p) : p := h
theorem hd.tw3259873300814134281 (p : Prop) (h : p) : p := h
theorem hd.tw3309697970292668127 (p : Prop) (h : p) : p := h
theorem hd.tw3381375190539634487 (p : Prop) (h : p) : p := h
theorem hd.tw3429492842335990350 (p : Prop) (h : p) : p := h
theorem hd.tw3434918251397683217 (p : Prop) (h : p) : p := h
theorem hd.tw3443669649825651883 (p : Prop) (h : p) : p := h
theorem hd.tw3452082135128663414 (p : Prop) (h : p) : p := h
theorem hd.tw3480954088277226078 (p : Prop) (h : p) : p := h
theorem hd.tw3530705653197291679 (p : Prop) (h : p) : p := h
theorem hd.tw3571134770919094901 (p : Prop) (h : p) : p := h
theorem hd.tw3673020696563887462 (p : Prop) (h : p) : p := h
theorem hd.tw3694398316872202419 (p : Prop) (h : p) : p := h
theorem hd.tw3704167492566942397 (p : Prop) (h : p) : p := h
theorem hd.tw3789350110615891812 (p : Prop) (h : p) : p := h
theorem hd.tw3828038474966422129 (p : Prop) (h : p) : p := h
theorem hd.tw3915529967508079626 (p : Prop) (h : p) : p := h
theorem hd.tw3919010098100093602 (p : Prop) (h : p) : p := h
theorem hd.tw395138700845864316 (p : Prop) (h : p) : p := h
theorem hd.tw3953601041324332601 (p : Prop) (h : p) : p := h
theorem hd.tw4014540891139286612 (p : Prop) (h : p) : p := h
theorem hd.tw4015398097383911347 (p : Prop) (h : p) : p := h
theorem hd.tw4021928978595405253 (p : Prop) (h : p) : p := h
theorem hd.tw402640490398009360 (p : Prop) (h : p) : p := h
theorem hd.tw4065347644161347641 (p : Prop) (h : p) : p := h
theorem hd.tw4068527845204499245 (p : Prop) (h : p) : p := h
theorem hd.tw4086058157674990017 (p : Prop) (h : p) : p := h
theorem hd.tw4111692666942324129 (p : Prop) (h : p) : p := h
theorem hd.tw4115565904173853331 (p : Prop) (h : p) : p := h
theorem hd.tw4136554803537287180 (p : Prop) (h : p) : p := h
theorem hd.tw4138081844389336918 (p : Prop) (h : p) : p := h
theorem hd.tw4159134105002834734 (p : Prop) (h : p) : p := h
theorem hd.tw4172343393113369950 (p : Prop) (h : p) : p := h
theorem hd.tw4182648748547736412 (p : Prop) (h : p) : p := h
theorem hd.tw4272726840584523970 (p : Prop) (h : p) : p := h
theorem hd.tw4282304852377368616 (p : Prop) (h : p) : p := h
theorem hd.tw4297731678662094536 (p : Prop) (h : p) : p := h
theorem hd.tw4315991029959535628 (p : Prop) (h : p) : p := h
theorem hd.tw432457690288141553 (p : Prop) (h : p) : p := h
theorem hd.tw4325921153153474475 (p : Prop) (h : p) : p := h
theorem hd.tw4360684699965382250 (p : Prop) (h : p) : p := h
theorem hd.tw4363365295628954845 (p : Prop) (h : p) : p := h
theorem hd.tw4367231431732253908 (p : Prop) (h : p) : p := h
theorem hd.tw4377701919642642989 (p : Prop) (h : p) : p := h
theorem hd.tw442638132926106271 (p : Prop) (h : p) : p := h
theorem hd.tw4449123307109862055 (p : Prop) (h : p) : p := h
theorem hd.tw4478166936697009375 (p : Prop) (h : p) : p := h
theorem hd.tw4478177076189095293 (p : Prop) (h : p) : p := h
theorem hd.tw4478964076566166474 (p : Prop) (h : p) : p := h
theorem hd.tw4494801613693538912 (p : Prop) (h : p) : p := h
theorem hd.tw4523669819894539328 (p : Prop) (h : p) : p := h
theorem hd.tw461538923250603899 (p : Prop) (h : p) : p := h
theorem hd.tw4642405928176397000 (p : Prop) (h : p) : p := h
theorem hd.tw4643362625855044894 (p : Prop) (h : p) : p := h
theorem hd.tw4667267849515015511 (p : Prop) (h : p) : p := h
theorem hd.tw4702841417184801058 (p : Prop) (h : p) : p := h
theorem hd.tw4788038989552484473 (p : Prop) (h : p) : p := h
theorem hd.tw4851647983119433812 (p : Prop) (h : p) : p := h
theorem hd.tw4856431653887292112 (p : Prop) (h : p) : p := h
theorem hd.tw4909881369870891365 (p : Prop) (h : p) : p := h
theorem hd.tw4993660671451451078 (p : Prop) (h : p) : p := h
theorem hd.tw5009564483982726761 (p : Prop) (h : p) : p := h
theorem hd.tw5036846961687405229 (p : Prop) (h : p) : p := h
theorem hd.tw5130813555471234732 (p : Prop) (h : p) : p := h
theorem hd.tw5148922909946612681 (p : Prop) (h : p) : p := h
theorem hd.tw5167245352685981253 (p : Prop) (h : p) : p := h
theorem hd.tw5174551420813472067 (p : Prop) (h : p) : p := h
theorem hd.tw5190246844813560578 (p : Prop) (h : p) : p := h
theorem hd.tw519851828213033955 (p : Prop) (h : p) : p := h
theorem hd.tw5238241317806426387 (p : Prop) (h : p) : p := h
theorem hd.tw5245234834050458271 (p : Prop) (h : p) : p := h
theorem hd.tw5247051413645994129 (p : Prop) (h : p) : p := h
theorem hd.tw526207354791536317 (p : Prop) (h : p) : p := h
theorem hd.tw5278057926702712004 (p : Prop) (h : p) : p := h
theorem hd.tw5282504435634884242 (p : Prop) (h : p) : p := h
theorem hd.tw5283464899586487735 (p : Prop) (h : p) : p := h
theorem hd.tw5292301768408028288 (p : Prop) (h : p) : p := h
theorem hd.tw5318216170032084099 (p : Prop) (h : p) : p := h
theorem hd.tw5343241284826551009 (p : Prop) (h : p) : p := h
theorem hd.tw5363564295841288755 (p : Prop) (h : p) : p := h
theorem hd.tw5366084841770067474 (p : Prop) (h : p) : p := h
theorem hd.tw5373601922739893978 (p : Prop) (h : p) : p := h
theorem hd.tw5388632664720090651 (p : Prop) (h : p) : p := h
theorem hd.tw541196102884509978 (p : Prop) (h : p) : p := h
theorem hd.tw5416991563250132298 (p : Prop) (h : p) : p := h
theorem hd.tw5461583852855630226 (p : Prop) (h : p) : p := h
theorem hd.tw5468376393175150590 (p : Prop) (h : p) : p := h
theorem hd.tw54727356038600574 (p : Prop) (h : p) : p := h
theorem hd.tw5480042469492414594 (p : Prop) (h : p) : p := h
theorem hd.tw5505005885091257285 (p : Prop) (h : p) : p := h
theorem hd.tw5549315172176941698 (p : Prop) (h : p) : p := h
theorem hd.tw5559951931751713254 (p : Prop) (h : p) : p := h
theorem hd.tw5567388512258382067 (p : Prop) (h : p) : p := h
theorem hd.tw5608270528595127837 (p : Prop) (h : p) : p := h
theorem hd.tw5629675986466331604 (p : Prop) (h : p) : p := h
theorem hd.tw5657824000916062451 (p : Prop) (h : p) : p := h
theorem hd.tw5732804406350252772 (p : Prop) (h : p) : p := h
theorem hd.tw5781342201191254626 (p : Prop) (h : p) : p := h
theorem hd.tw5822788659278004530 (p : Prop) (h : p) : p := h
theorem hd.tw5855857670023326579 (p : Prop) (h : p) : p := h
theorem hd.tw5902613922787404954 (p : Prop) (h : p) : p := h
theorem hd.tw5961118342813265553 (p : Prop) (h : p) : p := h
theorem hd.tw5976792059365374437 (p : Prop) (h : p) : p := h
theorem hd.tw5987830557187376847 (p : Prop) (h : p) : p := h
theorem hd.tw6038821095411175016 (p : Prop) (h : p) : p := h
theorem hd.tw6060742912462422084 (p : Prop) (h : p) : p := h
theorem hd.tw6082411064634330575 (p : Prop) (h : p) : p := h
theorem hd.tw6123773746684550334 (p : Prop) (h : p) : p := h
theorem hd.tw6136932545381038964 (p : Prop) (h : p) : p := h
theorem hd.tw6140570298594658328 (p : Prop) (h : p) : p := h
theorem hd.tw6154236146145331571 (p : Prop) (h : p) : p := h
theorem hd.tw6164396464334811476 (p : Prop) (h : p) : p := h
theorem hd.tw6184208073178115725 (p : Prop) (h : p) : p := h
theorem hd.tw6186238094035137676 (p : Prop) (h : p) : p := h
theorem hd.tw6196171512934965099 (p : Prop) (h : p) : p := h
theorem hd.tw6276725880618359904 (p : Prop) (h : p) : p := h
theorem hd.tw6293948785866598258 (p : Prop) (h : p) : p := h
theorem hd.tw6305734824756694309 (p : Prop) (h : p) : p := h
theorem hd.tw6320253292602491972 (p : Prop) (h : p) : p := h
theorem hd.tw6394381022753523788 (p : Prop) (h : p) : p := h
theorem hd.tw6407587892757256292 (p : Prop) (h : p) : p := h
theorem hd.tw6411954120941647267 (p : Prop) (h : p) : p := h
theorem hd.tw6423634429210846174 (p : Prop) (h : p) : p := h
theorem hd.tw6438293893037913957 (p : Prop) (h : p) : p := h
theorem hd.tw6469175993241445255 (p : Prop) (h : p) : p := h
theorem hd.tw6482722132109649516 (p : Prop) (h : p) : p := h
theorem hd.tw6528754448969337418 (p : Prop) (h : p) : p := h
theorem hd.tw6545403380812914513 (p : Prop) (h : p) : p := h
theorem hd.tw6547078798241139092 (p : Prop) (h : p) : p := h
theorem hd.tw6555240042291301478 (p : Prop) (h : p) : p := h
theorem hd.tw6578402527460240241 (p : Prop) (h : p) : p := h
theorem hd.tw6598312636042714100 (p : Prop) (h : p) : p := h
theorem hd.tw6663896369628448293 (p : Prop) (h : p) : p := h
theorem hd.tw6759412095888398321 (p : Prop) (h : p) : p := h
theorem hd.tw6761669909254768831 (p : Prop) (h : p) : p := h
theorem hd.tw6767318904944593275 (p : Prop) (h : p) : p := h
theorem hd.tw6785817131721698500 (p : Prop) (h : p) : p := h
theorem hd.tw6804821044290156842 (p : Prop) (h : p) : p := h
theorem hd.tw6818987989461384207 (p : Prop) (h : p) : p := h
theorem hd.tw6820862383352777685 (p : Prop) (h : p) : p := h
theorem hd.tw6830512106363814048 (p : Prop) (h : p) : p := h
theorem hd.tw6838551448383532254 (p : Prop) (h : p) : p := h
theorem hd.tw6868836192036940282 (p : Prop) (h : p) : p := h
theorem hd.tw6882427118574961969 (p : Prop) (h : p) : p := h
theorem hd.tw6892424819385984264 (p : Prop) (h : p) : p := h
theorem hd.tw6898005170327248138 (p : Prop) (h : p) : p := h
theorem hd.tw6906073325868019850 (p : Prop) (h : p) : p := h
theorem hd.tw6924109203229866365 (p : Prop) (h : p) : p := h
theorem hd.tw6931407450589930559 (p : Prop) (h : p) : p := h
theorem hd.tw6965799899956892507 (p : Prop) (h : p) : p := h
theorem hd.tw6982297934935202809 (p : Prop) (h : p) : p := h
theorem hd.tw6990203504111849199 (p : Prop) (h : p) : p := h
theorem hd.tw6998783941825042932 (p : Prop) (h : p) : p := h
theorem hd.tw7010584846471099517 (p : Prop) (h : p) : p := h
theorem hd.tw701787995468756871 (p : Prop) (h : p) : p := h
theorem hd.tw7028611270464810887 (p : Prop) (h : p) : p := h
theorem hd.tw7059539395403794157 (p : Prop) (h : p) : p := h
theorem hd.tw7068711184596962023 (p : Prop) (h : p) : p := h
theorem hd.tw7082855905992002993 (p : Prop) (h : p) : p := h
theorem hd.tw7109450275434161582 (p : Prop) (h : p) : p := h
theorem hd.tw7120233287515763914 (p : Prop) (h : p) : p := h
theorem hd.tw7131973826717234839 (p : Prop) (h : p) : p := h
theorem hd.tw7152984921513172624 (p : Prop) (h : p) : p := h
theorem hd.tw7270182246851987180 (p : Prop) (h : p) : p := h
theorem hd.tw728884934406724761 (p : Prop) (h : p) : p := h
theorem hd.tw7292484366425897655 (p : Prop) (h : p) : p := h
theorem hd.tw7296583596125217682 (p : Prop) (h : p) : p := h
theorem hd.tw7317836474542784337 (p : Prop) (h : p) : p := h
theorem hd.tw7355570028127101125 (p : Prop) (h : p) : p := h
theorem hd.tw7369741819223213686 (p : Prop) (h : p) : p := h
theorem hd.tw7379015992945566340 (p : Prop) (h : p) : p := h
theorem hd.tw7494724483528729301 (p : Prop) (h : p) : p := h
theorem hd.tw7510230149288206974 (p : Prop) (h : p) : p := h
theorem hd.tw7512474625130614241 (p : Prop) (h : p) : p := h
theorem hd.tw7519716089354478335 (p : Prop) (h : p) : p := h
theorem hd.tw7523672394736509286 (p : Prop) (h : p) : p := h
theorem hd.tw7525542149764818722 (p : Prop) (h : p) : p := h
theorem hd.tw7526368328331116154 (p : Prop) (h : p) : p := h
theorem hd.tw7534799579077118603 (p : Prop) (h : p) : p := h
theorem hd.tw7540741092611519060 (p : Prop) (h : p) : p := h
theorem hd.tw7561156446497217366 (p : Prop) (h : p) : p := h
theorem hd.tw7578210074245671484 (p : Prop) (h : p) : p := h
theorem hd.tw758273949599710562 (p : Prop) (h : p) : p := h
theorem hd.tw7598622570094877466 (p : Prop) (h : p) : p := h
theorem hd.tw7610815399733428385 (p : Prop) (h : p) : p := h
theorem hd.tw7628703163842673926 (p : Prop) (h : p) : p := h
theorem hd.tw7654286748164834634 (p : Prop) (h : p) : p := h
theorem hd.tw7676003278276379012 (p : Prop) (h : p) : p := h
theorem hd.tw7721951785955056133 (p : Prop) (h : p) : p := h
theorem hd.tw7746578258024575070 (p : Prop) (h : p) : p := h
theorem hd.tw7752767780024739350 (p : Prop) (h : p) : p := h
theorem hd.tw7754304195085646258 (p : Prop) (h : p) : p := h
theorem hd.tw7793673504863384051 (p : Prop) (h : p) : p := h
theorem hd.tw7816577550770918932 (p : Prop) (h : p) : p := h
theorem hd.tw7844939574554770707 (p : Prop) (h : p) : p := h
theorem hd.tw7854228177987924090 (p : Prop) (h : p) : p := h
theorem hd.tw7880807054014371918 (p : Prop) (h : p) : p := h
theorem hd.tw7891253978561527248 (p : Prop) (h : p) : p := h
theorem hd.tw7914949630228597729 (p : Prop) (h : p) : p := h
theorem hd.tw7927469264209771579 (p : Prop) (h : p) : p := h
theorem hd.tw8004679753235328684 (p : Prop) (h : p) : p := h
theorem hd.tw8015326511298524721 (p : Prop) (h : p) : p := h
theorem hd.tw8025032847418708242 (p : Prop) (h : p) : p := h
theorem hd.tw8047900516022102942 (p : Prop) (h : p) : p := h
theorem hd.tw8053944837975664402 (p : Prop) (h : p) : p := h
theorem hd.tw8068729725432388964 (p : Prop) (h : p) : p := h
theorem hd.tw8081886968326746073 (p : Prop) (h : p) : p := h
theorem hd.tw8086110750863094267 (p : Prop) (h : p) : p := h
theorem hd.tw8117029840178788049 (p : Prop) (h : p) : p := h
theorem hd.tw8134915037123179040 (p : Prop) (h : p) : p := h
theorem hd.tw8184699220007379433 (p : Prop) (h : p) : p := h
theorem hd.tw8226494294326810461 (p : Prop) (h : p) : p := h
theorem hd.tw8228950375871286339 (p : Prop) (h : p) : p := h
theorem hd.tw8242931771332617035 (p : Prop) (h : p) : p := h
theorem hd.tw8268277133935991078 (p : Prop) (h : p) : p := h
theorem hd.tw8269573656231971908 (p : Prop) (h : p) : p := h
theorem hd.tw8273930003744585626 (p : Prop) (h : p) : p := h
theorem hd.tw8343274005884668182 (p : Prop) (h : p) : p := h
theorem hd.tw8351282476255451920 (p : Prop) (h : p) : p := h
theorem hd.tw8356816923877370021 (p : Prop) (h : p) : p := h
theorem hd.tw8364274539379898114 (p : Prop) (h : p) : p := h
theorem hd.tw8381844023166312768 (p : Prop) (h : p) : p := h
theorem hd.tw8414420238210853183 (p : Prop) (h : p) : p := h
theorem hd.tw8428860471423672150 (p : Prop) (h : p) : p := h
theorem hd.tw845060206244984605 (p : Prop) (h : p) : p := h
theorem hd.tw8493152586797012548 (p : Prop) (h : p) : p := h
theorem hd.tw8516288146210602744 (p : Prop) (h : p) : p := h
theorem hd.tw8538877666451538035 (p : Prop) (h : p) : p := h
theorem hd.tw8545014587354053640 (p : Prop) (h : p) : p := h
theorem hd.tw8587404781116728655 (p : Prop) (h : p) : p := h
theorem hd.tw8609351116199087170 (p : Prop) (h : p) : p := h
theorem hd.tw8652628183442184457 (p : Prop) (h : p) : p := h
theorem hd.tw8664936974563722654 (p : Prop) (h : p) : p := h
theorem hd.tw8671608845466749128 (p : Prop) (h : p) : p := h
theorem hd.tw8683856772340465682 (p : Prop) (h : p) : p := h
theorem hd.tw8684328023851190084 (p : Prop) (h : p) : p := h
theorem hd.tw8716120427605611371 (p : Prop) (h : p) : p := h
theorem hd.tw8727321023445011275 (p : Prop) (h : p) : p := h
theorem hd.tw876933089483189297 (p : Prop) (h : p) : p := h
theorem hd.tw8789358453043137523 (p : Prop) (h : p) : p := h
theorem hd.tw8801323125487838256 (p : Prop) (h : p) : p := h
theorem hd.tw881544763273948857 (p : Prop) (h : p) : p := h
theorem hd.tw8832402302947667407 (p : Prop) (h : p) : p := h
theorem hd.tw8841187974860818712 (p : Prop) (h : p) : p := h
theorem hd.tw8879563391730754479 (p : Prop) (h : p) : p := h
theorem hd.tw8917430057791517301 (p : Prop) (h : p) : p := h
theorem hd.tw8960069828448710407 (p : Prop) (h : p) : p := h
theorem hd.tw8965841893048198262 (p : Prop) (h : p) : p := h
theorem hd.tw8977307856219701671 (p : Prop) (h : p) : p := h
theorem hd.tw8990313861142287110 (p : Prop) (h : p) : p := h
theorem hd.tw9013056391748086436 (p : Prop) (h : p) : p := h
theorem hd.tw9131607905817354932 (p : Prop) (h : p) : p := h
theorem hd.tw9132557439983319658 (p : Prop) (h : p) : p := h
theorem hd.tw9153386212771759811 (p : Prop) (h : p) : p := h
theorem hd.tw9170477692918782315 (p : Prop) (h : p) : p := h
theorem hd.tw9184186324627900627 (p : Prop) (h : p) : p := h
theorem hd.tw920214292312260371 (p : Prop) (h : p) : p := h
theorem hd.tw922143313871775805 (p : Prop) (h : p) : p := h
theorem hd.tw9237616624170024493 (p : Prop) (h : p) : p := h
theorem hd.tw9244321171653502345 (p : Prop) (h : p) : p := h
theorem hd.tw9271970288684553227 (p : Prop) (h : p) : p := h
theorem hd.tw9277588360372424766 (p : Prop) (h : p) : p := h
theorem hd.tw9298403506768410418 (p : Prop) (h : p) : p := h
theorem hd.tw9345929723534960622 (p : Prop) (h : p) : p := h
theorem hd.tw9386895884608548742 (p : Prop) (h : p) : p := h
theorem hd.tw9398405308114057262 (p : Prop) (h : p) : p := h
theorem hd.tw9406673726873002282 (p : Prop) (h : p) : p := h
theorem hd.tw9421340871869096474 (p : Prop) (h : p) : p := h
theorem hd.tw9427301549700849589 (p : Prop) (h : p) : p := h
theorem hd.tw9496365245306024149 (p : Prop) (h : p) : p := h
theorem hd.tw9499510787657705874 (p : Prop) (h : p) : p := h
theorem hd.tw9533747618267967006 (p : Prop) (h : p) : p := h
theorem hd.tw9555612238305686254 (p : Prop) (h : p) : p := h
theorem hd.tw9557236495431379559 (p : Prop) (h : p) : p := h
theorem hd.tw9566141503761928105 (p : Prop) (h : p) : p := h
theorem hd.tw9577689765879766989 (p : Prop) (h : p) : p := h
theorem hd.tw9617658007855726926 (p : Prop) (h : p) : p := h
theorem hd.tw9657781627882305391 (p : Prop) (h : p) : p := h
theorem hd.tw9673543361469618366 (p : Prop) (h : p) : p := h
theorem hd.tw9702936160620672325 (p : Prop) (h : p) : p := h
theorem hd.tw9719896912496429819 (p : Prop) (h : p) : p := h
theorem hd.tw9731375825926819010 (p : Prop) (h : p) : p := h
theorem hd.tw9741134391959003819 (p : Prop) (h : p) : p := h
theorem hd.tw9748044761591592747 (p : Prop) (h : p) : p := h
theorem hd.tw9763420282994701918 (p : Prop) (h : p) : p := h
theorem hd.tw9783614193127449063 (p : Prop) (h : p) : p := h
theorem hd.tw978945382295711627 (p : Prop) (h : p) : p := h
theorem hd.tw98111552014255084 (p : Prop) (h : p) : p := h
theorem hd.tw9908193460736022307 (p : Prop) (h : p) : p := h
set_option Elab.async true in
theorem hd : True := by
  change (fun (_ : (PySem.Challenge.rw_nz0096_01).row.Holds) => True) ?x
  · trivial
  case x => as_aux_lemma => (w_on; k_head; (case hw => w_witness2); solve_by_elim (newGoals := .nonDependentOnly) (maxDepth := 4) only [Mine.got, Mine.walk_on])
theorem look.tw2238560673963483907 (p : Prop) (h : p) : p := h
set_option Elab.async true in
theorem look (h : PySem.Challenge.rw_nz0096_01.row.Holds) : PySem.Challenge.rw_nz0096_01.Holds := by
  o_law
  exact h
end Mine
namespace Mine.Internal
open PySem.Calls PyProof.V PySem.Spec
local macro_rules | `(tactic| walk_at $s:str) => do
  let t := Lean.Syntax.mkStrLit ("o " ++ s.getString)
  `(tactic| k_extra $t)
local macro_rules | `(tactic| k_mem) => `(tactic| k_extra "o mem")
local macro_rules | `(tactic| k_upd) => `(tactic| k_extra "o k_upd")
local macro_rules | `(tactic| l_ints) => `(tactic| k_extra "o l_ints")
local macro_rules | `(tactic| k_updF) => `(tactic| k_extra "o k_updF")
example : True := by
  k_with "o mem" => (first | k_extra "o m cons" | k_extra "o k_mem")
  k_with "o m con" => (first | with_reducible exact ix_0 | with_reducible exact ix_1 | with_reducible exact ix_2 | with_reducible exact ix_3 | with_reducible exact ix_4 | with_reducible exact ix_5 | with_reducible exact ix_6 | with_reducible exact ix_7 | with_reducible exact ix_8 | with_reducible exact ix_9 | with_reducible exact ix_10 | with_reducible exact ix_11 | with_reducible exact ix_12 | with_reducible exact ix_13 | with_reducible exact ix_14 | with_reducible exact ix_15 | with_reducible exact ix_16 | ((with_reducible refine sk_16 ?_); k_extra "o m con") | ((with_reducible refine sk_16 ?_); first | k_extra "o k_mem" | with_reducible assumption) | ((with_reducible refine sk_15 ?_); first | k_extra "o k_mem" | with_reducible assumption) | ((with_reducible refine sk_14 ?_); first | k_extra "o k_mem" | with_reducible assumption) | ((with_reducible refine sk_13 ?_); first | k_extra "o k_mem" | with_reducible assumption) | ((with_reducible refine sk_12 ?_); first | k_extra "o k_mem" | with_reducible assumption) | ((with_reducible refine sk_11 ?_); first | k_extra "o k_mem" | with_reducible assumption) | ((with_reducible refine sk_10 ?_); first | k_extra "o k_mem" | with_reducible assumption) | ((with_reducible refine sk_9 ?_); first | k_extra "o k_mem" | with_reducible assumption) | ((with_reducible refine sk_8 ?_); first | k_extra "o k_mem" | with_reducible assumption) | ((with_reducible refine sk_7 ?_); first | k_extra "o k_mem" | with_reducible assumption) | ((with_reducible refine sk_6 ?_); first | k_extra "o k_mem" | with_reducible assumption) | ((with_reducible refine sk_5 ?_); first | k_extra "o k_mem" | with_reducible assumption) | ((with_reducible refine sk_4 ?_); first | k_extra "o k_mem" | with_reducible assumption) | ((with_reducible refine sk_3 ?_); first | k_extra "o k_mem" | with_reducible assumption) | ((with_reducible refine sk_2 ?_); first | k_extra "o k_mem" | with_reducible assumption) | ((with_reducible refine sk_1 ?_); first | k_extra "o k_mem" | with_reducible assumption))
  k_with "o m cons" => ((first | with_reducible show _ ∈ _ :: _ | with_reducible show List.Mem _ (_ :: _)); (try with_reducible refine' in_mem ?_); first | k_extra "o m con" | k_dflt (first | exact ix_0 | exact ix_1 | exact ix_2 | exact ix_3 | exact ix_4 | exact ix_5 | exact ix_6 | exact ix_7 | exact ix_8 | exact ix_9 | exact ix_10 | exact ix_11 | exact ix_12 | exact ix_13 | exact ix_14 | exact ix_15 | exact ix_16))
  k_with "o k_mem" => ((with_reducible show _ ∈ obs _ _ _); (with_reducible refine in_nil ?_); k_extra "o m mo")
  trivial

structure CxD (w : World) (A₀ : Around) (base : Heap) (outer : List Env) (h₀ : Heap) (A : Around) (env : Env) (L : Addr) (loose : List Str) (mean : ExcName → Option Value) (mg mb : Str → Option Value) (d : Nat) : Prop where
  B : Below A₀ base outer h₀
  X : (hd.heap_1_1 w.params).In h₀
  T : Top hd.view_1_2 loose mean mg mb h₀
  hA : A.frames = some (env :: outer)
  hf : env.frame = some L
  hk : env.scope.kind = .function
  room : A.depth + d ≤ 900
  units : A.units + 4 * d ≤ 9000
  hh : A.handled = none

noncomputable def Cx (w : World) (h₀ : Heap) (A : Around) (L : Addr) (d : Nat) : Prop :=
  ∃ A₀ base outer env loose mean mg mb, CxD w A₀ base outer h₀ A env L loose mean mg mb d

theorem Cx.mono {w : World} {h₀ : Heap} {A : Around} {L : Addr} {d d' : Nat} (h : Cx w h₀ A L d) (hd : d' ≤ d) : Cx w h₀ A L d' := by
  obtain ⟨A₀, base, outer, env, loose, mean, mg, mb, C⟩ := h
  exact ⟨A₀, base, outer, env, loose, mean, mg, mb, ⟨C.B, C.X, C.T, C.hA, C.hf, C.hk, by have := C.room; (first | lia | omega), by have := C.units; (first | lia | omega), C.hh⟩⟩

structure Rets (h₀ : Heap) (L : Addr) (m : Str → Option Value) (g : Heap) (L' : Addr) (Q : Value → Shared → Prop) (R : Flow → Shared → Prop) : Prop where
  ret : ∀ v s' m' news', Fr g L' s'.heap m' → News g L' s'.heap news' → (Fr h₀ L s'.heap m → News h₀ L s'.heap news' → Q v s') → R (.ret v) s'
  off : ∀ s' m' news', Fr g L' s'.heap m' → News g L' s'.heap news' → (Fr h₀ L s'.heap m → News h₀ L s'.heap news' → Q .none s') → R .next s'

theorem call_fn {prog : Program} {w : World} {A : Around} {h₀ : Heap} {L : Addr} {m : Str → Option Value} {d : Nat} {sh : Heap} {sg : Array GenState} {sd : Drawn} {stk : Nat} {so : OsState} {news : List (Addr × Obj)}
    {name qual : Str} {params : Arguments} {body : List Stmt} {scope : Scope} {dV kV doc pm cdv ct oc : Value} {an od : Option Addr} {osl : Array (Option Value)} {f : Addr} {pos : List Value} {kw : List (Str × Value)} {binds : List (Str × Value)}
    {Q : Value → Shared → Prop} {E : Value → Shared → Prop}
    (C : Cx w h₀ A L (d + 1)) (F : Fr h₀ L sh m) (N : News h₀ L sh news)
    (ho : (hd.heap_1_1 w.params).lookup f = some ⟨oc, od, .func (fnOf name qual params body scope dV kV doc pm an cdv ct), osl⟩)
    (hcd : codeIn (hd.heap_1_1 w.params) cdv qual = true)
    (hbind : ∀ h : Heap, (hd.heap_1_1 w.params).In h → sh = h → BindsTo (Shared.mk sh sg sd stk so) (fnOf name qual params body scope dV kV doc pm an cdv ct) ⟨pos, kw⟩ binds) (hloc : ∀ y ∈ binds, scope.names.lookup y.1 = some .local)
    (hco : scope.isCoroutine = false) (hgen : scope.isGenerator = false) (hk : scope.kind = .function) (hcell : ∀ x ∈ scope.names, x.2 ≠ .cell)
    (h : ∀ g L' h₁ R loose mean mg mb tk, Rets h₀ L m g L' Q R → Cx w g (A.deeper (envOf qual scope L' f cdv)) L' d → (hd.heap_1_1 w.params).In g → Top hd.view_1_2 loose mean mg mb g → (A.deeper (envOf qual scope L' f cdv)).handled = none →
      Fr g L' h₁ (fun y => binds.reverse.lookup y) → News g L' h₁ news → (∀ b o, h₀.get? b = some o → g.get? b = some o) →
      wpAny (model prog w) (A.deeper (envOf qual scope L' f cdv)) (execs body (envOf qual scope L' f cdv)) R (fun _ _ => False) (Shared.mk h₁ sg sd tk so)) :
    wpAny (model prog w) A (call (.ref f) pos kw) Q E (Shared.mk sh sg sd stk so) := by
  obtain ⟨A₀, base, outer, env, loose, mean, mg, mb, C⟩ := C
  refine wpAny_call (callX_plain (cl := []) C.B F N C.T.nolimit C.hA C.hf C.hk ((C.X.keeps F.keep) _ _ ho) rfl (codeRec_of (C.X.keeps F.keep) hcd) ?_ (hbind _ (C.X.keeps F.keep) rfl) hloc ?_ hcell hco hgen hk)
  · have := C.room
    show A.depth < 1000
    first | lia | omega
  · intro g L' h₁ FG F' N' B' st _
    refine wpAny_mono (h g L' h₁ (fun fl s' => LeaveK h₀ L m g (fun r s' => match r with | .ok (.ret v) => Q v s' | .ok _ => False | .error e => E e s') (match fl with | .ret v => v | _ => .none) s') loose mean mg mb _ ⟨?_, ?_⟩ ⟨A, base, _, envOf qual scope L' f cdv, loose, mean, mg, mb, ⟨B', C.X.keeps st, C.T.keeps st, ?_, rfl, hk, ?_, ?_, ?_⟩⟩ (C.X.keeps st) (C.T.keeps st) ?_ F' N' st) (fun _ _ x => x) (fun _ _ x => x.elim)
    · exact fun v s' m' news' F₁ N₁ k => ⟨L', m', news', F₁, N₁, k⟩
    · exact fun s' m' news' F₁ N₁ k => ⟨L', m', news', F₁, N₁, k⟩
    · simp only [Around.deeper, C.hA, Option.map_some]
    · have := C.room; simp only [Around.deeper]; (first | lia | omega)
    · have := C.units; simp only [Around.deeper]; (first | lia | omega)
    · exact C.hh
    · exact C.hh

structure St where
  stack : List Int := []
  fmt : List Int := []
  kinds : List Str := []
  spaces : List Str := []
  names : List Str := []
  attrs : List (List (Str × Str)) := []
  texts : List Str := []
  parents : List Int := []
  children : List (List Int) := []
  contents : List (Int × Int) := []
  foster : Bool := false
  keep : List (Addr × Obj) := []

structure BA where
  b : Addr
  db : Addr
  t : Addr
  dt : Addr
  k : Addr
  dk : Addr
  f : Addr
  df : Addr
  er : Addr
  si : Addr
  fi : Addr
  ki : Addr
  sp : Addr
  na : Addr
  ar : Addr
  te : Addr
  pa : Addr
  ch : Addr
  co : Addr
  τ : Nat → Tok
  vo : Nat → Value

structure Sg where
  fo : Bool
  si : List Value
  fi : List Value
  ki : List Value
  sp : List Value
  na : List Value
  ar : List Value
  te : List Value
  pa : List Value
  e0 : Nat
  e1 : Nat
  e2 : Nat
  e3 : Nat
  e4 : Nat
  e5 : Nat
  e6 : Nat
  e7 : Nat
  e8 : Nat
  co : Obj
  kids : List (Addr × Obj)
  inn : List (Addr × Obj)

noncomputable abbrev refsOf1 (l : List (Addr × Obj)) : List Value := l.map fun p => Value.ref p.1

noncomputable abbrev en (P : Params) (x : String) (t : Tok) (v : Value) : DictEntry := ⟨PyData.keyHash P (Str.ofString x), .str (Str.ofString x) t, v⟩

noncomputable abbrev bEnt (P : Params) (a : BA) (fo : Bool) : List DictEntry :=
  [en P "rules" (a.τ 0) (a.vo 0), en P "tree" (a.τ 1) (.ref a.t), en P "stack" (a.τ 2) (.ref a.k), en P "formatting" (a.τ 3) (.ref a.f),
   en P "mode" (a.τ 4) (.str (Str.ofString "initial") (a.τ 50)), en P "original" (a.τ 5) (a.vo 5), en P "modes" (a.τ 6) (a.vo 6), en P "head" (a.τ 7) (a.vo 7), en P "form" (a.τ 8) (a.vo 8),
   en P "owners" (a.τ 9) (a.vo 9), en P "is_frameset_ok" (a.τ 10) (a.vo 10), en P "is_scripting" (a.τ 11) (a.vo 11), en P "is_foster" (a.τ 12) (.bool fo), en P "context" (a.τ 13) (a.vo 13),
   en P "quirks" (a.τ 14) (a.vo 14), en P "errors" (a.τ 15) (.ref a.er), en P "pending" (a.τ 16) (a.vo 16), en P "wish" (a.τ 17) (a.vo 17), en P "is_skipping" (a.τ 18) (a.vo 18),
   en P "is_acknowledged" (a.τ 19) (a.vo 19), en P "is_done" (a.τ 20) (a.vo 20)]
noncomputable abbrev tEnt (P : Params) (a : BA) : List DictEntry :=
  [en P "kinds" (a.τ 21) (.ref a.ki), en P "spaces" (a.τ 22) (.ref a.sp), en P "names" (a.τ 23) (.ref a.na), en P "attrs" (a.τ 24) (.ref a.ar), en P "texts" (a.τ 25) (.ref a.te),
   en P "parents" (a.τ 26) (.ref a.pa), en P "children" (a.τ 27) (.ref a.ch), en P "contents" (a.τ 28) (.ref a.co)]
noncomputable abbrev kEnt (P : Params) (a : BA) : List DictEntry := [en P "tree" (a.τ 29) (.ref a.t), en P "items" (a.τ 30) (.ref a.si)]
noncomputable abbrev fEnt (P : Params) (a : BA) : List DictEntry := [en P "tree" (a.τ 31) (.ref a.t), en P "items" (a.τ 32) (.ref a.fi)]

noncomputable abbrev fixO (P : Params) (a : BA) (fo : Bool) : List (Addr × Obj) :=
  [(a.b, instObj 498 a.db), (a.db, dictOf (bEnt P a fo) 21), (a.t, instObj 420 a.dt), (a.dt, dictOf (tEnt P a) 8),
  (a.k, instObj 303 a.dk), (a.dk, dictOf (kEnt P a) 2), (a.f, instObj 191 a.df), (a.df, dictOf (fEnt P a) 2), (a.er, listOf [].toArray 0)]

noncomputable abbrev obs (P : Params) (a : BA) (g : Sg) : List (Addr × Obj) :=
  (a.b, instObj 498 a.db) :: (a.db, dictOf (bEnt P a g.fo) 21) :: (a.t, instObj 420 a.dt) :: (a.dt, dictOf (tEnt P a) 8) ::
  (a.k, instObj 303 a.dk) :: (a.dk, dictOf (kEnt P a) 2) :: (a.f, instObj 191 a.df) :: (a.df, dictOf (fEnt P a) 2) :: (a.er, listOf [].toArray 0) ::
  (a.si, listOf g.si.toArray g.e0) :: (a.fi, listOf g.fi.toArray g.e1) :: (a.ki, listOf g.ki.toArray g.e2) :: (a.sp, listOf g.sp.toArray g.e3) :: (a.na, listOf g.na.toArray g.e4) ::
  (a.ar, listOf g.ar.toArray g.e5) :: (a.te, listOf g.te.toArray g.e6) :: (a.pa, listOf g.pa.toArray g.e7) :: (a.ch, listOf (refsOf1 g.kids).toArray g.e8) :: (a.co, g.co) :: (g.kids ++ g.inn)

theorem mb_b {P : Params} {a : BA} {g : Sg} : (a.b, instObj 498 a.db) ∈ obs P a g := .head _
theorem mo_b {P : Params} {ex : List (Addr × Obj)} {a : BA} {g : Sg} : (a.b, instObj 498 a.db) ∈ ex ++ obs P a g := List.mem_append_right _ mb_b
theorem mb_db {P : Params} {a : BA} {g : Sg} : (a.db, dictOf (bEnt P a g.fo) 21) ∈ obs P a g := .tail _ (.head _)
theorem mo_db {P : Params} {ex : List (Addr × Obj)} {a : BA} {g : Sg} : (a.db, dictOf (bEnt P a g.fo) 21) ∈ ex ++ obs P a g := List.mem_append_right _ mb_db
theorem mb_t {P : Params} {a : BA} {g : Sg} : (a.t, instObj 420 a.dt) ∈ obs P a g := .tail _ (.tail _ (.head _))
theorem mo_t {P : Params} {ex : List (Addr × Obj)} {a : BA} {g : Sg} : (a.t, instObj 420 a.dt) ∈ ex ++ obs P a g := List.mem_append_right _ mb_t
theorem mb_dt {P : Params} {a : BA} {g : Sg} : (a.dt, dictOf (tEnt P a) 8) ∈ obs P a g := .tail _ (.tail _ (.tail _ (.head _)))
theorem mo_dt {P : Params} {ex : List (Addr × Obj)} {a : BA} {g : Sg} : (a.dt, dictOf (tEnt P a) 8) ∈ ex ++ obs P a g := List.mem_append_right _ mb_dt
theorem mb_k {P : Params} {a : BA} {g : Sg} : (a.k, instObj 303 a.dk) ∈ obs P a g := .tail _ (.tail _ (.tail _ (.tail _ (.head _))))
theorem mo_k {P : Params} {ex : List (Addr × Obj)} {a : BA} {g : Sg} : (a.k, instObj 303 a.dk) ∈ ex ++ obs P a g := List.mem_append_right _ mb_k
theorem mb_dk {P : Params} {a : BA} {g : Sg} : (a.dk, dictOf (kEnt P a) 2) ∈ obs P a g := .tail _ (.tail _ (.tail _ (.tail _ (.tail _ (.head _)))))
theorem mo_dk {P : Params} {ex : List (Addr × Obj)} {a : BA} {g : Sg} : (a.dk, dictOf (kEnt P a) 2) ∈ ex ++ obs P a g := List.mem_append_right _ mb_dk
theorem mb_f {P : Params} {a : BA} {g : Sg} : (a.f, instObj 191 a.df) ∈ obs P a g := .tail _ (.tail _ (.tail _ (.tail _ (.tail _ (.tail _ (.head _))))))
theorem mo_f {P : Params} {ex : List (Addr × Obj)} {a : BA} {g : Sg} : (a.f, instObj 191 a.df) ∈ ex ++ obs P a g := List.mem_append_right _ mb_f
theorem mb_df {P : Params} {a : BA} {g : Sg} : (a.df, dictOf (fEnt P a) 2) ∈ obs P a g := .tail _ (.tail _ (.tail _ (.tail _ (.tail _ (.tail _ (.tail _ (.head _)))))))
theorem mo_df {P : Params} {ex : List (Addr × Obj)} {a : BA} {g : Sg} : (a.df, dictOf (fEnt P a) 2) ∈ ex ++ obs P a g := List.mem_append_right _ mb_df
theorem mb_er {P : Params} {a : BA} {g : Sg} : (a.er, listOf [].toArray 0) ∈ obs P a g := .tail _ (.tail _ (.tail _ (.tail _ (.tail _ (.tail _ (.tail _ (.tail _ (.head _))))))))
theorem mo_er {P : Params} {ex : List (Addr × Obj)} {a : BA} {g : Sg} : (a.er, listOf [].toArray 0) ∈ ex ++ obs P a g := List.mem_append_right _ mb_er
theorem mb_si {P : Params} {a : BA} {g : Sg} : (a.si, listOf g.si.toArray g.e0) ∈ obs P a g := .tail _ (.tail _ (.tail _ (.tail _ (.tail _ (.tail _ (.tail _ (.tail _ (.tail _ (.head _)))))))))
theorem mo_si {P : Params} {ex : List (Addr × Obj)} {a : BA} {g : Sg} : (a.si, listOf g.si.toArray g.e0) ∈ ex ++ obs P a g := List.mem_append_right _ mb_si
theorem mb_fi {P : Params} {a : BA} {g : Sg} : (a.fi, listOf g.fi.toArray g.e1) ∈ obs P a g := .tail _ (.tail _ (.tail _ (.tail _ (.tail _ (.tail _ (.tail _ (.tail _ (.tail _ (.tail _ (.head _))))))))))
theorem mo_fi {P : Params} {ex : List (Addr × Obj)} {a : BA} {g : Sg} : (a.fi, listOf g.fi.toArray g.e1) ∈ ex ++ obs P a g := List.mem_append_right _ mb_fi
theorem mb_ki {P : Params} {a : BA} {g : Sg} : (a.ki, listOf g.ki.toArray g.e2) ∈ obs P a g := .tail _ (.tail _ (.tail _ (.tail _ (.tail _ (.tail _ (.tail _ (.tail _ (.tail _ (.tail _ (.tail _ (.head _)))))))))))
theorem mo_ki {P : Params} {ex : List (Addr × Obj)} {a : BA} {g : Sg} : (a.ki, listOf g.ki.toArray g.e2) ∈ ex ++ obs P a g := List.mem_append_right _ mb_ki
theorem mb_sp {P : Params} {a : BA} {g : Sg} : (a.sp, listOf g.sp.toArray g.e3) ∈ obs P a g := .tail _ (.tail _ (.tail _ (.tail _ (.tail _ (.tail _ (.tail _ (.tail _ (.tail _ (.tail _ (.tail _ (.tail _ (.head _))))))))))))
theorem mo_sp {P : Params} {ex : List (Addr × Obj)} {a : BA} {g : Sg} : (a.sp, listOf g.sp.toArray g.e3) ∈ ex ++ obs P a g := List.mem_append_right _ mb_sp
theorem mb_na {P : Params} {a : BA} {g : Sg} : (a.na, listOf g.na.toArray g.e4) ∈ obs P a g := .tail _ (.tail _ (.tail _ (.tail _ (.tail _ (.tail _ (.tail _ (.tail _ (.tail _ (.tail _ (.tail _ (.tail _ (.tail _ (.head _)))))))))))))
theorem mo_na {P : Params} {ex : List (Addr × Obj)} {a : BA} {g : Sg} : (a.na, listOf g.na.toArray g.e4) ∈ ex ++ obs P a g := List.mem_append_right _ mb_na
theorem mb_ar {P : Params} {a : BA} {g : Sg} : (a.ar, listOf g.ar.toArray g.e5) ∈ obs P a g := .tail _ (.tail _ (.tail _ (.tail _ (.tail _ (.tail _ (.tail _ (.tail _ (.tail _ (.tail _ (.tail _ (.tail _ (.tail _ (.tail _ (.head _))))))))))))))
theorem mo_ar {P : Params} {ex : List (Addr × Obj)} {a : BA} {g : Sg} : (a.ar, listOf g.ar.toArray g.e5) ∈ ex ++ obs P a g := List.mem_append_right _ mb_ar
theorem mb_te {P : Params} {a : BA} {g : Sg} : (a.te, listOf g.te.toArray g.e6) ∈ obs P a g := .tail _ (.tail _ (.tail _ (.tail _ (.tail _ (.tail _ (.tail _ (.tail _ (.tail _ (.tail _ (.tail _ (.tail _ (.tail _ (.tail _ (.tail _ (.head _)))))))))))))))
theorem mo_te {P : Params} {ex : List (Addr × Obj)} {a : BA} {g : Sg} : (a.te, listOf g.te.toArray g.e6) ∈ ex ++ obs P a g := List.mem_append_right _ mb_te
theorem mb_pa {P : Params} {a : BA} {g : Sg} : (a.pa, listOf g.pa.toArray g.e7) ∈ obs P a g := .tail _ (.tail _ (.tail _ (.tail _ (.tail _ (.tail _ (.tail _ (.tail _ (.tail _ (.tail _ (.tail _ (.tail _ (.tail _ (.tail _ (.tail _ (.tail _ (.head _))))))))))))))))
theorem mo_pa {P : Params} {ex : List (Addr × Obj)} {a : BA} {g : Sg} : (a.pa, listOf g.pa.toArray g.e7) ∈ ex ++ obs P a g := List.mem_append_right _ mb_pa
theorem mb_ch {P : Params} {a : BA} {g : Sg} : (a.ch, listOf (refsOf1 g.kids).toArray g.e8) ∈ obs P a g := .tail _ (.tail _ (.tail _ (.tail _ (.tail _ (.tail _ (.tail _ (.tail _ (.tail _ (.tail _ (.tail _ (.tail _ (.tail _ (.tail _ (.tail _ (.tail _ (.tail _ (.head _)))))))))))))))))
theorem mo_ch {P : Params} {ex : List (Addr × Obj)} {a : BA} {g : Sg} : (a.ch, listOf (refsOf1 g.kids).toArray g.e8) ∈ ex ++ obs P a g := List.mem_append_right _ mb_ch
theorem mb_co {P : Params} {a : BA} {g : Sg} : (a.co, g.co) ∈ obs P a g := .tail _ (.tail _ (.tail _ (.tail _ (.tail _ (.tail _ (.tail _ (.tail _ (.tail _ (.tail _ (.tail _ (.tail _ (.tail _ (.tail _ (.tail _ (.tail _ (.tail _ (.tail _ (.head _))))))))))))))))))
theorem mo_co {P : Params} {ex : List (Addr × Obj)} {a : BA} {g : Sg} : (a.co, g.co) ∈ ex ++ obs P a g := List.mem_append_right _ mb_co
noncomputable def KidAt (p : Addr × Obj) (ns : List Int) : Prop := ∃ vs n, p.2 = listOf (List.toArray vs) n ∧ IntsAre vs ns
noncomputable def All2 {α β : Type} (R : α → β → Prop) : List α → List β → Prop
  | [], [] => True
  | x :: xs, y :: ys => R x y ∧ All2 R xs ys
  | _, _ => False
theorem All2.ind {α β : Type} {R : α → β → Prop} {P : List α → List β → Prop} (h0 : P [] []) (h1 : ∀ x y xs ys, R x y → All2 R xs ys → P xs ys → P (x :: xs) (y :: ys)) {xs : List α} {ys : List β} (h : All2 R xs ys) : P xs ys := by
  induction xs generalizing ys with
  | nil => cases ys with
    | nil => exact h0
    | cons _ _ => exact h.elim
  | cons x xs ih => cases ys with
    | nil => exact h.elim
    | cons y ys => exact h1 x y xs ys h.1 h.2 (ih h.2)
noncomputable def PairAt (l : List (Addr × Obj)) (v : Value) (p : Str × Str) : Prop :=
  ∃ c t1 t2 n, v = .ref c ∧ (c, ({ cls := .type "tuple", data := .seq #[.str p.1 t1, .str p.2 t2] n } : Obj)) ∈ l
noncomputable def AttrAt (l : List (Addr × Obj)) (v : Value) (ps : List (Str × Str)) : Prop :=
  ∃ c vs n, v = .ref c ∧ (c, listOf (List.toArray vs) n) ∈ l ∧ All2 (PairAt l) vs ps

noncomputable def encC (c : List (Int × Int)) : List (PyData × PyData) := c.map fun p => (PyData.int p.1, PyData.int p.2)
noncomputable def IDict (prog : Program) (w : World) (o : Obj) (c : List (Int × Int)) : Prop := ∃ kvs, o.IsDictOf (intKind prog w) kvs ∧ FlatPairs PyData.int kvs (encC c)

structure Sv (prog : Program) (w : World) (a : BA) (g : Sg) (S : St) : Prop where
  fo : g.fo = S.foster
  si : IntsAre g.si S.stack
  fi : IntsAre g.fi S.fmt
  ki : StrsAre g.ki S.kinds
  sp : StrsAre g.sp S.spaces
  na : StrsAre g.na S.names
  ar : All2 (AttrAt g.inn) g.ar S.attrs
  te : StrsAre g.te S.texts
  pa : IntsAre g.pa S.parents
  ch : All2 KidAt g.kids S.children
  co : IDict prog w g.co S.contents
  nosys : (a.co == sysModules) = false
  kp : ∀ p ∈ S.keep, p ∈ g.inn

inductive Bw (prog : Program) (w : World) (h₀ : Heap) (L : Addr) (h : Heap) (ex : List (Addr × Obj)) (a : BA) (S : St) : Prop
  | mk (g : Sg) (N : News h₀ L h (ex ++ obs w.params a g)) (Nd : ((ex ++ obs w.params a g).map (·.1)).Nodup) (V : Sv prog w a g S) : Bw prog w h₀ L h ex a S

theorem upd_of {d : Addr} {o o' : Obj} : ∀ {pre post : List (Addr × Obj)}, ((pre ++ (d, o) :: post).map (·.1)).Nodup → Upd d o o' (pre ++ (d, o) :: post) (pre ++ (d, o') :: post)
  | [], post, h => .head fun p hp e => by
    rw [List.nil_append, List.map_cons, List.nodup_cons] at h
    exact h.1 (List.mem_map.mpr ⟨p, hp, e⟩)
  | q :: pre, post, h => by
    rw [List.cons_append, List.map_cons, List.nodup_cons] at h
    refine .tail (fun e => h.1 ?_) (upd_of h.2)
    rw [e, List.map_append]
    exact List.mem_append_right _ (by simp)
theorem app3 {α : Type} (ex pre : List α) (x : α) (post : List α) : ex ++ (pre ++ x :: post) = (ex ++ pre) ++ x :: post := (List.append_assoc ..).symm
theorem upd_in {d : Addr} {o o' : Obj} (ex pre post : List (Addr × Obj)) (h : ((ex ++ (pre ++ (d, o) :: post)).map (·.1)).Nodup) : Upd d o o' (ex ++ (pre ++ (d, o) :: post)) (ex ++ (pre ++ (d, o') :: post)) := by
  rw [app3] at h; rw [app3, app3]; exact upd_of h
structure CV where
  prog : Program
  w : World
  A : Around
  h₀ : Heap
  L : Addr
  m : Str → Option Value
  sh : Heap
  sg : Array GenState
  sd : Drawn
  stk : Nat
  so : OsState
  ex : List (Addr × Obj)
  news : List (Addr × Obj)
  a : BA
  S : St
  Q : Value → Shared → Prop
  E : Value → Shared → Prop
noncomputable def cv0 : CV := ⟨default, aWorld 1, callerA, default, 0, fun _ => none, default, #[], {}, 0, default, [], [], ⟨0, 0, 0, 0, 0, 0, 0, 0, 0, 0, 0, 0, 0, 0, 0, 0, 0, 0, 0, fun _ => 0, fun _ => .none⟩, {}, fun _ _ => True, fun _ _ => True⟩
theorem eps_all {α : Type} (h : Nonempty α) {P : α → Prop} (hc : P (@Classical.epsilon α h fun v => ¬ P v)) (c : α) : P c :=
  Classical.byContradiction fun hn => (Classical.epsilon_spec (p := fun v => ¬ P v) ⟨c, hn⟩) hc

theorem upd_keys {d : Addr} {o o' : Obj} {l l' : List (Addr × Obj)} (U : Upd d o o' l l') : l'.map (·.1) = l.map (·.1) := by
  obtain ⟨pre, post, rfl, rfl, _, _⟩ := U.split
  simp
theorem nodup_eq {l l' : List (Addr × Obj)} (e : l'.map (·.1) = l.map (·.1)) (h : (l.map (·.1)).Nodup) : (l'.map (·.1)).Nodup := by rw [e]; exact h

theorem ints_any {k : Int} {vs : List Value} {ns : List Int} (h : IntsAre vs ns) : vs.any (isInt k) = decide (k ∈ ns) := by
  induction h with
  | nil => rfl
  | cons n t _ ih =>
    rw [List.any_cons, ih]
    show ((n == k) || _) = _
    by_cases e : n = k
    · subst e; simp
    · have e' : ¬ k = n := fun q => e q.symm
      simp [e, e']
theorem ints_eraseIdx {vs : List Value} {ns : List Int} (j : Nat) (h : IntsAre vs ns) : IntsAre (vs.eraseIdx j) (ns.eraseIdx j) := by
  induction h generalizing j with
  | nil => simpa using IntsAre.nil
  | cons n t h ih => cases j with
    | zero => exact h
    | succ j => exact .cons n t (ih j)
theorem erase_idxOf (k : Int) : ∀ (ns : List Int), ns.eraseIdx (ns.idxOf k) = ns.erase k
  | [] => rfl
  | n :: ns => by
    by_cases e : n = k
    · subst e; simp
    · have hb : (n == k) = false := by simpa using e
      rw [List.idxOf_cons, List.erase_cons, hb]
      simp only [cond_false, Bool.false_eq_true, if_false, List.eraseIdx_cons_succ, erase_idxOf k ns]
theorem ints_erase {vs : List Value} {ns : List Int} {k : Int} (h : IntsAre vs ns) : IntsAre (vs.eraseIdx (ns.idxOf k)) (ns.erase k) := by
  rw [← erase_idxOf]; exact ints_eraseIdx _ h
theorem ints_append {vs ws : List Value} {ns ms : List Int} (h : IntsAre vs ns) (h' : IntsAre ws ms) : IntsAre (vs ++ ws) (ns ++ ms) := by
  induction h with
  | nil => exact h'
  | cons n t _ ih => exact .cons n t ih
theorem strs_append {vs ws : List Value} {ns ms : List Str} (h : StrsAre vs ns) (h' : StrsAre ws ms) : StrsAre (vs ++ ws) (ns ++ ms) := by
  induction h with
  | nil => exact h'
  | cons n t _ ih => exact .cons n t ih
noncomputable def putIn {α : Type} (l : List α) (k : Nat) (y : α) : List α := l.take k ++ y :: l.drop k
theorem ints_putIn {vs : List Value} {ns : List Int} (k : Nat) {x : Int} {t : Tok} (h : IntsAre vs ns) : IntsAre (putIn vs k (.int x t)) (putIn ns k x) :=
  ints_append (h.take k) (.cons x t (h.drop k))
theorem length_putIn {α : Type} (l : List α) (k : Nat) (y : α) : (putIn l k y).length = l.length + 1 := by
  unfold putIn; rw [List.length_append, List.length_cons, List.length_take, List.length_drop, ← Nat.add_assoc, Nat.min_comm, Nat.add_comm (min _ _), Nat.sub_add_min_cancel]
theorem kl_ins_put (l : List Value) (x : Int) (y : Value) (h0 : 0 ≤ x) (h1 : x ≤ l.length) : kl_ins l x y = putIn l x.toNat y := by
  unfold kl_ins putIn
  rw [if_neg (by (first | lia | omega)), Nat.min_eq_left (by (first | lia | omega))]

section
variable {prog : Program} {w : World} {A : Around} {E : Value → Shared → Prop} {sh : Heap} {sg : Array GenState} {sd : Drawn} {stk : Nat} {so : OsState} {h₀ : Heap} {L D : Addr} {m : Str → Option Value} {news news' : List (Addr × Obj)} {vs : List Value} {ns : List Int} {xs : List Str} {n : Nat} {k : Int} {t u : Tok} {value slice : PySem.Expr}

theorem l_len {c : Nat} {Q : Value → Shared → Prop} (N : News h₀ L sh news) (hm : (D, listOf vs.toArray n) ∈ news) (hc : vs.length = c) (hz : c ≤ 1000000) (h : ∀ u tk, Q (.int (c : Int) u) (Shared.mk sh sg sd tk so)) :
    wpAny (model prog w) A (call (.builtin "len") [.ref D]) Q E (Shared.mk sh sg sd stk so) := by
  subst hc
  exact len_list (PySem.IsL.isList (n := n) (N _ hm).1) (by rw [List.size_toArray]; (first | lia | omega)) (by rw [List.size_toArray]; exact h _ _)
theorem l_in {Q : Value → Shared → Prop} (N : News h₀ L sh news) (hm : (D, listOf vs.toArray n) ∈ news) (hi : IntsAre vs ns) (h : Q (.bool (decide (k ∈ ns))) (Shared.mk sh sg sd stk so)) :
    wpAny (model prog w) A (compareOp .In (.int k t) (.ref D)) Q E (Shared.mk sh sg sd stk so) :=
  SeqInW.in_listW (isInt k) (fun y hy => eq_isInt k t hi y (by simpa using hy)) (PySem.IsL.isList (n := n) (N _ hm).1) (by rw [← Array.any_toList]; simpa [ints_any hi] using h)
theorem l_notin {Q : Value → Shared → Prop} (N : News h₀ L sh news) (hm : (D, listOf vs.toArray n) ∈ news) (hi : IntsAre vs ns) (h : Q (.bool (!decide (k ∈ ns))) (Shared.mk sh sg sd stk so)) :
    wpAny (model prog w) A (compareOp .NotIn (.int k t) (.ref D)) Q E (Shared.mk sh sg sd stk so) :=
  SeqInW.notIn_listW (isInt k) (fun y hy => eq_isInt k t hi y (by simpa using hy)) (PySem.IsL.isList (n := n) (N _ hm).1) (by rw [← Array.any_toList]; simpa [ints_any hi] using h)
theorem l_index {Q : Value → Shared → Prop} (N : News h₀ L sh news) (hm : (D, listOf vs.toArray n) ∈ news) (hi : IntsAre vs ns) (hk : k ∈ ns) (hz : ns.length ≤ 1000000)
    (h : ∀ u tk, Q (.int (ns.idxOf k : Nat) u) (Shared.mk sh sg sd tk so)) : wpAny (model prog w) A (call (.builtin "list.index") [.ref D, .int k t]) Q E (Shared.mk sh sg sd stk so) := by
  have hlen := hi.length
  have hj : ns.idxOf k < ns.length := List.idxOf_lt_length_iff.mpr hk
  refine call_meets PySem.F.slot_list_index ⟨_, (N _ hm).1, rfl⟩ PySem.F.entry_list_index (PySem.F.args_list_index_2 _ _)
    (MeetsSeq.list_index D vs.toArray n (.int k t) (isInt k) (fun y hy => eq_isInt k t hi y (by simpa using hy)) (ns.idxOf k) (by simpa [hlen] using hj) (by (first | lia | omega)) ?_ ?_) ⟨(N _ hm).1, h _ _⟩
  · show isInt k vs[ns.idxOf k] = true
    rw [isInt_at k hi _ (by (first | lia | omega)) hj]
    simp [List.getElem_idxOf hj]
  · intro j hjs hlt
    show isInt k vs[j] = false
    rw [isInt_at k hi j (by simpa using hjs) (by (first | lia | omega))]
    exact ne_of_lt_idxOf hlt _
theorem l_remove {Q : Value → Shared → Prop} (F : Fr h₀ L sh m) (N : News h₀ L sh news) (U : Upd D (listOf vs.toArray n) (listOf (vs.eraseIdx (ns.idxOf k)).toArray (n + 1)) news news') (hi : IntsAre vs ns) (hk : k ∈ ns) (hz : ns.length ≤ 1000000)
    (h : ∀ h', Fr h₀ L h' m → News h₀ L h' news' → news'.map (·.1) = news.map (·.1) → Q .none (Shared.mk h' sg sd stk so)) : wpAny (model prog w) A (call (.builtin "list.remove") [.ref D, .int k t]) Q E (Shared.mk sh sg sd stk so) := by
  have ke := upd_keys U
  obtain ⟨pre, post, rfl, rfl, a', b'⟩ := U.split
  have z := N (D, listOf vs.toArray n) (List.mem_append.mpr (.inr (.head _)))
  have hlen := hi.length
  have hj : ns.idxOf k < ns.length := List.idxOf_lt_length_iff.mpr hk
  have hz' : vs.toArray.size ≤ sizeLine := by rw [List.size_toArray, sizeLine_eq]; (first | lia | omega)
  refine call_meets PySem.F.slot_list_remove ⟨_, z.1, rfl⟩ PySem.F.entry_list_remove (PySem.F.args_list_remove_2 _ _)
    (MeetsSeq.list_remove D vs.toArray n (.int k t) (isInt k) (fun y hy => eq_isInt k t hi y (by simpa using hy)) (ns.idxOf k) (by simpa [hlen] using hj) ?_ ?_ hz')
    ⟨z.1, h _ (F.change (Heap.SameBut.update ..) z.2.1 z.2.2) (ki_turn _ N a' b' ?_ ?_) ke⟩
  · show isInt k vs[ns.idxOf k] = true
    rw [isInt_at k hi _ (by (first | lia | omega)) hj]
    simp [List.getElem_idxOf hj]
  · intro j hjs hlt
    show isInt k vs[j] = false
    rw [isInt_at k hi j (by simpa using hjs) (by (first | lia | omega))]
    exact ne_of_lt_idxOf hlt _
  · show vs.toArray.eraseIdxIfInBounds (ns.idxOf k) = (vs.eraseIdx (ns.idxOf k)).toArray
    apply Array.toList_inj.mp
    simp [Array.toList_eraseIdxIfInBounds]
  · have hq : (vs.eraseIdx (ns.idxOf k)).toArray.size ≠ vs.toArray.size := by
      rw [List.size_toArray, List.size_toArray, List.length_eraseIdx, if_pos (by (first | lia | omega))]; (first | lia | omega)
    rw [if_neg (by simpa using hq)]
theorem l_insert {y : Value} {Q : Value → Shared → Prop} (F : Fr h₀ L sh m) (N : News h₀ L sh news) (U : Upd D (listOf vs.toArray n) (listOf (putIn vs k.toNat y).toArray (n + 1)) news news') (h0 : 0 ≤ k) (h1 : k ≤ vs.length) (hz : vs.length ≤ 1000000)
    (h : ∀ h', Fr h₀ L h' m → News h₀ L h' news' → news'.map (·.1) = news.map (·.1) → Q .none (Shared.mk h' sg sd stk so)) : wpAny (model prog w) A (call (.builtin "list.insert") [.ref D, .int k t, y]) Q E (Shared.mk sh sg sd stk so) := by
  refine kl_insert F N ?_ (kl_ins_put _ _ _ h0 h1) U (by rw [sizeLine_eq]; show vs.length ≤ _; (first | lia | omega)) (fun h' F' N' => h h' F' N' (upd_keys U))
  simp only [Builtin.List.listFitsIndex, Bool.and_eq_true, decide_eq_true_eq]
  first | lia | omega
theorem l_append {x : Value} {Q : Value → Shared → Prop} (F : Fr h₀ L sh m) (N : News h₀ L sh news) (U : Upd D (listOf vs.toArray n) (listOf (vs ++ [x]).toArray (n + 1)) news news') (hz : vs.length ≤ 1000000)
    (h : ∀ h', Fr h₀ L h' m → News h₀ L h' news' → news'.map (·.1) = news.map (·.1) → Q .none (Shared.mk h' sg sd stk so)) : wpAny (model prog w) A (call (.builtin "list.append") [.ref D, x]) Q E (Shared.mk sh sg sd stk so) :=
  append_K (its := vs.toArray) (n := n) F N (by rw [show vs.toArray.push x = (vs ++ [x]).toArray from by simp]; exact U) (fun h' F' N' => h h' F' N' (upd_keys U)) (by rw [List.size_toArray, sizeLine_eq]; (first | lia | omega))
theorem l_set {v : Value} {Q : Unit → Shared → Prop} (F : Fr h₀ L sh m) (N : News h₀ L sh news) (U : Upd D (listOf vs.toArray n) (listOf (vs.set k.toNat v).toArray n) news news') (h0 : 0 ≤ k) (h1 : k < vs.length) (hz : vs.length ≤ 1000000)
    (h : ∀ h', Fr h₀ L h' m → News h₀ L h' news' → news'.map (·.1) = news.map (·.1) → Q () (Shared.mk h' sg sd stk so)) : wpAny (model prog w) A (setItem (.ref D) (.int k t) v) Q E (Shared.mk sh sg sd stk so) := by
  have ke := upd_keys U
  obtain ⟨pre, post, rfl, rfl, a, b⟩ := U.split
  have z := N (D, listOf vs.toArray n) (List.mem_append.mpr (.inr (.head _)))
  refine ki_setAt z.1 h0 (by (first | lia | omega)) (by rw [List.size_toArray]; exact h1) (h _ (F.change (Heap.SameBut.update ..) z.2.1 z.2.2) (ki_turn _ N a b ?_ ?_) ke)
  · show vs.toArray.setIfInBounds k.toNat v = (vs.set k.toNat v).toArray
    apply Array.toList_inj.mp
    simp
  · simp
theorem l_subv {x : Value} {Q : Value → Shared → Prop} (N : News h₀ L sh news) (hm : (D, listOf vs.toArray n) ∈ news) (h0 : 0 ≤ k) (h1 : k < 1000000) (hx : vs[k.toNat]? = some x) (h : Q x (Shared.mk sh sg sd stk so))
    (hs : subscripted slice false (.ref D) (.int k u) = operate [.ref D, .int k u] (getItem (.ref D) (.int k u))) :
    wpAny (model prog w) A (subscriptTail value slice (.ref D) (.int k u)) Q E (Shared.mk sh sg sd stk so) := by
  have hl : sh.IsList D vs.toArray := PySem.IsL.isList (n := n) (N _ hm).1
  exact tail_any hl.typeIs slot_list_getitem.lookup (wpAny_getItem_list hl h0 (by (first | lia | omega)) (by simpa using hx) h) hs
theorem l_sub {Q : Value → Shared → Prop} (N : News h₀ L sh news) (hm : (D, listOf vs.toArray n) ∈ news) (hi : IntsAre vs ns) (h0 : 0 ≤ k) (h1 : k < ns.length) (hz : k < 1000000) (h : ∀ t, Q (.int (ns.getD k.toNat 0) t) (Shared.mk sh sg sd stk so))
    (hs : subscripted slice false (.ref D) (.int k u) = operate [.ref D, .int k u] (getItem (.ref D) (.int k u))) :
    wpAny (model prog w) A (subscriptTail value slice (.ref D) (.int k u)) Q E (Shared.mk sh sg sd stk so) := ksa_sub N hm hi h0 h1 (by (first | lia | omega)) h hs
theorem l_subs {Q : Value → Shared → Prop} (N : News h₀ L sh news) (hm : (D, listOf vs.toArray n) ∈ news) (hi : StrsAre vs xs) (h0 : 0 ≤ k) (h1 : k < xs.length) (hz : k < 1000000) (h : ∀ t, Q (.str (xs.getD k.toNat Str.empty) t) (Shared.mk sh sg sd stk so))
    (hs : subscripted slice false (.ref D) (.int k u) = operate [.ref D, .int k u] (getItem (.ref D) (.int k u))) :
    wpAny (model prog w) A (subscriptTail value slice (.ref D) (.int k u)) Q E (Shared.mk sh sg sd stk so) := by
  obtain ⟨t, ht⟩ := hi.get k.toNat (xs.getD k.toNat Str.empty) (by rw [List.getD_eq_getElem?_getD]; rw [List.getElem?_eq_getElem ((Int.toNat_lt h0).mpr h1)]; rfl)
  exact l_subv N hm h0 hz ht (h t) hs

theorem l_removeN {Q : Value → Shared → Prop} (F : Fr h₀ L sh m) (N : News h₀ L sh news) (Nd : (news.map (·.1)).Nodup) (U : Upd D (listOf vs.toArray n) (listOf (vs.eraseIdx (ns.idxOf k)).toArray (n + 1)) news news') (hi : IntsAre vs ns) (hk : k ∈ ns) (hz : ns.length ≤ 1000000)
    (h : ∀ h', Fr h₀ L h' m → News h₀ L h' news' → (news'.map (·.1)).Nodup → Q .none (Shared.mk h' sg sd stk so)) : wpAny (model prog w) A (call (.builtin "list.remove") [.ref D, .int k t]) Q E (Shared.mk sh sg sd stk so) :=
  l_remove F N U hi hk hz fun h' F' N' ke => h h' F' N' (nodup_eq ke Nd)
theorem l_insertN {y : Value} {Q : Value → Shared → Prop} (F : Fr h₀ L sh m) (N : News h₀ L sh news) (Nd : (news.map (·.1)).Nodup) (U : Upd D (listOf vs.toArray n) (listOf (putIn vs k.toNat y).toArray (n + 1)) news news') (h0 : 0 ≤ k) (h1 : k ≤ vs.length) (hz : vs.length ≤ 1000000)
    (h : ∀ h', Fr h₀ L h' m → News h₀ L h' news' → (news'.map (·.1)).Nodup → Q .none (Shared.mk h' sg sd stk so)) : wpAny (model prog w) A (call (.builtin "list.insert") [.ref D, .int k t, y]) Q E (Shared.mk sh sg sd stk so) :=
  l_insert F N U h0 h1 hz fun h' F' N' ke => h h' F' N' (nodup_eq ke Nd)
theorem l_appendN {x : Value} {Q : Value → Shared → Prop} (F : Fr h₀ L sh m) (N : News h₀ L sh news) (Nd : (news.map (·.1)).Nodup) (U : Upd D (listOf vs.toArray n) (listOf (vs ++ [x]).toArray (n + 1)) news news') (hz : vs.length ≤ 1000000)
    (h : ∀ h', Fr h₀ L h' m → News h₀ L h' news' → (news'.map (·.1)).Nodup → Q .none (Shared.mk h' sg sd stk so)) : wpAny (model prog w) A (call (.builtin "list.append") [.ref D, x]) Q E (Shared.mk sh sg sd stk so) :=
  l_append F N U hz fun h' F' N' ke => h h' F' N' (nodup_eq ke Nd)
theorem l_setN {v : Value} {Q : Unit → Shared → Prop} (F : Fr h₀ L sh m) (N : News h₀ L sh news) (Nd : (news.map (·.1)).Nodup) (U : Upd D (listOf vs.toArray n) (listOf (vs.set k.toNat v).toArray n) news news') (h0 : 0 ≤ k) (h1 : k < vs.length) (hz : vs.length ≤ 1000000)
    (h : ∀ h', Fr h₀ L h' m → News h₀ L h' news' → (news'.map (·.1)).Nodup → Q () (Shared.mk h' sg sd stk so)) : wpAny (model prog w) A (setItem (.ref D) (.int k t) v) Q E (Shared.mk sh sg sd stk so) :=
  l_set F N U h0 h1 hz fun h' F' N' ke => h h' F' N' (nodup_eq ke Nd)

variable {ex : List (Addr × Obj)} {a : BA} {g : Sg} {P : Params}
theorem u_si {vs' : List Value} {n' : Nat} (h : ((ex ++ obs P a g).map (·.1)).Nodup) : Upd a.si (listOf g.si.toArray g.e0) (listOf vs'.toArray n') (ex ++ obs P a g) (ex ++ obs P a { g with si := vs', e0 := n' }) :=
  upd_in ex (fixO P a g.fo) _ h
theorem u_fi {vs' : List Value} {n' : Nat} (h : ((ex ++ obs P a g).map (·.1)).Nodup) : Upd a.fi (listOf g.fi.toArray g.e1) (listOf vs'.toArray n') (ex ++ obs P a g) (ex ++ obs P a { g with fi := vs', e1 := n' }) :=
  upd_in ex (fixO P a g.fo ++ [(a.si, listOf g.si.toArray g.e0)]) _ h
theorem u_ki {vs' : List Value} {n' : Nat} (h : ((ex ++ obs P a g).map (·.1)).Nodup) : Upd a.ki (listOf g.ki.toArray g.e2) (listOf vs'.toArray n') (ex ++ obs P a g) (ex ++ obs P a { g with ki := vs', e2 := n' }) :=
  upd_in ex (fixO P a g.fo ++ [(a.si, listOf g.si.toArray g.e0), (a.fi, listOf g.fi.toArray g.e1)]) _ h
theorem u_sp {vs' : List Value} {n' : Nat} (h : ((ex ++ obs P a g).map (·.1)).Nodup) : Upd a.sp (listOf g.sp.toArray g.e3) (listOf vs'.toArray n') (ex ++ obs P a g) (ex ++ obs P a { g with sp := vs', e3 := n' }) :=
  upd_in ex (fixO P a g.fo ++ [(a.si, listOf g.si.toArray g.e0), (a.fi, listOf g.fi.toArray g.e1), (a.ki, listOf g.ki.toArray g.e2)]) _ h
theorem u_na {vs' : List Value} {n' : Nat} (h : ((ex ++ obs P a g).map (·.1)).Nodup) : Upd a.na (listOf g.na.toArray g.e4) (listOf vs'.toArray n') (ex ++ obs P a g) (ex ++ obs P a { g with na := vs', e4 := n' }) :=
  upd_in ex (fixO P a g.fo ++ [(a.si, listOf g.si.toArray g.e0), (a.fi, listOf g.fi.toArray g.e1), (a.ki, listOf g.ki.toArray g.e2), (a.sp, listOf g.sp.toArray g.e3)]) _ h
theorem u_ar {vs' : List Value} {n' : Nat} (h : ((ex ++ obs P a g).map (·.1)).Nodup) : Upd a.ar (listOf g.ar.toArray g.e5) (listOf vs'.toArray n') (ex ++ obs P a g) (ex ++ obs P a { g with ar := vs', e5 := n' }) :=
  upd_in ex (fixO P a g.fo ++ [(a.si, listOf g.si.toArray g.e0), (a.fi, listOf g.fi.toArray g.e1), (a.ki, listOf g.ki.toArray g.e2), (a.sp, listOf g.sp.toArray g.e3), (a.na, listOf g.na.toArray g.e4)]) _ h
theorem u_te {vs' : List Value} {n' : Nat} (h : ((ex ++ obs P a g).map (·.1)).Nodup) : Upd a.te (listOf g.te.toArray g.e6) (listOf vs'.toArray n') (ex ++ obs P a g) (ex ++ obs P a { g with te := vs', e6 := n' }) :=
  upd_in ex (fixO P a g.fo ++ [(a.si, listOf g.si.toArray g.e0), (a.fi, listOf g.fi.toArray g.e1), (a.ki, listOf g.ki.toArray g.e2), (a.sp, listOf g.sp.toArray g.e3), (a.na, listOf g.na.toArray g.e4), (a.ar, listOf g.ar.toArray g.e5)]) _ h
theorem u_pa {vs' : List Value} {n' : Nat} (h : ((ex ++ obs P a g).map (·.1)).Nodup) : Upd a.pa (listOf g.pa.toArray g.e7) (listOf vs'.toArray n') (ex ++ obs P a g) (ex ++ obs P a { g with pa := vs', e7 := n' }) :=
  upd_in ex (fixO P a g.fo ++ [(a.si, listOf g.si.toArray g.e0), (a.fi, listOf g.fi.toArray g.e1), (a.ki, listOf g.ki.toArray g.e2), (a.sp, listOf g.sp.toArray g.e3), (a.na, listOf g.na.toArray g.e4), (a.ar, listOf g.ar.toArray g.e5), (a.te, listOf g.te.toArray g.e6)]) _ h
end

noncomputable def Then (M : Model) (A : Around) (rest : List Stmt) (env : Env) (Q : Flow → Shared → Prop) (E : Value → Shared → Prop) (f : Flow) (s' : Shared) : Prop :=
  match f with | .next => wpAny M A (execs rest env) Q E s' | f => Q f s'
section
variable {M : Model} {A : Around} {st : Stmt} {rest : List Stmt} {env : Env} {Q : Flow → Shared → Prop} {E : Value → Shared → Prop} {sh : Heap} {sg : Array GenState} {sd : Drawn} {stk : Nat} {so : OsState} {v : Value}
theorem execs_then (h : wpAny M A (exec st env) (Then M A rest env Q E) E (Shared.mk sh sg sd stk so)) : wpAny M A (execs (st :: rest) env) Q E (Shared.mk sh sg sd stk so) :=
  wpAny_execs_cons (wpAny_mono h (fun f s' x => by cases f <;> exact x) fun _ _ x => x)
theorem execs_thenN {h₀ h : Heap} {L : Addr} {m : Str → Option Value} {g : Array GenState} {d : Drawn} {o : OsState} (F : Fr h₀ L h m) (H : ∀ tk, wpAny M A (exec st env) (Then M A rest env Q E) E (Shared.mk h g d tk o))
    (e : s = Shared.mk h g d s.toks o) : wpAny M A (execs (st :: rest) env) Q E s := by
  rw [e]; exact execs_then (H _)
theorem Then.nx (h : wpAny M A (execs rest env) Q E (Shared.mk sh sg sd stk so)) : Then M A rest env Q E .next (Shared.mk sh sg sd stk so) := h
theorem Then.rt (h : Q (.ret v) (Shared.mk sh sg sd stk so)) : Then M A rest env Q E (.ret v) (Shared.mk sh sg sd stk so) := h
end
theorem nd_tl {d : Addr} {l : List Addr} (h : (d :: l).Nodup) : l.Nodup := (List.nodup_cons.mp h).2
example : True := by
  k_with "o m nd" => (((try dsimp only [List.map]); first | assumption | exact nd_tl (by assumption) | exact nd_tl (nd_tl (by assumption)) | exact nd_tl (nd_tl (nd_tl (by assumption)))))
  trivial
theorem mh {α : Type} {x : α} {l : List α} : x ∈ x :: l := .head _
theorem mt {α : Type} {a x : α} {l : List α} (h : x ∈ l) : x ∈ a :: l := .tail _ h
theorem ix_0 {α : Type} {x : α} {l : List α} : x ∈ x :: l := .head _
theorem ix_1 {α : Type} {a1 x : α} {l : List α} : x ∈ a1 :: x :: l := .tail _ (.head _)
theorem sk_1 {α : Type} {a1 x : α} {l : List α} (h : x ∈ l) : x ∈ a1 :: l := .tail _ h
theorem ix_2 {α : Type} {a1 a2 x : α} {l : List α} : x ∈ a1 :: a2 :: x :: l := .tail _ (.tail _ (.head _))
theorem sk_2 {α : Type} {a1 a2 x : α} {l : List α} (h : x ∈ l) : x ∈ a1 :: a2 :: l := .tail _ (.tail _ h)
theorem ix_3 {α : Type} {a1 a2 a3 x : α} {l : List α} : x ∈ a1 :: a2 :: a3 :: x :: l := .tail _ (.tail _ (.tail _ (.head _)))
theorem sk_3 {α : Type} {a1 a2 a3 x : α} {l : List α} (h : x ∈ l) : x ∈ a1 :: a2 :: a3 :: l := .tail _ (.tail _ (.tail _ h))
theorem ix_4 {α : Type} {a1 a2 a3 a4 x : α} {l : List α} : x ∈ a1 :: a2 :: a3 :: a4 :: x :: l := .tail _ (.tail _ (.tail _ (.tail _ (.head _))))
theorem sk_4 {α : Type} {a1 a2 a3 a4 x : α} {l : List α} (h : x ∈ l) : x ∈ a1 :: a2 :: a3 :: a4 :: l := .tail _ (.tail _ (.tail _ (.tail _ h)))
theorem ix_5 {α : Type} {a1 a2 a3 a4 a5 x : α} {l : List α} : x ∈ a1 :: a2 :: a3 :: a4 :: a5 :: x :: l := .tail _ (.tail _ (.tail _ (.tail _ (.tail _ (.head _)))))
theorem sk_5 {α : Type} {a1 a2 a3 a4 a5 x : α} {l : List α} (h : x ∈ l) : x ∈ a1 :: a2 :: a3 :: a4 :: a5 :: l := .tail _ (.tail _ (.tail _ (.tail _ (.tail _ h))))
theorem ix_6 {α : Type} {a1 a2 a3 a4 a5 a6 x : α} {l : List α} : x ∈ a1 :: a2 :: a3 :: a4 :: a5 :: a6 :: x :: l := .tail _ (.tail _ (.tail _ (.tail _ (.tail _ (.tail _ (.head _))))))
theorem sk_6 {α : Type} {a1 a2 a3 a4 a5 a6 x : α} {l : List α} (h : x ∈ l) : x ∈ a1 :: a2 :: a3 :: a4 :: a5 :: a6 :: l := .tail _ (.tail _ (.tail _ (.tail _ (.tail _ (.tail _ h)))))
theorem ix_7 {α : Type} {a1 a2 a3 a4 a5 a6 a7 x : α} {l : List α} : x ∈ a1 :: a2 :: a3 :: a4 :: a5 :: a6 :: a7 :: x :: l := .tail _ (.tail _ (.tail _ (.tail _ (.tail _ (.tail _ (.tail _ (.head _)))))))
theorem sk_7 {α : Type} {a1 a2 a3 a4 a5 a6 a7 x : α} {l : List α} (h : x ∈ l) : x ∈ a1 :: a2 :: a3 :: a4 :: a5 :: a6 :: a7 :: l := .tail _ (.tail _ (.tail _ (.tail _ (.tail _ (.tail _ (.tail _ h))))))
theorem ix_8 {α : Type} {a1 a2 a3 a4 a5 a6 a7 a8 x : α} {l : List α} : x ∈ a1 :: a2 :: a3 :: a4 :: a5 :: a6 :: a7 :: a8 :: x :: l := .tail _ (.tail _ (.tail _ (.tail _ (.tail _ (.tail _ (.tail _ (.tail _ (.head _))))))))
theorem sk_8 {α : Type} {a1 a2 a3 a4 a5 a6 a7 a8 x : α} {l : List α} (h : x ∈ l) : x ∈ a1 :: a2 :: a3 :: a4 :: a5 :: a6 :: a7 :: a8 :: l := .tail _ (.tail _ (.tail _ (.tail _ (.tail _ (.tail _ (.tail _ (.tail _ h)))))))
theorem ix_9 {α : Type} {a1 a2 a3 a4 a5 a6 a7 a8 a9 x : α} {l : List α} : x ∈ a1 :: a2 :: a3 :: a4 :: a5 :: a6 :: a7 :: a8 :: a9 :: x :: l := .tail _ (.tail _ (.tail _ (.tail _ (.tail _ (.tail _ (.tail _ (.tail _ (.tail _ (.head _)))))))))
theorem sk_9 {α : Type} {a1 a2 a3 a4 a5 a6 a7 a8 a9 x : α} {l : List α} (h : x ∈ l) : x ∈ a1 :: a2 :: a3 :: a4 :: a5 :: a6 :: a7 :: a8 :: a9 :: l := .tail _ (.tail _ (.tail _ (.tail _ (.tail _ (.tail _ (.tail _ (.tail _ (.tail _ h))))))))
theorem ix_10 {α : Type} {a1 a2 a3 a4 a5 a6 a7 a8 a9 a10 x : α} {l : List α} : x ∈ a1 :: a2 :: a3 :: a4 :: a5 :: a6 :: a7 :: a8 :: a9 :: a10 :: x :: l := .tail _ (.tail _ (.tail _ (.tail _ (.tail _ (.tail _ (.tail _ (.tail _ (.tail _ (.tail _ (.head _))))))))))
theorem sk_10 {α : Type} {a1 a2 a3 a4 a5 a6 a7 a8 a9 a10 x : α} {l : List α} (h : x ∈ l) : x ∈ a1 :: a2 :: a3 :: a4 :: a5 :: a6 :: a7 :: a8 :: a9 :: a10 :: l := .tail _ (.tail _ (.tail _ (.tail _ (.tail _ (.tail _ (.tail _ (.tail _ (.tail _ (.tail _ h)))))))))
theorem ix_11 {α : Type} {a1 a2 a3 a4 a5 a6 a7 a8 a9 a10 a11 x : α} {l : List α} : x ∈ a1 :: a2 :: a3 :: a4 :: a5 :: a6 :: a7 :: a8 :: a9 :: a10 :: a11 :: x :: l := .tail _ (.tail _ (.tail _ (.tail _ (.tail _ (.tail _ (.tail _ (.tail _ (.tail _ (.tail _ (.tail _ (.head _)))))))))))
theorem sk_11 {α : Type} {a1 a2 a3 a4 a5 a6 a7 a8 a9 a10 a11 x : α} {l : List α} (h : x ∈ l) : x ∈ a1 :: a2 :: a3 :: a4 :: a5 :: a6 :: a7 :: a8 :: a9 :: a10 :: a11 :: l := .tail _ (.tail _ (.tail _ (.tail _ (.tail _ (.tail _ (.tail _ (.tail _ (.tail _ (.tail _ (.tail _ h))))))))))
theorem ix_12 {α : Type} {a1 a2 a3 a4 a5 a6 a7 a8 a9 a10 a11 a12 x : α} {l : List α} : x ∈ a1 :: a2 :: a3 :: a4 :: a5 :: a6 :: a7 :: a8 :: a9 :: a10 :: a11 :: a12 :: x :: l := .tail _ (.tail _ (.tail _ (.tail _ (.tail _ (.tail _ (.tail _ (.tail _ (.tail _ (.tail _ (.tail _ (.tail _ (.head _))))))))))))
theorem sk_12 {α : Type} {a1 a2 a3 a4 a5 a6 a7 a8 a9 a10 a11 a12 x : α} {l : List α} (h : x ∈ l) : x ∈ a1 :: a2 :: a3 :: a4 :: a5 :: a6 :: a7 :: a8 :: a9 :: a10 :: a11 :: a12 :: l := .tail _ (.tail _ (.tail _ (.tail _ (.tail _ (.tail _ (.tail _ (.tail _ (.tail _ (.tail _ (.tail _ (.tail _ h)))))))))))
theorem ix_13 {α : Type} {a1 a2 a3 a4 a5 a6 a7 a8 a9 a10 a11 a12 a13 x : α} {l : List α} : x ∈ a1 :: a2 :: a3 :: a4 :: a5 :: a6 :: a7 :: a8 :: a9 :: a10 :: a11 :: a12 :: a13 :: x :: l := .tail _ (.tail _ (.tail _ (.tail _ (.tail _ (.tail _ (.tail _ (.tail _ (.tail _ (.tail _ (.tail _ (.tail _ (.tail _ (.head _)))))))))))))
theorem sk_13 {α : Type} {a1 a2 a3 a4 a5 a6 a7 a8 a9 a10 a11 a12 a13 x : α} {l : List α} (h : x ∈ l) : x ∈ a1 :: a2 :: a3 :: a4 :: a5 :: a6 :: a7 :: a8 :: a9 :: a10 :: a11 :: a12 :: a13 :: l := .tail _ (.tail _ (.tail _ (.tail _ (.tail _ (.tail _ (.tail _ (.tail _ (.tail _ (.tail _ (.tail _ (.tail _ (.tail _ h))))))))))))
theorem ix_14 {α : Type} {a1 a2 a3 a4 a5 a6 a7 a8 a9 a10 a11 a12 a13 a14 x : α} {l : List α} : x ∈ a1 :: a2 :: a3 :: a4 :: a5 :: a6 :: a7 :: a8 :: a9 :: a10 :: a11 :: a12 :: a13 :: a14 :: x :: l := .tail _ (.tail _ (.tail _ (.tail _ (.tail _ (.tail _ (.tail _ (.tail _ (.tail _ (.tail _ (.tail _ (.tail _ (.tail _ (.tail _ (.head _))))))))))))))
theorem sk_14 {α : Type} {a1 a2 a3 a4 a5 a6 a7 a8 a9 a10 a11 a12 a13 a14 x : α} {l : List α} (h : x ∈ l) : x ∈ a1 :: a2 :: a3 :: a4 :: a5 :: a6 :: a7 :: a8 :: a9 :: a10 :: a11 :: a12 :: a13 :: a14 :: l := .tail _ (.tail _ (.tail _ (.tail _ (.tail _ (.tail _ (.tail _ (.tail _ (.tail _ (.tail _ (.tail _ (.tail _ (.tail _ (.tail _ h)))))))))))))
theorem ix_15 {α : Type} {a1 a2 a3 a4 a5 a6 a7 a8 a9 a10 a11 a12 a13 a14 a15 x : α} {l : List α} : x ∈ a1 :: a2 :: a3 :: a4 :: a5 :: a6 :: a7 :: a8 :: a9 :: a10 :: a11 :: a12 :: a13 :: a14 :: a15 :: x :: l := .tail _ (.tail _ (.tail _ (.tail _ (.tail _ (.tail _ (.tail _ (.tail _ (.tail _ (.tail _ (.tail _ (.tail _ (.tail _ (.tail _ (.tail _ (.head _)))))))))))))))
theorem sk_15 {α : Type} {a1 a2 a3 a4 a5 a6 a7 a8 a9 a10 a11 a12 a13 a14 a15 x : α} {l : List α} (h : x ∈ l) : x ∈ a1 :: a2 :: a3 :: a4 :: a5 :: a6 :: a7 :: a8 :: a9 :: a10 :: a11 :: a12 :: a13 :: a14 :: a15 :: l := .tail _ (.tail _ (.tail _ (.tail _ (.tail _ (.tail _ (.tail _ (.tail _ (.tail _ (.tail _ (.tail _ (.tail _ (.tail _ (.tail _ (.tail _ h))))))))))))))
theorem ix_16 {α : Type} {a1 a2 a3 a4 a5 a6 a7 a8 a9 a10 a11 a12 a13 a14 a15 a16 x : α} {l : List α} : x ∈ a1 :: a2 :: a3 :: a4 :: a5 :: a6 :: a7 :: a8 :: a9 :: a10 :: a11 :: a12 :: a13 :: a14 :: a15 :: a16 :: x :: l := .tail _ (.tail _ (.tail _ (.tail _ (.tail _ (.tail _ (.tail _ (.tail _ (.tail _ (.tail _ (.tail _ (.tail _ (.tail _ (.tail _ (.tail _ (.tail _ (.head _))))))))))))))))
theorem sk_16 {α : Type} {a1 a2 a3 a4 a5 a6 a7 a8 a9 a10 a11 a12 a13 a14 a15 a16 x : α} {l : List α} (h : x ∈ l) : x ∈ a1 :: a2 :: a3 :: a4 :: a5 :: a6 :: a7 :: a8 :: a9 :: a10 :: a11 :: a12 :: a13 :: a14 :: a15 :: a16 :: l := .tail _ (.tail _ (.tail _ (.tail _ (.tail _ (.tail _ (.tail _ (.tail _ (.tail _ (.tail _ (.tail _ (.tail _ (.tail _ (.tail _ (.tail _ (.tail _ h)))))))))))))))
theorem md {α : Type} {x : α} {l : List α} (i : Nat) (h : x ∈ l.drop i) : x ∈ l := List.mem_of_mem_drop h
theorem mi {α : Type} {x : α} {l : List α} (i : Nat) (h : l[i]? = some x) : x ∈ l := List.mem_of_getElem? h
theorem in_nil {p : Addr × Obj} {l : List (Addr × Obj)} (h : p ∈ [] ++ l) : p ∈ l := h
theorem in_app {p : Addr × Obj} {l r : List (Addr × Obj)} (h : p ∈ l ++ r) : p ∈ l ++ r := h
theorem in_appM {p : Addr × Obj} {l r : List (Addr × Obj)} (h : p ∈ l ++ r) : List.Mem p (l ++ r) := h
theorem in_mem {p : Addr × Obj} {l : List (Addr × Obj)} (h : p ∈ l) : List.Mem p l := h
example : True := by
  k_with "o k_mem" => (((first | with_reducible refine' in_appM ?_ | with_reducible refine' in_app ?_); (with_reducible refine' List.mem_append_right _ ?_); k_extra "o mem"))
  k_with "o m mo" => ((first | with_reducible exact mo_b | with_reducible exact mo_db | with_reducible exact mo_t | with_reducible exact mo_dt | with_reducible exact mo_k | with_reducible exact mo_dk | with_reducible exact mo_f | with_reducible exact mo_df | with_reducible exact mo_er | with_reducible exact mo_si | with_reducible exact mo_fi | with_reducible exact mo_ki | with_reducible exact mo_sp | with_reducible exact mo_na | with_reducible exact mo_ar | with_reducible exact mo_te | with_reducible exact mo_pa | with_reducible exact mo_ch | with_reducible exact mo_co))
  k_with "o k_mem" => (((first | with_reducible refine' in_appM ?_ | with_reducible refine' in_app ?_); k_extra "o m mo"))
  k_with "o k_upd" => (first
      | with_reducible exact u_si (by k_extra "o m nd") | with_reducible exact u_fi (by k_extra "o m nd") | with_reducible exact u_ki (by k_extra "o m nd") | with_reducible exact u_sp (by k_extra "o m nd")
      | with_reducible exact u_na (by k_extra "o m nd") | with_reducible exact u_ar (by k_extra "o m nd") | with_reducible exact u_te (by k_extra "o m nd") | with_reducible exact u_pa (by k_extra "o m nd"))
  k_with "o l_ints" => (first | exact Sv.si (by assumption) | exact Sv.fi (by assumption) | exact Sv.pa (by assumption))
  k_with "o m strs" => (first | assumption | exact Sv.na (by assumption) | exact Sv.sp (by assumption) | exact Sv.ki (by assumption) | exact Sv.te (by assumption) | exact strs_append (by k_extra "o m strs") (.cons _ _ .nil))
  trivial
theorem ar_le {a k K : Nat} (h : a ≤ k) (d : Nat.ble k K = true) : a ≤ K := Nat.le_trans h (Nat.le_of_ble_eq_true d)
theorem ar_ele {a b k K : Nat} (e : a = b) (h : b ≤ k) (d : Nat.ble k K = true) : a ≤ K := e ▸ ar_le h d
theorem ar_ltK {x : Int} {n k : Nat} {K : Int} (h : x < n) (h2 : n ≤ k) (d : decide ((k : Int) ≤ K) = true) : x < K := by have := of_decide_eq_true d; (first | lia | omega)
theorem ar_lte {x : Int} {n m : Nat} (h : x < n) (e : m = n) : x < m := e ▸ h
theorem ar_tnl {x : Int} {m : Nat} (h0 : 0 ≤ x) (h : x < m) : x.toNat < m := (Int.toNat_lt h0).mpr h
theorem ar_tn {x : Int} {n m : Nat} (h : x < n) (e : m = n) (h0 : 0 ≤ x) : x.toNat < m := e ▸ ar_tnl h0 h
theorem ar_s3 {K : Nat} : ((K : Int) - 1).toNat = K - 1 := Int.pred_toNat K
theorem ar_s4 {K : Nat} : ((-1 : Int) + K).toNat = K - 1 := by rw [Int.add_comm]; exact Int.pred_toNat K
theorem ar_s5 {j K : Nat} : ((-1 : Int) - j + K).toNat = K - 1 - j := by
  rw [show (-1 : Int) - j + K = (K : Int) - ((1 + j : Nat) : Int) by rw [Int.natCast_add]; simp only [Int.natCast_one]; lia, Int.toNat_sub, Nat.sub_sub]
theorem ar_s8 {k K : Nat} (h : k < K) : K - 1 - (K - 1 - k) = k := Nat.sub_sub_self (Nat.le_sub_one_of_lt h)
theorem ar_mn {k n : Nat} : min k n + (n - k) = n := by rw [Nat.min_comm, Nat.add_comm]; exact Nat.sub_add_min_cancel n k
theorem ar_mn1 {k n c N : Nat} (h : n + c ≤ N) : min k n + c + (n - k) ≤ N := by rw [Nat.add_right_comm, ar_mn]; exact h
theorem ar_mn2 {k n c N : Nat} (h : n + c ≤ N) : min k n + (n - k + c) ≤ N := by rw [← Nat.add_assoc, ar_mn]; exact h
theorem ar_s7 {n k : Nat} : n - (n - k) ≤ k := Nat.sub_le_iff_le_add.mpr (Nat.sub_le_iff_le_add'.mp (Nat.le_refl _))
theorem ar_c1 : (0 : Int) ≤ 0 := by decide
theorem ar_c2 : (0 : Int) < 1000000 := by decide
theorem ar_c3 : (-2 ^ 62 : Int) ≤ 0 := by decide
theorem ar_c4 : (0 : Int) < 2 ^ 62 := by decide
theorem ar_c5 : (-1 : Int) < 0 := by decide
theorem ar_c6 : (-2 ^ 63 : Int) ≤ -1 := by decide
theorem ar_c7 {n : Nat} : (0 : Int) ≤ (n : Int) + 1 := by (first | lia | omega)
theorem ar_c8 {n : Nat} : ((n : Int)).toNat = n := rfl
theorem ar_c9 {n : Nat} : n = ((n : Int)).toNat := rfl
theorem ar_le1 {a k K : Nat} (h : a ≤ k) (d : Nat.ble (k + 1) K = true) : a + 1 ≤ K := Nat.le_trans (Nat.succ_le_succ h) (Nat.le_of_ble_eq_true d)
theorem ar_ele1 {a b k K : Nat} (e : a = b + 1) (h : b ≤ k) (d : Nat.ble (k + 1) K = true) : a ≤ K := e ▸ ar_le1 h d
example : True := by
  k_with "o m arq" => (first
      | with_reducible assumption
      | ((with_reducible show (_ : Nat) ≤ _); first
        | with_reducible exact ar_le (by with_reducible assumption) (by k_dflt exact rfl)
        | with_reducible exact ar_ele (by with_reducible assumption) (by with_reducible assumption) (by k_dflt exact rfl)
        | with_reducible exact ar_ele1 (by with_reducible assumption) (by with_reducible assumption) (by k_dflt exact rfl)
        | with_reducible exact ar_s7)
      | ((with_reducible show (_ : Int) ≤ _); first
        | with_reducible exact Int.natCast_nonneg _ | with_reducible exact Int.le_of_lt (by with_reducible assumption) | with_reducible exact ar_c1 | with_reducible exact ar_c7 | with_reducible exact ar_c3 | with_reducible exact ar_c6)
      | ((with_reducible show (_ : Int) < _); first
        | with_reducible exact ar_c2
        | with_reducible exact ar_lte (by with_reducible assumption) (by with_reducible assumption)
        | with_reducible exact ar_ltK (by with_reducible assumption) (by with_reducible assumption) (by k_dflt exact rfl)
        | with_reducible exact ar_c4 | with_reducible exact ar_c5)
      | ((with_reducible show (_ : Nat) < _); first
        | with_reducible exact ar_tn (by with_reducible assumption) (by with_reducible assumption) (by with_reducible assumption)
        | with_reducible exact ar_tnl (by with_reducible assumption) (by with_reducible assumption)
        | with_reducible exact Nat.sub_one_lt_of_lt (by with_reducible assumption)
        | with_reducible exact Nat.sub_one_sub_lt_of_lt (by with_reducible assumption)
        | with_reducible exact Nat.sub_one_lt (by with_reducible assumption))
      | ((with_reducible show (_ : Nat) = _); first | with_reducible exact ar_c8 | with_reducible exact ar_c9 | with_reducible exact Int.pred_toNat _ | with_reducible exact ar_s3 | with_reducible exact ar_s4 | with_reducible exact ar_s5 | with_reducible exact ar_s8 (by with_reducible assumption))
      | ((with_reducible show _ ∧ _); (with_reducible refine And.intro ?_ ?_); (· k_extra "o m arq"); (· k_extra "o m arq")))
  k_with "o m oz" => (first | k_extra "o m arq" | (first | lia | omega))
  k_with "o m ar" => (first | k_extra "o m arq" | (dsimp only; first | k_extra "o m arq" | (first | lia | omega) | (simp only [List.length_append, List.length_cons, List.length_nil, length_putIn, List.length_set, List.length_map]; (first | lia | omega))) | (first | lia | omega) | (simp only [List.length_append, List.length_cons, List.length_nil, length_putIn, List.length_set, List.length_map]; (first | lia | omega)) | (simp only [List.length_append, List.length_cons, List.length_nil, length_putIn, List.length_set] at *; (first | lia | omega)))
  k_with "o m len" => (first | exact IntsAre.length (by l_ints) | exact StrsAre.length (by k_extra "o m strs") | exact rfl)
  k_with "o call builtin:len" => ((k_here; (with_reducible show wpAny _ _ (call (Value.builtin "len") [Value.ref _]) _ _ _); k_dflt (refine' l_len ?k1_12 ?k2_12 ?k3_12 ?k4_12 ?_; (case k1_12 => k_asm); (case k2_12 => k_extra "o mem"); (case k3_12 => k_extra "o m len"); (case k4_12 => k_extra "o m ar"); k_whole); intro _ _))
  k_with "o compareOp In int ref" => ((k_here; k_dflt (refine' l_in ?k1_13 ?k2_13 ?k3_13 ?_; (case k1_13 => k_asm); (case k2_13 => k_extra "o mem"); (case k3_13 => l_ints); k_whole)))
  k_with "o compareOp NotIn int ref" => ((k_here; k_dflt (refine' l_notin ?k1_14 ?k2_14 ?k3_14 ?_; (case k1_14 => k_asm); (case k2_14 => k_extra "o mem"); (case k3_14 => l_ints); k_whole)))
  k_with "o call builtin:list.index" => ((k_here; k_dflt (refine' l_index ?k1_15 ?k2_15 ?k3_15 ?k4_15 ?k5_15 ?_; (case k1_15 => k_asm); (case k2_15 => k_extra "o mem"); (case k3_15 => l_ints); (case k4_15 => k_extra "o m ar"); (case k5_15 => k_extra "o m ar"); k_whole); intro _ _))
  k_with "o call builtin:list.remove" => ((k_here; k_dflt (refine' l_remove ?k1_16 ?k2_16 ?k3_16 ?k4_16 ?k5_16 ?k6_16 ?_; (case k1_16 => k_asm); (case k2_16 => k_asm); (case k3_16 => k_upd); (case k4_16 => l_ints); (case k5_16 => k_extra "o m ar"); (case k6_16 => k_extra "o m ar"); k_whole); intro h' F' N' ke'; k_dflt (try replace Nd := nodup_eq ke' Nd); (try dsimp only [List.map] at Nd); clear ke'; (try k_sweep)))
  k_with "o call builtin:list.remove" => ((k_here; k_dflt (refine' l_removeN ?k1_17 ?k2_17 ?kd_17 ?k3_17 ?k4_17 ?k5_17 ?k6_17 ?_; (case k1_17 => k_asm); (case k2_17 => k_asm); (case kd_17 => k_extra "o m nd"); (case k3_17 => k_upd); (case k4_17 => l_ints); (case k5_17 => k_extra "o m ar"); (case k6_17 => k_extra "o m ar"); k_whole); (try clear Nd); intro h' F' N' Nd; (try dsimp only [List.map] at Nd); (try k_sweep)))
  k_with "o call builtin:list.insert" => ((k_here; k_dflt (refine' l_insert ?k1_18 ?k2_18 ?k3_18 ?k4_18 ?k5_18 ?k6_18 ?_; (case k1_18 => k_asm); (case k2_18 => k_asm); (case k3_18 => k_upd); (case k4_18 => k_extra "o m ar"); (case k5_18 => k_extra "o m ar"); (case k6_18 => k_extra "o m ar"); k_whole); intro h' F' N' ke'; k_dflt (try replace Nd := nodup_eq ke' Nd); (try dsimp only [List.map] at Nd); clear ke'; (try k_sweep)))
  k_with "o call builtin:list.insert" => ((k_here; k_dflt (refine' l_insertN ?k1_19 ?k2_19 ?kd_19 ?k3_19 ?k4_19 ?k5_19 ?k6_19 ?_; (case k1_19 => k_asm); (case k2_19 => k_asm); (case kd_19 => k_extra "o m nd"); (case k3_19 => k_upd); (case k4_19 => k_extra "o m ar"); (case k5_19 => k_extra "o m ar"); (case k6_19 => k_extra "o m ar"); k_whole); (try clear Nd); intro h' F' N' Nd; (try dsimp only [List.map] at Nd); (try k_sweep)))
  k_with "o call builtin:list.append" => ((k_here; k_dflt (refine' l_append ?k1_20 ?k2_20 ?k3_20 ?k4_20 ?_; (case k1_20 => k_asm); (case k2_20 => k_asm); (case k3_20 => k_upd); (case k4_20 => k_extra "o m ar"); k_whole); intro h' F' N' ke'; k_dflt (try replace Nd := nodup_eq ke' Nd); (try dsimp only [List.map] at Nd); clear ke'; (try k_sweep)))
  k_with "o call builtin:list.append" => ((k_here; k_dflt (refine' l_appendN ?k1_21 ?k2_21 ?kd_21 ?k3_21 ?k4_21 ?_; (case k1_21 => k_asm); (case k2_21 => k_asm); (case kd_21 => k_extra "o m nd"); (case k3_21 => k_upd); (case k4_21 => k_extra "o m ar"); k_whole); (try clear Nd); intro h' F' N' Nd; (try dsimp only [List.map] at Nd); (try k_sweep)))
  k_with "o setItem ref int" => ((k_here; k_dflt (refine' l_set ?k1_22 ?k2_22 ?k3_22 ?k4_22 ?k5_22 ?k6_22 ?_; (case k1_22 => k_asm); (case k2_22 => k_asm); (case k3_22 => k_upd); (case k4_22 => k_extra "o m ar"); (case k5_22 => k_extra "o m ar"); (case k6_22 => k_extra "o m ar"); k_whole); intro h' F' N' ke'; k_dflt (try replace Nd := nodup_eq ke' Nd); (try dsimp only [List.map] at Nd); clear ke'; (try k_sweep)))
  k_with "o setItem ref int" => ((k_here; k_dflt (refine' l_setN ?k1_23 ?k2_23 ?kd_23 ?k3_23 ?k4_23 ?k5_23 ?k6_23 ?_; (case k1_23 => k_asm); (case k2_23 => k_asm); (case kd_23 => k_extra "o m nd"); (case k3_23 => k_upd); (case k4_23 => k_extra "o m ar"); (case k5_23 => k_extra "o m ar"); (case k6_23 => k_extra "o m ar"); k_whole); (try clear Nd); intro h' F' N' Nd; (try dsimp only [List.map] at Nd); (try k_sweep)))
  k_with "o subscriptTail" => ((k_here; (with_reducible show wpAny _ _ (subscriptTail _ _ (Value.ref _) (Value.int _ _)) _ _ _); k_dflt (refine' l_sub ?k1_24 ?k2_24 ?k3_24 ?k4_24 ?k5_24 ?k6_24 ?_ ?k7_24; (case k1_24 => k_asm); (case k2_24 => k_extra "o mem"); (case k3_24 => l_ints); (case k4_24 => k_extra "o m ar"); (case k5_24 => k_extra "o m ar"); (case k6_24 => k_extra "o m ar"); (case k7_24 => with_unfolding_all rfl); k_whole); intro _))
  k_with "o subscriptTail" => ((k_here; (with_reducible show wpAny _ _ (subscriptTail _ _ (Value.ref _) (Value.int _ _)) _ _ _); k_dflt (refine' l_subs ?k1_25 ?k2_25 ?k3_25 ?k4_25 ?k5_25 ?k6_25 ?_ ?k7_25; (case k1_25 => k_asm); (case k2_25 => k_extra "o mem"); (case k3_25 => k_extra "o m strs"); (case k4_25 => k_extra "o m ar"); (case k5_25 => k_extra "o m ar"); (case k6_25 => k_extra "o m ar"); (case k7_25 => with_unfolding_all rfl); k_whole); intro _))
  trivial
/- entering a def of the text; a contract's frame -/
noncomputable abbrev bd (x : String) (v : Value) : Str × Value := (Str.ofString x, v)
example : True := by
  k_with "o m side" => ((
      case h1 => k_is
      case h2 => k_is
      case h3 => intro hp hX he; first | exact BindsTo.of_eq rfl | exact binds_K (by rw [he]; exact hX) rfl (by k_is) rfl rfl rfl
      case h4 => exact locs rfl
      case h5 => exact rfl
      case h6 => exact rfl
      case h7 => exact rfl
      case h8 => decide
      intro hG L' h₁ R _ _ _ _ tk' hR CC X T hh F' N' st
      (try dsimp only [List.reverse, List.reverseAux] at F')))
  k_with "o m un" => (first
      | with_reducible refine Then.nx ?_ | with_reducible refine Then.rt ?_ | with_reducible refine hW.ret _ _ ?_ | with_reducible refine hW.brk _ ?_
      | ((with_reducible refine' hR.ret _ _ _ _ ?rF_27 ?rN_27 ?_); (case rF_27 => k_asm); (case rN_27 => k_asm); intro kF kN; (try dsimp only at kF kN ⊢))
      | ((with_reducible refine' hR.off _ _ _ ?rF_27 ?rN_27 ?_); (case rF_27 => k_asm); (case rN_27 => k_asm); intro kF kN; (try dsimp only at kF kN ⊢)))
  k_with "o execs cons" => ((k_here; first | (refine execs_thenN (g := sg) (d := sd) (o := so) F' ?_ (by rfl); intro tk') | (refine execs_thenN (g := sg) (d := sd) (o := so) (by assumption) ?_ (by rfl); intro tk') | refine execs_then ?_))
  k_with "o m w" => (first | k_extra "o m un" | ((fail_if_success (with_reducible show wpAny _ _ (exec (Stmt.While _ _ _ _) _) _ _ _)); (fail_if_success (with_reducible show wpAny _ _ (exec (Stmt.For _ _ _ _ _) _) _ _ _)); (fail_if_success (with_reducible show WhlIf _ _ _)); (fail_if_success (with_reducible show wpAny _ _ (pyIter _) (fun it s₂ => LoopAtV _ _ _ _ _ _ _ _ _ it s₂) _ _)); (fail_if_success (with_reducible show WhlPost _ _ _ _ _ _ _ _ _ _ _ _)); (fail_if_success (with_reducible show wpAny _ _ (call (Value.ref _) _ _) _ _ _)); walk1))
  k_with "o m go" => (repeat' (first | k_extra "o m w" | (dsimp only; k_extra "o m w")))
  k_with "o LeaveK" => ((refine leaveK_ (by k_asm) (by k_asm) ?_; intro kF kN; (try dsimp only at kF kN ⊢)))
  trivial

inductive UpL (x : Str) (v : Value) : List (Str × Value) → List (Str × Value) → Prop
  | new {l} : UpL x v l ((x, v) :: l)
  | hit {u r} : UpL x v ((x, u) :: r) ((x, v) :: r)
  | miss {y u r r'} : (x == y) = false → UpL x v r r' → UpL x v ((y, u) :: r) ((y, u) :: r')
theorem UpL.eq {x : Str} {v : Value} {l l' : List (Str × Value)} (h : UpL x v l l') : (fun y => if y = x then some v else List.lookup y l) = fun y => List.lookup y l' := by
  funext y
  induction h with
  | new =>
    by_cases e : y = x
    · subst e; simp [List.lookup]
    · have : (y == x) = false := by simpa using e
      simp [List.lookup, e, this]
  | @hit u r =>
    by_cases e : y = x
    · subst e; simp [List.lookup]
    · have : (y == x) = false := by simpa using e
      simp [List.lookup, e, this]
  | @miss z u r r' hz hr ih =>
    rw [List.lookup_cons, List.lookup_cons]
    cases hy : (y == z) with
    | true =>
      have e : y = z := by simpa using hy
      subst e
      have : ¬ y = x := fun q => by rw [q] at hz; simp at hz
      simp [this]
    | false => exact ih

theorem News.tl {h₀ h : Heap} {L : Addr} {p : Addr × Obj} {l : List (Addr × Obj)} (N : News h₀ L h (p :: l)) : News h₀ L h l := fun q hq => N q (.tail _ hq)
theorem News.sub {h₀ h : Heap} {L : Addr} {l l' : List (Addr × Obj)} (N : News h₀ L h l) (hs : ∀ p ∈ l', p ∈ l) : News h₀ L h l' := fun q hq => N q (hs q hq)
theorem ne_all {l : List (Addr × Obj)} {d : Addr} (h : ∀ p ∈ l, p.1 < d) : ∀ p ∈ l, p.1 ≠ d := fun p hp e => absurd (h p hp) (e ▸ Nat.lt_irrefl _)
theorem nodup_push {l : List (Addr × Obj)} {d : Addr} (h : ∀ p ∈ l, p.1 ≠ d) (hn : (l.map (·.1)).Nodup) : (d :: l.map (·.1)).Nodup := by
  rw [List.nodup_cons]
  refine ⟨fun hm => ?_, hn⟩
  obtain ⟨p, hp, e⟩ := List.mem_map.mp hm
  exact h p hp e
theorem ne_hd {l : List (Addr × Obj)} {p : Addr × Obj} (hn : ((p :: l).map (·.1)).Nodup) : ∀ q ∈ l, q.1 ≠ p.1 := by
  rw [List.map_cons, List.nodup_cons] at hn
  exact fun q hq e => hn.1 (List.mem_map.mpr ⟨q, hq, e⟩)
theorem upd_hd {l : List (Addr × Obj)} {d : Addr} {o o' : Obj} (hn : (d :: l.map (·.1)).Nodup) : Upd d o o' ((d, o) :: l) ((d, o') :: l) := .head (ne_hd (p := (d, o)) hn)
theorem upd_tl {l l' : List (Addr × Obj)} {p : Addr × Obj} {d : Addr} {o o' : Obj} (hn : (p.1 :: l.map (·.1)).Nodup) (hm : (d, o) ∈ l) (h : Upd d o o' l l') : Upd d o o' (p :: l) (p :: l') := .tail (fun e => ne_hd hn _ hm e.symm) h
theorem nodup_obj {d : Addr} {o o' : Obj} {l : List (Addr × Obj)} (h : (((d, o) :: l).map (·.1)).Nodup) : (((d, o') :: l).map (·.1)).Nodup := h
theorem All2.length {α β : Type} {R : α → β → Prop} {xs : List α} {ys : List β} (h : All2 R xs ys) : xs.length = ys.length :=
  All2.ind (R := R) (P := fun (xs : List α) (ys : List β) => xs.length = ys.length) rfl (fun _ _ _ _ _ _ ih => congrArg (· + 1) ih) h
theorem All2.get {α β : Type} {R : α → β → Prop} {xs : List α} {ys : List β} (i : Nat) (y : β) (h : All2 R xs ys) (e : ys[i]? = some y) : ∃ x, xs[i]? = some x ∧ R x y := by
  refine All2.ind (P := fun xs ys => ∀ i y, ys[i]? = some y → ∃ x, xs[i]? = some x ∧ R x y) (fun i y e => by simp at e) (fun x y xs ys r _ ih i z e => ?_) h i y e
  cases i with
  | zero => simp only [List.getElem?_cons_zero, Option.some.injEq] at e; exact ⟨x, rfl, e ▸ r⟩
  | succ i => simp only [List.getElem?_cons_succ] at e ⊢; exact ih i z e
theorem All2.set {α β : Type} {R : α → β → Prop} {x : α} {y : β} (hr : R x y) {xs : List α} {ys : List β} (i : Nat) (h : All2 R xs ys) : All2 R (xs.set i x) (ys.set i y) := by
  refine All2.ind (P := fun xs ys => ∀ i, All2 R (xs.set i x) (ys.set i y)) (fun _ => trivial) (fun a b xs ys r h ih i => ?_) h i
  cases i with
  | zero => exact ⟨hr, h⟩
  | succ i => exact ⟨r, ih i⟩
theorem All2.append {α β : Type} {R : α → β → Prop} : ∀ {xs : List α} {ys : List β}, All2 R xs ys → ∀ {xs' : List α} {ys' : List β}, All2 R xs' ys' → All2 R (xs ++ xs') (ys ++ ys')
  | [], [], _ => fun h' => h'
  | _ :: _, _ :: _, h => fun h' => ⟨h.1, All2.append h.2 h'⟩
theorem All2.mono {α β : Type} {R R' : α → β → Prop} (hr : ∀ x y, R x y → R' x y) : ∀ {xs : List α} {ys : List β}, All2 R xs ys → All2 R' xs ys
  | [], [], _ => trivial
  | _ :: _, _ :: _, h => ⟨hr _ _ h.1, All2.mono hr h.2⟩
noncomputable def kidsOf (S : St) (p : Int) : List Int := S.children.getD p.toNat []
inductive KidG (g : Sg) (S : St) (p : Int) : Prop
  | mk (c : Addr) (vs : List Value) (n : Nat) : g.kids[p.toNat]? = some (c, listOf (List.toArray vs) n) → IntsAre vs (kidsOf S p) → (refsOf1 g.kids)[p.toNat]? = some (.ref c) → KidG g S p
theorem kid_at {prog : Program} {w : World} {a : BA} {g : Sg} {S : St} {p : Int} (V : Sv prog w a g S) (h0 : 0 ≤ p) (h1 : p < S.children.length) :
    KidG g S p := by
  have e : S.children[p.toNat]? = some (kidsOf S p) := by
    unfold kidsOf
    rw [List.getD_eq_getElem?_getD, List.getElem?_eq_getElem (by (first | lia | omega))]; rfl
  obtain ⟨⟨c, o⟩, hk, vs, n, ho, hi⟩ := V.ch.get _ _ e
  simp only at ho
  subst ho
  exact ⟨c, vs, n, hk, hi, by rw [List.getElem?_map, hk]; rfl⟩
theorem set_split {α : Type} {l : List α} {i : Nat} {x y : α} (h : l[i]? = some x) : l = l.take i ++ x :: l.drop (i + 1) ∧ l.set i y = l.take i ++ y :: l.drop (i + 1) := by
  obtain ⟨hl, e⟩ := List.getElem?_eq_some_iff.mp h
  refine ⟨?_, List.set_eq_take_append_cons_drop.trans (if_pos hl)⟩
  have := List.set_eq_take_append_cons_drop (l := l) (i := i) (a := x)
  rw [if_pos hl] at this
  rw [← this, ← e, List.set_getElem_self]
theorem refs_set {l : List (Addr × Obj)} {i : Nat} {c : Addr} {o o' : Obj} (h : l[i]? = some (c, o)) : refsOf1 (l.set i (c, o')) = refsOf1 l := by
  obtain ⟨e1, e2⟩ := set_split (y := (c, o')) h
  rw [e2]
  conv => rhs; rw [e1]
  simp
theorem u_kid {P : Params} {ex : List (Addr × Obj)} {a : BA} {g : Sg} {i : Nat} {c : Addr} {o o' : Obj} (h : ((ex ++ obs P a g).map (·.1)).Nodup) (hk : g.kids[i]? = some (c, o)) :
    Upd c o o' (ex ++ obs P a g) (ex ++ obs P a { g with kids := g.kids.set i (c, o') }) := by
  obtain ⟨e1, e2⟩ := set_split (y := (c, o')) hk
  have er := refs_set (o' := o') hk
  let head : List (Addr × Obj) := fixO P a g.fo ++ [(a.si, listOf g.si.toArray g.e0), (a.fi, listOf g.fi.toArray g.e1), (a.ki, listOf g.ki.toArray g.e2), (a.sp, listOf g.sp.toArray g.e3), (a.na, listOf g.na.toArray g.e4), (a.ar, listOf g.ar.toArray g.e5), (a.te, listOf g.te.toArray g.e6), (a.pa, listOf g.pa.toArray g.e7), (a.ch, listOf (refsOf1 g.kids).toArray g.e8), (a.co, g.co)]
  have q1 : obs P a g = (head ++ g.kids.take i) ++ (c, o) :: (g.kids.drop (i + 1) ++ g.inn) := by
    have : obs P a g = head ++ (g.kids ++ g.inn) := rfl
    rw [this]
    conv => lhs; rw [e1]
    simp
  have q2 : obs P a { g with kids := g.kids.set i (c, o') } = (head ++ g.kids.take i) ++ (c, o') :: (g.kids.drop (i + 1) ++ g.inn) := by
    have : obs P a { g with kids := g.kids.set i (c, o') } = head ++ (g.kids.set i (c, o') ++ g.inn) := by
      show _ = _
      simp only [obs, er]; rfl
    rw [this, e2]
    simp
  rw [q2]
  rw [q1] at h ⊢
  exact upd_in ex _ _ h
theorem kid_mem {P : Params} {ex : List (Addr × Obj)} {a : BA} {g : Sg} {i : Nat} {p : Addr × Obj} (hk : g.kids[i]? = some p) : p ∈ ex ++ obs P a g := by
  have : p ∈ g.kids := List.mem_of_getElem? hk
  simp [this]

section
variable {prog : Program} {w : World} {M : Model} {A : Around} {E : Value → Shared → Prop} {sh : Heap} {sg : Array GenState} {sd : Drawn} {stk : Nat} {so : OsState} {h₀ : Heap} {L a : Addr} {m : Str → Option Value} {news : List (Addr × Obj)} {cn : Str} {cs : Scope} {ccd : Value} {x : Str} {v : Value} {l l' : List (Str × Value)} {vs : List Value}
theorem st_m {Q : Unit → Shared → Prop} (F : Fr h₀ L sh (fun y => List.lookup y l)) (N : News h₀ L sh news) (U : UpL x v l l')
    (h : ∀ h', Fr h₀ L h' (fun y => List.lookup y l') → News h₀ L h' news → Q () (Shared.mk h' sg sd (stk + 1) so))
    (hk : cs.kind = .function) (hx : (envOf cn cs L a ccd).kindOf x = some .local) : wpAny M A (storeName (envOf cn cs L a ccd) x v) Q E (Shared.mk sh sg sd stk so) :=
  stN F N (fun h' F' N' => h h' (U.eq ▸ F') N') hk hx
theorem newList_m {Q : Value → Shared → Prop} (F : Fr h₀ L sh m) (N : News h₀ L sh news)
    (h : ∀ D h', Fr h₀ L h' m → News h₀ L h' ((D, listOf vs.toArray 0) :: news) → (∀ p ∈ news, p.1 < D) → Q (.ref D) (Shared.mk h' sg sd stk so)) (hsz : vs.length ≤ sizeLine) : wpAny M A (newList vs) Q E (Shared.mk sh sg sd stk so) :=
  newList_K F N h hsz

theorem newList_N2 {Q : Value → Shared → Prop} (F : Fr h₀ L sh m) (N : News h₀ L sh news) (Nd : (news.map (·.1)).Nodup)
    (h : ∀ D h', Fr h₀ L h' m → News h₀ L h' ((D, listOf vs.toArray 0) :: news) → (D :: news.map (·.1)).Nodup → Q (.ref D) (Shared.mk h' sg sd stk so)) (hsz : vs.length ≤ sizeLine) : wpAny M A (newList vs) Q E (Shared.mk sh sg sd stk so) :=
  newList_m F N (fun D h' F' N' l => h D h' F' N' (nodup_push (ne_all l) Nd)) hsz
theorem newTuple_N2 {Q : Value → Shared → Prop} (F : Fr h₀ L sh m) (N : News h₀ L sh news) (Nd : (news.map (·.1)).Nodup)
    (h : ∀ D h', Fr h₀ L h' m → News h₀ L h' ((D, ({ cls := .type "tuple", data := .seq vs.toArray } : Obj)) :: news) → (D :: news.map (·.1)).Nodup → Q (.ref D) (Shared.mk h' sg sd stk so)) (hsz : vs.length ≤ sizeLine) : wpAny M A (newTuple vs) Q E (Shared.mk sh sg sd stk so) :=
  kup_newTuple F N (fun D h' F' N' l => h D h' F' N' (nodup_push (ne_all l) Nd)) hsz

structure WEnds (P Q : Flow → Shared → Prop) : Prop where
  ret : ∀ v s', Q (.ret v) s' → P (.ret v) s'
  brk : ∀ s', Q .next s' → P .brk s'
theorem whl_inv {s : Shared} {env : Env} {test : PySem.Expr} {body orelse : List Stmt} {pos : Pos} {Q : Flow → Shared → Prop} (I : Nat → Shared → Prop) (n : Nat) (h : I n s)
    (turn : ∀ P, WEnds P Q → ∀ n s, I n s → (∀ k s', k < n → I k s' → P .next s') →
      wpAny (model prog w) A (isTrue test env (eval test env)) (fun b s₂ => WhlIf b (wpAny (model prog w) A (execs body env) P (fun _ _ => False) s₂) (wpAny (model prog w) A (execs orelse env) Q (fun _ _ => False) s₂)) (fun _ _ => False) s) :
    wpAny (model prog w) A (exec (.While test body orelse pos) env) Q (fun _ _ => False) s := by
  refine whl_start 0 ?_
  induction n using Nat.strongRecOn generalizing s with
  | ind n ih => exact whl_turn (k := 0) (PassesOwn.never) (turn (WhlPost prog w A (fun _ _ => False) env test body orelse Q 0) ⟨fun _ _ x => x, fun _ x => x⟩ n s h fun k s' hk hI => ih k hk hI)
end

example : True := by
  k_with "o m uph" => (first | with_reducible exact UpL.hit | ((with_reducible refine' UpL.miss ?upe_32 ?upu_32); (case upe_32 => rfl); (case upu_32 => k_extra "o m uph")))
  k_with "o m upl" => (first | k_extra "o m uph" | exact UpL.new)
  k_with "o k_mem" => (((first | with_reducible refine' in_appM ?_ | with_reducible refine' in_app ?_); with_reducible exact kid_mem (by with_reducible assumption)))
  k_with "o k_upd" => (exact u_kid (by k_extra "o m nd") (by assumption))
  k_with "o subscriptTail" => ((k_here; (with_reducible show wpAny _ _ (subscriptTail _ _ (Value.ref _) (Value.int _ _)) _ _ _); k_dflt (refine' l_subv ?k1_36 ?k2_36 ?k3_36 ?k4_36 ?k5_36 ?_ ?k6_36; (case k1_36 => k_asm); (case k2_36 => k_extra "o mem"); (case k5_36 => with_reducible assumption); (case k3_36 => k_extra "o m ar"); (case k4_36 => k_extra "o m ar"); (case k6_36 => with_unfolding_all rfl); k_whole)))
  k_with "o subscriptTail Attribute Name Name ref int" => ((k_extra "o subscriptTail"))
  k_with "o subscriptTail Attribute Name BinOp ref int" => ((k_extra "o subscriptTail"))
  k_with "o subscriptTail Attribute Name Constant ref int" => ((k_extra "o subscriptTail"))
  k_with "o subscriptTail Attribute Name Attribute ref int" => ((k_extra "o subscriptTail"))
  k_with "o subscriptTail Attribute Name Call ref int" => ((k_extra "o subscriptTail"))
  k_with "o subscriptTail Attribute Name Subscript ref int" => ((k_extra "o subscriptTail"))
  k_with "o subscriptTail Attribute Attribute Name ref int" => ((k_extra "o subscriptTail"))
  k_with "o subscriptTail Attribute Attribute BinOp ref int" => ((k_extra "o subscriptTail"))
  k_with "o subscriptTail Attribute Attribute Constant ref int" => ((k_extra "o subscriptTail"))
  k_with "o subscriptTail Attribute Attribute Attribute ref int" => ((k_extra "o subscriptTail"))
  k_with "o subscriptTail Attribute Attribute Call ref int" => ((k_extra "o subscriptTail"))
  k_with "o subscriptTail Attribute Attribute Subscript ref int" => ((k_extra "o subscriptTail"))
  k_with "o m dec" => (first | assumption | ((try simp only [beq_iff_eq, bne_iff_ne, ne_eq, decide_eq_true_eq, decide_eq_false_iff_not, Bool.not_eq_true', Bool.not_eq_true, Bool.not_eq_false', beq_eq_false_iff_ne, bne_eq_false_iff_eq, Decidable.not_not]); first | assumption | omega))
  k_with "o ite" => ((k_here; k_dflt (first | refine ite_pos (by k_extra "o m dec") ?_ | refine ite_neg (by k_extra "o m dec") ?_)))
  k_with "o exec Raise" => ((exfalso; first | contradiction | omega))
  k_with "o storeName" => ((k_here; k_dflt (refine' st_m ?F_52 ?N_52 ?U_52 ?_ ?a_52 ?b_52; (case F_52 => k_asm); (case N_52 => k_asm); (case a_52 => rfl); (case b_52 => rfl); (case U_52 => k_extra "o m upl"); k_whole); intro h' F' N'; (try k_sweep)))
  k_with "o newTuple" => ((k_here; k_dflt (refine' kup_newTuple ?F_53 ?N_53 ?_ ?z_53; (case F_53 => k_asm); (case N_53 => k_asm); (case z_53 => kmk_size)); intro D' h' F' N' l1; (try replace l1 := ne_all l1); k_dflt (try replace Nd := nodup_push l1 Nd); (try dsimp only [List.map] at Nd); (try k_sweep)))
  k_with "o newTuple" => ((k_here; k_dflt (refine' newTuple_N2 ?F_54 ?N_54 ?kd_54 ?_ ?z_54; (case F_54 => k_asm); (case N_54 => k_asm); (case kd_54 => k_extra "o m nd"); (case z_54 => kmk_size)); (try clear Nd); intro D' h' F' N' Nd; (try k_sweep)))
  k_with "o newList" => ((k_here; k_dflt (refine' newList_m ?F_55 ?N_55 ?_ ?z_55; (case F_55 => k_asm); (case N_55 => k_asm); (case z_55 => kmk_size)); intro D' h' F' N' l1; (try replace l1 := ne_all l1); k_dflt (try replace Nd := nodup_push l1 Nd); (try dsimp only [List.map] at Nd); (try k_sweep)))
  k_with "o newList" => ((k_here; k_dflt (refine' newList_N2 ?F_56 ?N_56 ?kd_56 ?_ ?z_56; (case F_56 => k_asm); (case N_56 => k_asm); (case kd_56 => k_extra "o m nd"); (case z_56 => kmk_size)); (try clear Nd); intro D' h' F' N' Nd; (try k_sweep)))
  k_with "o k_upd" => (first | with_reducible exact upd_hd (by k_extra "o m nd") | ((with_reducible refine' upd_tl ?upn_57 ?upm_57 ?upu_57); (case upn_57 => k_extra "o m nd"); (case upu_57 => k_upd); (case upm_57 => k_extra "o mem")))
  k_with "o m open" => ((obtain ⟨g', N', Nd, V⟩ := W'; (try dsimp only [List.cons_append, List.map] at N' Nd); (try have Nd1 := (List.nodup_cons.mp Nd).2); (try have Nd2 := (List.nodup_cons.mp Nd1).2); (try k_sweep)))
  trivial

theorem lookup_app (y : Str) : ∀ (l o : List (Str × Value)), List.lookup y (l ++ o) = (match List.lookup y l with | some v => some v | none => List.lookup y o)
  | [], _ => rfl
  | (z, u) :: l, o => by
    rw [List.cons_append, List.lookup_cons, List.lookup_cons]
    cases (y == z) with
    | true => rfl
    | false => exact lookup_app y l o
noncomputable def Only (x : Str) (o : List (Str × Value)) : Prop := ∀ y, y ≠ x → List.lookup y o = none
theorem only_nil (x : Str) : Only x [] := fun _ _ => rfl
theorem only_one (x : Str) (v : Value) : Only x [(x, v)] := fun y h => by
  have : (y == x) = false := by simpa using h
  simp [List.lookup, this]
theorem for_in {x : Str} {v : Value} {l o : List (Str × Value)} (ho : Only x o) : (fun y => if y = x then some v else List.lookup y (l ++ o)) = fun y => List.lookup y ((x, v) :: l) := by
  funext y
  by_cases e : y = x
  · subst e; simp [List.lookup]
  · have : (y == x) = false := by simpa using e
    rw [if_neg e, lookup_app, List.lookup_cons, this, ho y e]
    cases List.lookup y l <;> rfl
theorem for_out {x : Str} {v : Value} {l : List (Str × Value)} (hl : List.lookup x l = none) : (fun y => List.lookup y ((x, v) :: l)) = fun y => List.lookup y (l ++ [(x, v)]) := by
  funext y
  rw [lookup_app, List.lookup_cons]
  by_cases e : y = x
  · subst e; simp [hl, List.lookup]
  · have : (y == x) = false := by simpa using e
    rw [this]
    cases List.lookup y l <;> simp [List.lookup, this]

inductive ForNext {σ : Type} (h₀ : Heap) (L : Addr) (sg : Array GenState) (sd : Drawn) (so : OsState) (x : Str) (I : Addr) (it : Obj) (v : Value) (lf : σ → List (Str × Value)) (nf : σ → List (Addr × Obj)) (J : σ → Prop) (s₂ : Shared) : Prop
  | mk (c : σ) (h : Heap) (tk : Nat) (e : s₂ = Shared.mk h sg sd tk so) (F : Fr h₀ L h (fun y => List.lookup y ((x, v) :: lf c))) (N : News h₀ L h ((I, it) :: nf c)) (Nd : (I :: (nf c).map (·.1)).Nodup) (hj : J c) : ForNext h₀ L sg sd so x I it v lf nf J s₂
noncomputable def ForPost {σ : Type} (h₀ : Heap) (L : Addr) (sg : Array GenState) (sd : Drawn) (so : OsState) (x : Str) (I : Addr) (it : Obj) (v : Value) (lf : σ → List (Str × Value)) (nf : σ → List (Addr × Obj)) (J : σ → Prop) (Q : Flow → Shared → Prop) (f : Flow) (s₂ : Shared) : Prop :=
  match f with
  | .ret u => Q (.ret u) s₂
  | .brk => Q .next s₂
  | _ => ForNext h₀ L sg sd so x I it v lf nf J s₂

section
variable {prog : Program} {w : World} {A : Around} {sh : Heap} {sg : Array GenState} {sd : Drawn} {stk : Nat} {so : OsState} {env : Env} {h₀ : Heap} {x : Str} {body : List Stmt} {Q : Flow → Shared → Prop}

theorem for_list {σ : Type} (lf : σ → List (Str × Value)) (nf : σ → List (Addr × Obj)) (J : List Value → σ → Prop) (c₀ : σ) {D : Addr} {vs : List Value} {n : Nat}
    (hlx : ∀ c, List.lookup x (lf c) = none) (hh : A.handled = none) (F : Fr h₀ env.locals sh (fun y => List.lookup y (lf c₀))) (N : News h₀ env.locals sh (nf c₀)) (hm : ∀ r c, J r c → (D, listOf vs.toArray n) ∈ nf c)
    (Nd : ((nf c₀).map (·.1)).Nodup) (hj : J vs c₀)
    (turn : ∀ v r c I it h tk, J (v :: r) c → Fr h₀ env.locals h (fun y => List.lookup y ((x, v) :: lf c)) → News h₀ env.locals h ((I, it) :: nf c) → (I :: (nf c).map (·.1)).Nodup →
      wpAny (model prog w) A (execs body env) (ForPost h₀ env.locals sg sd so x I it v lf nf (J r) Q) (fun _ _ => False) (Shared.mk h sg sd tk so))
    (done : ∀ c h tk o, J [] c → Only x o → Fr h₀ env.locals h (fun y => List.lookup y (lf c ++ o)) → News h₀ env.locals h (nf c) → ((nf c).map (·.1)).Nodup → Q .next (Shared.mk h sg sd tk so)) :
    wpAny (model prog w) A (pyIter (.ref D)) (fun it s₂ => LoopAtV prog w A h₀ env x body Q (fun _ _ => False) it s₂) (fun _ _ => False) (Shared.mk sh sg sd stk so) := by
  refine iter_listUnr (lo := listOf vs.toArray n) hh F N (hm _ _ hj) rfl rfl fun I hI => ?_
  have hIn : ∀ p ∈ nf c₀, p.1 ≠ I := fun p hp e => absurd (hI p hp) (e ▸ Nat.lt_irrefl _)
  have key : ∀ (r : List Value) (c : σ) (o : List (Str × Value)), J r c → Only x o → (I :: (nf c).map (·.1)).Nodup → ListRest prog w A (fun _ _ => False) h₀ env x body Q (Shared.mk sh sg sd stk so) I (D, listOf vs.toArray n) r (fun y => List.lookup y (lf c ++ o)) (nf c) := by
    intro r
    induction r with
    | nil => exact fun c o hj ho hn => ListRest.zero fun h tk F N => done c h tk o hj ho F N (nd_tl hn)
    | cons v r ih =>
      intro c o hj ho hn
      refine ListRest.succ fun it h tk _ F N => ?_
      rw [for_in ho] at F
      refine wpAny_mono (turn v r c I it h tk hj F N hn) (fun f s₂ p => ?_) fun _ _ e => e
      have fin : ForPost h₀ env.locals sg sd so x I it v lf nf (J r) Q .next s₂ → UnrEnd h₀ env.locals (Shared.mk h sg sd tk so) I it (fun m' n' => (D, listOf vs.toArray n) ∈ n' ∧ ListRest prog w A (fun _ _ => False) h₀ env x body Q (Shared.mk sh sg sd stk so) I (D, listOf vs.toArray n) r m' n') s₂ := by
        rintro ⟨c', h', tk', e, F', N', hn', hj'⟩
        rw [for_out (hlx c')] at F'
        exact ⟨h', tk', _, nf c', e, F', N', ne_hd (p := (I, it)) hn', hm _ _ hj', ih c' [(x, v)] hj' (only_one x v) hn'⟩
      cases f with
      | ret v => exact p
      | brk => exact p
      | next => exact fin p
      | cont => exact fin p
  have k := key vs c₀ [] hj (only_nil x) (nodup_push hIn Nd)
  rw [List.append_nil] at k
  exact k

theorem for_range {σ : Type} (lf : σ → List (Str × Value)) (nf : σ → List (Addr × Obj)) (J : Nat → σ → Prop) (c₀ : σ) {r : Addr} {t₀ u₀ v₀ : Tok} {n : Nat}
    (hlx : ∀ c, List.lookup x (lf c) = none) (hh : A.handled = none) (hr : IsRange sh r 0 n 1 t₀ u₀ v₀) (hsm : n ≤ 1000000) (F : Fr h₀ env.locals sh (fun y => List.lookup y (lf c₀))) (N : News h₀ env.locals sh (nf c₀))
    (Nd : ((nf c₀).map (·.1)).Nodup) (hj : J 0 c₀)
    (turn : ∀ i t c I it h tk, i < n → J i c → Fr h₀ env.locals h (fun y => List.lookup y ((x, .int (i : Int) t) :: lf c)) → News h₀ env.locals h ((I, it) :: nf c) → (I :: (nf c).map (·.1)).Nodup →
      wpAny (model prog w) A (execs body env) (ForPost h₀ env.locals sg sd so x I it (.int (i : Int) t) lf nf (J (i + 1)) Q) (fun _ _ => False) (Shared.mk h sg sd tk so))
    (done : ∀ c h tk o, J n c → Only x o → Fr h₀ env.locals h (fun y => List.lookup y (lf c ++ o)) → News h₀ env.locals h (nf c) → ((nf c).map (·.1)).Nodup → Q .next (Shared.mk h sg sd tk so)) :
    wpAny (model prog w) A (pyIter (.ref r)) (fun it s₂ => LoopAtV prog w A h₀ env x body Q (fun _ _ => False) it s₂) (fun _ _ => False) (Shared.mk sh sg sd stk so) := by
  refine iter_rangeUnr (n := n) hh hr ?_ ?_ F N fun I hI => ?_
  · exact small_one (by (first | lia | omega)) (by (first | lia | omega)) (by (first | lia | omega)) (by (first | lia | omega))
  · exact rangeSize_nat _ _
  have hIn : ∀ p ∈ nf c₀, p.1 ≠ I := fun p hp e => absurd (hI p hp) (e ▸ Nat.lt_irrefl _)
  have key : ∀ (k i : Nat) (c : σ) (o : List (Str × Value)), i + k = n → J i c → Only x o → (I :: (nf c).map (·.1)).Nodup → RangeRest prog w A (fun _ _ => False) h₀ env x body Q (Shared.mk sh sg sd stk so) I 0 n k i (fun y => List.lookup y (lf c ++ o)) (nf c) := by
    intro k
    induction k with
    | zero => exact fun i c o hi hj ho hn => RangeRest.zero fun h tk F N => done c h tk o (by have : i = n := by (first | lia | omega)
                                                                                              exact this ▸ hj) ho F N (nd_tl hn)
    | succ k ih =>
      intro i c o hi hj ho hn
      refine RangeRest.succ fun t h tk F N => ?_
      rw [for_in ho, Int.zero_add] at F
      refine wpAny_mono (turn i t c I _ h tk (by (first | lia | omega)) hj F N hn) (fun f s₂ p => ?_) fun _ _ e => e
      have fin : ForPost h₀ env.locals sg sd so x I (itR (0 + ((i + 1 : Nat) : Int)) ((n : Int) - ((i + 1 : Nat) : Int))) (.int (i : Int) t) lf nf (J (i + 1)) Q .next s₂ → UnrEnd h₀ env.locals (Shared.mk h sg sd tk so) I (itR (0 + ((i + 1 : Nat) : Int)) ((n : Int) - ((i + 1 : Nat) : Int))) (RangeRest prog w A (fun _ _ => False) h₀ env x body Q (Shared.mk sh sg sd stk so) I 0 n k (i + 1)) s₂ := by
        rintro ⟨c', h', tk', e, F', N', hn', hj'⟩
        rw [for_out (hlx c')] at F'
        exact ⟨h', tk', _, nf c', e, F', N', ne_hd (p := (I, default)) hn', ih (i + 1) c' _ (by (first | lia | omega)) hj' (only_one x _) hn'⟩
      cases f with
      | ret v => exact p
      | brk => exact p
      | next => exact fin p
      | cont => exact fin p
  have k := key n 0 c₀ [] (by (first | lia | omega)) hj (only_nil x) (nodup_push hIn Nd)
  rw [List.append_nil] at k
  exact k

variable {E : Value → Shared → Prop} {L b : Addr} {m : Str → Option Value} {news : List (Addr × Obj)} {vs : List Value} {n : Nat} {R : Value → Shared → Prop}
noncomputable abbrev tupObj (vs : List Value) : Obj := { cls := .type "tuple", data := .seq vs.toArray }
theorem l_copy (F : Fr h₀ L sh m) (N : News h₀ L sh news) (hm : (b, listOf vs.toArray n) ∈ news) (hz : vs.length ≤ 1000000)
    (h : ∀ D c h', Fr h₀ L h' m → News h₀ L h' ((D, listOf vs.toArray c) :: news) → (∀ q ∈ news, q.1 < D) → R (.ref D) (Shared.mk h' sg sd stk so)) : wpAny (model prog w) A (call (.type "list") [.ref b]) R E (Shared.mk sh sg sd stk so) :=
  list_copyK F N (N.isList hm) h (by rw [List.size_toArray, sizeLine_eq]; (first | lia | omega))
theorem l_copyT (F : Fr h₀ L sh m) (N : News h₀ L sh news) (hm : (b, ({ cls := .type "tuple", data := .seq vs.toArray n } : Obj)) ∈ news) (hz : vs.length ≤ 1000000)
    (h : ∀ D c h', Fr h₀ L h' m → News h₀ L h' ((D, listOf vs.toArray c) :: news) → (∀ q ∈ news, q.1 < D) → R (.ref D) (Shared.mk h' sg sd stk so)) : wpAny (model prog w) A (call (.type "list") [.ref b]) R E (Shared.mk sh sg sd stk so) :=
  list_copyKT F N (N.isTup hm) h (by rw [List.size_toArray, sizeLine_eq]; (first | lia | omega))
theorem l_tuple (F : Fr h₀ L sh m) (N : News h₀ L sh news) (hm : (b, listOf vs.toArray n) ∈ news) (hz : vs.length ≤ 10000)
    (h : ∀ D h', Fr h₀ L h' m → News h₀ L h' ((D, tupObj vs) :: news) → (∀ q ∈ news, q.1 < D) → R (.ref D) (Shared.mk h' sg sd stk so)) : wpAny (model prog w) A (call (.type "tuple") [.ref b]) R E (Shared.mk sh sg sd stk so) :=
  kde_tupleOf F N (N.isList hm) (by rw [List.size_toArray]; (first | lia | omega)) rfl h
end
inductive SeqAt (P : Params) (ex : List (Addr × Obj)) (b : Addr) (vs : List Value) : Prop
  | list {n : Nat} : (b, listOf vs.toArray n) ∈ ex → SeqAt P ex b vs
  | tup {n : Nat} : (b, ({ cls := .type "tuple", data := .seq vs.toArray n } : Obj)) ∈ ex → SeqAt P ex b vs
  | top {n : Nat} : (hd.heap_1_1 P).lookup b = some { cls := .type "tuple", dict := none, data := .seq vs.toArray n, slots := #[] } → SeqAt P ex b vs
section
variable {prog : Program} {w : World} {A : Around} {sh : Heap} {sg : Array GenState} {sd : Drawn} {stk : Nat} {so : OsState} {h₀ : Heap} {E : Value → Shared → Prop} {L b : Addr} {m : Str → Option Value} {news ex : List (Addr × Obj)} {vs : List Value} {n : Nat} {R : Value → Shared → Prop}
theorem l_copyS (X : (hd.heap_1_1 w.params).In h₀) (F : Fr h₀ L sh m) (N : News h₀ L sh news) (hb : SeqAt w.params ex b vs) (hs : ∀ p ∈ ex, p ∈ news) (hz : vs.length ≤ 1000000)
    (h : ∀ D c h', Fr h₀ L h' m → News h₀ L h' ((D, listOf vs.toArray c) :: news) → (∀ q ∈ news, q.1 < D) → R (.ref D) (Shared.mk h' sg sd stk so)) : wpAny (model prog w) A (call (.type "list") [.ref b]) R E (Shared.mk sh sg sd stk so) := by
  cases hb with
  | list hm => exact l_copy F N (hs _ hm) hz h
  | tup hm => exact l_copyT F N (hs _ hm) hz h
  | top hk => exact list_copyKT F N ⟨_, (X.keeps F.keep) _ _ hk, rfl, _, rfl⟩ h (by rw [List.size_toArray, sizeLine_eq]; (first | lia | omega))

noncomputable def Tl (P : Params) (a : BA) (g : Sg) (l ex : List (Addr × Obj)) : Prop := l = ex ++ obs P a g
theorem tl_nil {P : Params} {a : BA} {g : Sg} {ex : List (Addr × Obj)} : Tl P a g (ex ++ obs P a g) ex := rfl
theorem tl_cons {P : Params} {a : BA} {g : Sg} {l ex : List (Addr × Obj)} {x : Addr × Obj} (h : Tl P a g l ex) : Tl P a g (x :: l) (x :: ex) := congrArg (x :: ·) h
noncomputable abbrev headO (P : Params) (a : BA) (g : Sg) : List (Addr × Obj) :=
  fixO P a g.fo ++ [(a.si, listOf g.si.toArray g.e0), (a.fi, listOf g.fi.toArray g.e1), (a.ki, listOf g.ki.toArray g.e2), (a.sp, listOf g.sp.toArray g.e3), (a.na, listOf g.na.toArray g.e4), (a.ar, listOf g.ar.toArray g.e5), (a.te, listOf g.te.toArray g.e6), (a.pa, listOf g.pa.toArray g.e7)]
theorem obs_split (P : Params) (a : BA) (g : Sg) : obs P a g = headO P a g ++ (a.ch, listOf (refsOf1 g.kids).toArray g.e8) :: (a.co, g.co) :: (g.kids ++ g.inn) := rfl
theorem perm_in {α : Type} (x : α) (A B : List α) (c d : α) (K I : List α) : List.Perm (x :: (A ++ (B ++ c :: d :: (K ++ I)))) (A ++ (B ++ c :: d :: ((K ++ [x]) ++ I))) := by
  have e1 : A ++ (B ++ c :: d :: (K ++ I)) = (A ++ (B ++ c :: d :: K)) ++ I := by simp
  have e2 : A ++ (B ++ c :: d :: ((K ++ [x]) ++ I)) = (A ++ (B ++ c :: d :: K)) ++ x :: I := by simp
  rw [e1, e2]
  exact List.perm_middle.symm
theorem l_addkid {a : BA} {g : Sg} {D : Addr} {c : Nat} {l : List (Addr × Obj)} (F : Fr h₀ L sh m) (N : News h₀ L sh ((D, listOf [].toArray c) :: l)) (hl : Tl w.params a g l ex) (Nd : (D :: l.map (·.1)).Nodup) (hz : g.kids.length ≤ 1000000)
    (h : ∀ h', Fr h₀ L h' m → News h₀ L h' (ex ++ obs w.params a { g with kids := g.kids ++ [(D, listOf [].toArray c)], e8 := g.e8 + 1 }) → ((ex ++ obs w.params a { g with kids := g.kids ++ [(D, listOf [].toArray c)], e8 := g.e8 + 1 }).map (·.1)).Nodup → R .none (Shared.mk h' sg sd stk so)) :
    wpAny (model prog w) A (call (.builtin "list.append") [.ref a.ch, .ref D]) R E (Shared.mk sh sg sd stk so) := by
  unfold Tl at hl
  subst hl
  have Nd' : ((ex ++ (headO w.params a g ++ (a.ch, listOf (refsOf1 g.kids).toArray g.e8) :: (a.co, g.co) :: (g.kids ++ g.inn))).map (·.1)).Nodup := nd_tl Nd
  have U := upd_in (o' := listOf (refsOf1 g.kids ++ [Value.ref D]).toArray (g.e8 + 1)) ex _ _ Nd'
  have U' := upd_tl (p := (D, listOf [].toArray c)) Nd (by simp) U
  have e : refsOf1 (g.kids ++ [(D, listOf [].toArray c)]) = refsOf1 g.kids ++ [.ref D] := by simp
  have pm := perm_in (D, listOf [].toArray c) ex (headO w.params a g) (a.ch, listOf (refsOf1 g.kids ++ [Value.ref D]).toArray (g.e8 + 1)) (a.co, g.co) g.kids g.inn
  have q : ex ++ obs w.params a { g with kids := g.kids ++ [(D, listOf [].toArray c)], e8 := g.e8 + 1 } = ex ++ (headO w.params a g ++ (a.ch, listOf (refsOf1 g.kids ++ [Value.ref D]).toArray (g.e8 + 1)) :: (a.co, g.co) :: ((g.kids ++ [(D, listOf [].toArray c)]) ++ g.inn)) := by
    rw [obs_split]; simp only [e]
  rw [q] at h
  refine l_append F N U' (by simpa using hz) fun h' F' N' ke => h h' F' (News.sub N' fun p hp => pm.mem_iff.mpr hp) ?_
  have z : ((((D, listOf [].toArray c) :: (ex ++ (headO w.params a g ++ (a.ch, listOf (refsOf1 g.kids ++ [Value.ref D]).toArray (g.e8 + 1)) :: (a.co, g.co) :: (g.kids ++ g.inn)))) : List (Addr × Obj)).map (·.1)).Nodup := nodup_eq ke Nd
  exact (pm.map _).nodup_iff.mp z
end

theorem perm_inn {α : Type} (x : α) (A B : List α) (c d : α) (K I : List α) : List.Perm (x :: (A ++ (B ++ c :: d :: (K ++ I)))) (A ++ (B ++ c :: d :: (K ++ (I ++ [x])))) := by
  have e1 : A ++ (B ++ c :: d :: (K ++ I)) = (A ++ (B ++ c :: d :: (K ++ I))) ++ [] := by simp
  have e2 : A ++ (B ++ c :: d :: (K ++ (I ++ [x]))) = (A ++ (B ++ c :: d :: (K ++ I))) ++ x :: [] := by simp
  rw [e1, e2]
  exact List.perm_middle.symm
theorem absorb {P : Params} {ex : List (Addr × Obj)} {a : BA} {g : Sg} {h₀ h : Heap} {L : Addr} {p : Addr × Obj} (N : News h₀ L h (p :: (ex ++ obs P a g))) (Nd : (p.1 :: (ex ++ obs P a g).map (·.1)).Nodup) :
    News h₀ L h (ex ++ obs P a { g with inn := g.inn ++ [p] }) ∧ ((ex ++ obs P a { g with inn := g.inn ++ [p] }).map (·.1)).Nodup := by
  have pm := perm_inn p ex (headO P a g) (a.ch, listOf (refsOf1 g.kids).toArray g.e8) (a.co, g.co) g.kids g.inn
  refine ⟨News.sub N fun q hq => pm.mem_iff.mpr hq, ?_⟩
  have z : ((p :: (ex ++ obs P a g)).map (·.1)).Nodup := Nd
  exact (pm.map _).nodup_iff.mp z
theorem PairAt.mono {l l' : List (Addr × Obj)} (hs : ∀ p ∈ l, p ∈ l') {v : Value} {p : Str × Str} (h : PairAt l v p) : PairAt l' v p := by
  obtain ⟨c, t1, t2, n, e, hm⟩ := h
  exact ⟨c, t1, t2, n, e, hs _ hm⟩
theorem AttrAt.mono {l l' : List (Addr × Obj)} (hs : ∀ p ∈ l, p ∈ l') {v : Value} {ps : List (Str × Str)} (h : AttrAt l v ps) : AttrAt l' v ps := by
  obtain ⟨c, vs, n, e, hm, hp⟩ := h
  exact ⟨c, vs, n, e, hs _ hm, hp.mono fun _ _ => PairAt.mono hs⟩
theorem Sv.inn {prog : Program} {w : World} {a : BA} {g : Sg} {S : St} (V : Sv prog w a g S) (l : List (Addr × Obj)) : Sv prog w a { g with inn := g.inn ++ l } S :=
  { V with ar := V.ar.mono fun _ _ => AttrAt.mono fun p hp => List.mem_append_left _ hp, kp := fun p hp => List.mem_append_left _ (V.kp p hp) }
inductive BwA (prog : Program) (w : World) (h₀ : Heap) (L : Addr) (h : Heap) (ex : List (Addr × Obj)) (a : BA) (S : St) (vs : List Value) (ps : List (Str × Str)) : Prop
  | mk (g : Sg) (N : News h₀ L h (ex ++ obs w.params a g)) (Nd : ((ex ++ obs w.params a g).map (·.1)).Nodup) (V : Sv prog w a g S) (hp : All2 (PairAt g.inn) vs ps) : BwA prog w h₀ L h ex a S vs ps
theorem Bw.toA {prog : Program} {w : World} {h₀ h : Heap} {L : Addr} {ex : List (Addr × Obj)} {a : BA} {S : St} (W : Bw prog w h₀ L h ex a S) : BwA prog w h₀ L h ex a S [] [] := by
  obtain ⟨g, N, Nd, V⟩ := W
  exact ⟨g, N, Nd, V, trivial⟩
example : True := by
  k_with "o m tl" => (first | exact tl_nil | (refine' tl_cons ?tlx_59; (case tlx_59 => k_extra "o m tl")))
  k_with "o call builtin:list.append" => ((k_here; k_dflt (refine' l_addkid ?k1_60 ?k2_60 ?k3_60 ?k4_60 ?k5_60 ?_; (case k1_60 => k_asm); (case k2_60 => k_asm); (case k3_60 => k_extra "o m tl"); (case k4_60 => k_extra "o m nd"); (case k5_60 => k_extra "o m ar"); k_whole); clear Nd; intro h' F' N' Nd; (try dsimp only [List.cons_append, List.map] at N' Nd); (try k_sweep)))
  k_with "o call type:list" => ((k_here; (with_reducible show wpAny _ _ (call (Value.type _) [Value.ref _]) _ _ _); k_dflt (refine' l_copyS ?k0_61 ?k1_61 ?k2_61 ?k3_61 ?k4_61 ?k5_61 ?_; (case k0_61 => assumption); (case k1_61 => k_asm); (case k2_61 => k_asm); (case k3_61 => assumption); (case k4_61 => first | (intro p hp; cases hp; done) | (intro p hp; simp [hp]; done)); (case k5_61 => k_extra "o m ar"); k_whole); intro D' c' h' F' N' l1; (try replace l1 := ne_all l1); k_dflt (try replace Nd := nodup_push l1 Nd); (try dsimp only [List.map] at Nd); (try k_sweep)))
  k_with "o call type:list" => ((k_here; (with_reducible show wpAny _ _ (call (Value.type _) [Value.ref _]) _ _ _); k_dflt (first | (refine' l_copy ?k1_62 ?k2_62 ?k3_62 ?k4_62 ?_; (case k1_62 => k_asm); (case k2_62 => k_asm); (case k3_62 => k_extra "o mem"); (case k4_62 => k_extra "o m ar"); k_whole) | (refine' l_copyT ?k1_62 ?k2_62 ?k3_62 ?k4_62 ?_; (case k1_62 => k_asm); (case k2_62 => k_asm); (case k3_62 => k_extra "o mem"); (case k4_62 => k_extra "o m ar"); k_whole)); intro D' c' h' F' N' l1; (try replace l1 := ne_all l1); k_dflt (try replace Nd := nodup_push l1 Nd); (try dsimp only [List.map] at Nd); (try k_sweep)))
  k_with "o call type:tuple" => ((k_here; (with_reducible show wpAny _ _ (call (Value.type _) [Value.ref _]) _ _ _); k_dflt (refine' l_tuple ?k1_63 ?k2_63 ?k3_63 ?k4_63 ?_; (case k1_63 => k_asm); (case k2_63 => k_asm); (case k3_63 => k_extra "o mem"); (case k4_63 => k_extra "o m ar"); k_whole); intro D' h' F' N' l1; (try replace l1 := ne_all l1); k_dflt (try replace Nd := nodup_push l1 Nd); (try dsimp only [List.map] at Nd); (try k_sweep)))
  trivial

theorem lookup_encC (k : Int) : ∀ c : List (Int × Int), PySem.Spec.lookup (.int k) (encC c) = (List.lookup k c).map PyData.int
  | [] => rfl
  | (a, b) :: c => by
    show (if same (PyData.int a) (PyData.int k) = true then some (PyData.int b) else PySem.Spec.lookup (.int k) (encC c)) = _
    rw [same_int, List.lookup_cons, lookup_encC k c]
    by_cases e : a = k
    · subst e; simp
    · have e' : (k == a) = false := by simpa using fun q : k = a => e q.symm
      simp [e, e']
theorem putD_encC {k v : Int} {c : List (Int × Int)} (h : List.lookup k c = none) : putD (.int k) (.int v) (encC c) = encC (c ++ [(k, v)]) := by
  have hn : ∀ c : List (Int × Int), List.lookup k c = none → (encC c).any (fun p => same p.1 (.int k)) = false := by
    intro c
    induction c with
    | nil => intro _; rfl
    | cons p c ih =>
      intro h
      rw [List.lookup_cons] at h
      by_cases e : k = p.1
      · have e' : (k == p.1) = true := by simpa using e
        rw [e'] at h; cases h
      · have e' : (k == p.1) = false := by simpa using e
        rw [e'] at h
        show (same (PyData.int p.1) (.int k) || (encC c).any fun p => same p.1 (.int k)) = false
        have e2 : ¬ p.1 = k := fun q => e q.symm
        rw [same_int, ih h]; simp [e2]
  unfold putD
  rw [if_neg (by rw [hn c h]; decide)]
  simp [encC]
theorem updF_of {d : Addr} {o : Obj} : ∀ {pre post : List (Addr × Obj)}, ((pre ++ (d, o) :: post).map (·.1)).Nodup → UpdF d o (pre ++ (d, o) :: post) (fun o' => pre ++ (d, o') :: post)
  | [], post, h => .head (ne_hd (p := (d, o)) h)
  | q :: pre, post, h => by
    rw [List.cons_append, List.map_cons, List.nodup_cons] at h
    refine UpdF.tail (fun e => h.1 ?_) (updF_of h.2)
    rw [e, List.map_append]
    exact List.mem_append_right _ (by simp)
theorem updF_in {d : Addr} {o : Obj} (ex pre post : List (Addr × Obj)) (h : ((ex ++ (pre ++ (d, o) :: post)).map (·.1)).Nodup) : UpdF d o (ex ++ (pre ++ (d, o) :: post)) (fun o' => ex ++ (pre ++ (d, o') :: post)) := by
  have e : ∀ x : Addr × Obj, ex ++ (pre ++ x :: post) = (ex ++ pre) ++ x :: post := fun x => app3 ..
  rw [e] at h
  have q := updF_of h
  rw [e]
  have e2 : (fun o' => ex ++ (pre ++ (d, o') :: post)) = fun o' => (ex ++ pre) ++ (d, o') :: post := funext fun o' => e _
  rw [e2]; exact q
theorem uf_co {P : Params} {ex : List (Addr × Obj)} {a : BA} {g : Sg} (h : ((ex ++ obs P a g).map (·.1)).Nodup) : UpdF a.co g.co (ex ++ obs P a g) (fun o' => ex ++ obs P a { g with co := o' }) :=
  updF_in ex (headO P a g ++ [(a.ch, listOf (refsOf1 g.kids).toArray g.e8)]) (g.kids ++ g.inn) (by simpa using h)
theorem uf_hd {l : List (Addr × Obj)} {d : Addr} {o : Obj} (hn : (d :: l.map (·.1)).Nodup) : UpdF d o ((d, o) :: l) (fun o' => (d, o') :: l) := .head (ne_hd (p := (d, o)) hn)
theorem uf_tl {l : List (Addr × Obj)} {g : Obj → List (Addr × Obj)} {p : Addr × Obj} {d : Addr} {o : Obj} (hn : (p.1 :: l.map (·.1)).Nodup) (hm : (d, o) ∈ l) (h : UpdF d o l g) : UpdF d o (p :: l) (fun o' => p :: g o') := .tail (fun e => ne_hd hn _ hm e.symm) h
theorem uf_keys {d : Addr} {o : Obj} {l : List (Addr × Obj)} {g : Obj → List (Addr × Obj)} (U : UpdF d o l g) (o' : Obj) : (g o').map (·.1) = l.map (·.1) := by
  obtain ⟨pre, post, rfl, hg, _, _⟩ := U.split
  rw [hg]; simp

section
variable {prog : Program} {w : World} {A : Around} {E : Value → Shared → Prop} {sh : Heap} {sg : Array GenState} {sd : Drawn} {stk : Nat} {so : OsState} {h₀ : Heap} {L D : Addr} {m : Str → Option Value} {news : List (Addr × Obj)} {o : Obj} {c : List (Int × Int)} {k : Int} {t : Tok} {value slice : PySem.Expr}
theorem d_tab (N : News h₀ L sh news) (hm : (D, o) ∈ news) (hd : IDict prog w o c) (hn : (D == sysModules) = false) : IntTab prog w sh D (encC c) := by
  obtain ⟨kvs, h1, h2⟩ := hd
  exact TabAt.ofNews N hm hn h1 h2
theorem d_in {Q : Value → Shared → Prop} (N : News h₀ L sh news) (hm : (D, o) ∈ news) (hd : IDict prog w o c) (hn : (D == sysModules) = false) (h : ∀ tk, Q (.bool (List.lookup k c).isSome) (Shared.mk sh sg sd tk so)) :
    wpAny (model prog w) A (compareOp .In (.int k t) (.ref D)) Q E (Shared.mk sh sg sd stk so) :=
  in_intTab (d_tab N hm hd hn) (by rw [lookup_encC]; simpa using h _)
theorem d_sub {v : Int} {Q : Value → Shared → Prop} (N : News h₀ L sh news) (hm : (D, o) ∈ news) (hd : IDict prog w o c) (hn : (D == sysModules) = false) (hk : List.lookup k c = some v) (h : ∀ u tk, Q (.int v u) (Shared.mk sh sg sd tk so))
    (hs : subscripted slice false (.ref D) (.int k t) = operate [.ref D, .int k t] (getItem (.ref D) (.int k t))) :
    wpAny (model prog w) A (subscriptTail value slice (.ref D) (.int k t)) Q E (Shared.mk sh sg sd stk so) := by
  have T := d_tab N hm hd hn
  obtain ⟨lo, kvs, hd', hf⟩ := T
  obtain ⟨x, hv, hfl⟩ := hf.of_lookup same_int (k := k) (by rw [lookup_encC, hk]; rfl)
  obtain ⟨u, rfl⟩ := hfl.int_inv
  exact tail_any hd'.typeIs slot_dict_getitem.lookup (wpAny_getItem_of (intKind_is prog w k t) hd'.mapOf hv (h _ _)) hs
theorem d_method {pl : Sem Bool} {Q : Value × List Value → Shared → Prop} (N : News h₀ L sh news) (hm : (D, o) ∈ news) (hd : IDict prog w o c) (hn : (D == sysModules) = false) (h : Q (.builtin "dict.get", [.ref D]) (Shared.mk sh sg sd stk so)) :
    wpAny (model prog w) A (getMethod (.ref D) "get" pl) Q E (Shared.mk sh sg sd stk so) := getMethod_intTab_get (d_tab N hm hd hn) h
theorem d_get2 {y : Int} {ty : Tok} {Q : Value → Shared → Prop} (N : News h₀ L sh news) (hm : (D, o) ∈ news) (hd : IDict prog w o c) (hn : (D == sysModules) = false) (h : ∀ u tk, Q (.int ((List.lookup k c).getD y) u) (Shared.mk sh sg sd tk so)) :
    wpAny (model prog w) A (call (.builtin "dict.get") [.ref D, .int k t, .int y ty]) Q E (Shared.mk sh sg sd stk so) := by
  refine call_get2_intTab (d_tab N hm hd hn) (Flat.int y ty) fun v hv => ?_
  rw [lookup_encC] at hv
  have e : ((List.lookup k c).map PyData.int).getD (.int y) = .int ((List.lookup k c).getD y) := by cases List.lookup k c <;> rfl
  rw [e] at hv
  obtain ⟨u, rfl⟩ := hv.int_inv
  exact h _ _
theorem d_set {v : Int} {tv : Tok} {gf : Obj → List (Addr × Obj)} {Q : Unit → Shared → Prop} (F : Fr h₀ L sh m) (N : News h₀ L sh news) (U : UpdF D o news gf) (hd : IDict prog w o c) (hk : List.lookup k c = none) (hz : c.length ≤ 1000000)
    (h : ∀ h' o' tk, Fr h₀ L h' m → News h₀ L h' (gf o') → (gf o').map (·.1) = news.map (·.1) → IDict prog w o' (c ++ [(k, v)]) → Q () (Shared.mk h' sg sd tk so)) :
    wpAny (model prog w) A (setItem (.ref D) (.int k t) (.int v tv)) Q E (Shared.mk sh sg sd stk so) := by
  obtain ⟨kvs, h1, h2⟩ := hd
  refine setItem_K same_int (intKind_is prog w k t) (Flat.int v tv) F N U h1 h2 (fun h' o' F' N' h3 h4 => h h' o' _ F' N' (uf_keys U o') ⟨_, h3, by rw [← putD_encC hk]; exact h4⟩) ?_
  rw [sizeLine_eq]; show (c.map _).length ≤ _; rw [List.length_map]; (first | lia | omega)
end

example : True := by
  k_with "o k_updF" => (first | with_reducible exact uf_co (by k_extra "o m nd") | with_reducible exact uf_hd (by k_extra "o m nd") | ((with_reducible refine' uf_tl ?ufn_64 ?ufm_64 ?ufu_64); (case ufn_64 => k_extra "o m nd"); (case ufm_64 => k_extra "o mem"); (case ufu_64 => k_updF)))
  k_with "o m dict" => (first | assumption | exact Sv.co (by assumption))
  k_with "o m nosys" => (first | assumption | exact Sv.nosys (by assumption))
  k_with "o compareOp In int ref" => ((k_here; k_dflt (refine' d_in ?k1_67 ?k2_67 ?k3_67 ?k4_67 ?_; (case k1_67 => k_asm); (case k4_67 => with_reducible k_extra "o m nosys"); (case k2_67 => k_extra "o mem"); (case k3_67 => k_extra "o m dict"); k_whole); intro tk'))
  k_with "o subscriptTail" => ((k_here; (with_reducible show wpAny _ _ (subscriptTail _ _ (Value.ref _) (Value.int _ _)) _ _ _); k_dflt (refine' d_sub ?k1_68 ?k2_68 ?k3_68 ?k4_68 ?k5_68 ?_ ?k6_68; (case k1_68 => k_asm); (case k4_68 => with_reducible k_extra "o m nosys"); (case k2_68 => k_extra "o mem"); (case k3_68 => k_extra "o m dict"); (case k5_68 => assumption); (case k6_68 => with_unfolding_all rfl); k_whole); intro tu' tk'))
  k_with "o getMethod ref" => ((k_here; (with_reducible show wpAny _ _ (getMethod (Value.ref _) (PySem.Str.ofString "get") _) _ _ _); k_dflt (refine' d_method ?k1_69 ?k2_69 ?k3_69 ?k4_69 ?_; (case k1_69 => k_asm); (case k4_69 => with_reducible k_extra "o m nosys"); (case k2_69 => k_extra "o mem"); (case k3_69 => k_extra "o m dict"); k_whole)))
  k_with "o call builtin:dict.get" => ((k_here; k_dflt (refine' d_get2 ?k1_70 ?k2_70 ?k3_70 ?k4_70 ?_; (case k1_70 => k_asm); (case k4_70 => with_reducible k_extra "o m nosys"); (case k2_70 => k_extra "o mem"); (case k3_70 => k_extra "o m dict"); k_whole); intro tu' tk'))
  k_with "o setItem ref int" => ((k_here; (with_reducible show wpAny _ _ (setItem (Value.ref _) (Value.int _ _) (Value.int _ _)) _ _ _); k_dflt (refine' d_set ?k1_71 ?k2_71 ?k3_71 ?k4_71 ?k5_71 ?k6_71 ?_; (case k1_71 => k_asm); (case k2_71 => k_asm); (case k3_71 => k_updF); (case k4_71 => k_extra "o m dict"); (case k5_71 => assumption); (case k6_71 => first | assumption | k_extra "o m ar"); k_whole); intro h' o' tk' F' N' ke' hD'; k_dflt (try replace Nd := nodup_eq ke' Nd); (try dsimp only [List.map] at Nd); clear ke'; (try k_sweep)))
  trivial

inductive AV where
  | val (v : Value)
  | int (n : Int)
  | str (x : Str)
noncomputable def AV.All : AV → (Value → Prop) → Prop
  | .val v, k => k v
  | .int n, k => ∀ t, k (.int n t)
  | .str x, k => ∀ t, k (.str x t)
noncomputable def AVL : List AV → (List Value → Prop) → Prop
  | [], k => k []
  | av :: r, k => av.All fun v => AVL r fun vs => k (v :: vs)
structure Pu (M : Model) (A : Around) (env : Env) (h : Heap) (e : PySem.Expr) (av : AV) : Prop where
  go : ∀ g d tk o (Q : Value → Shared → Prop) (E : Value → Shared → Prop), (∀ tk', av.All fun v => Q v (Shared.mk h g d tk' o)) → wpAny M A (eval e env) Q E (Shared.mk h g d tk o)
structure PuL (M : Model) (A : Around) (env : Env) (h : Heap) (es : List PySem.Expr) (avs : List AV) : Prop where
  go : ∀ pos g d tk o (Q : List Value → Shared → Prop) (E : Value → Shared → Prop), (∀ tk', AVL avs fun vs => Q vs (Shared.mk h g d tk' o)) → wpAny M A (spliced (backTo pos (starEach es env))) Q E (Shared.mk h g d tk o)
theorem AV.All.mono {av : AV} {P Q : Value → Prop} (hh : av.All P) (k : ∀ v, P v → Q v) : av.All Q := by
  cases av with
  | val v => exact k _ hh
  | int n => exact fun t => k _ (hh t)
  | str x => exact fun t => k _ (hh t)
noncomputable def GA (prog : Program) (w : World) (A : Around) (h : Heap) (x : Addr) (nm : Str) (v : Value) : Prop :=
  ∀ ex g d tk o (Q : Value → Shared → Prop) (E : Value → Shared → Prop), (∀ tk', Q v (Shared.mk h g d tk' o)) → wpAny (model prog w) A (getAttr (.ref x) nm ex) Q E (Shared.mk h g d tk o)
structure HB (w : World) (a : BA) (g : Sg) (h : Heap) : Prop where
  X : (hd.heap_1_1 w.params).In h
  O : ∀ p ∈ obs w.params a g, h.get? p.1 = some p.2
inductive Sfx (o : List (Addr × Obj)) : List (Addr × Obj) → Prop
  | refl : Sfx o o
  | cons {x l} : Sfx o l → Sfx o (x :: l)
  | app {e l} : Sfx o l → Sfx o (e ++ l)
theorem Sfx.sub {o l : List (Addr × Obj)} (s : Sfx o l) : ∀ p ∈ o, p ∈ l := by
  induction s with
  | refl => exact fun _ hp => hp
  | cons _ ih => exact fun p hp => .tail _ (ih p hp)
  | app _ ih => exact fun p hp => List.mem_append_right _ (ih p hp)
theorem HB.of {w : World} {a : BA} {g : Sg} {h₀ h : Heap} {L : Addr} {m : Str → Option Value} {news : List (Addr × Obj)} (X : (hd.heap_1_1 w.params).In h₀) (F : Fr h₀ L h m) (N : News h₀ L h news) (s : Sfx (obs w.params a g) news) : HB w a g h :=
  ⟨X.keeps F.keep, fun p hp => (N p (s.sub p hp)).1⟩
section
variable {prog : Program} {w : World} {M : Model} {A : Around} {env : Env} {h h₀ : Heap} {a : BA} {g : Sg} {m : Str → Option Value} {x : Str} {v : Value} {pos : Pos} {e : PySem.Expr}
noncomputable def nameOk (cs : Scope) (x : Str) : Bool := (match cs.kind with | .function => true | _ => false) && (cs.names.lookup x == some .local) && !(x == ("__debug__" : Str))
theorem Pu.name {cn : Str} {cs : Scope} {L b : Addr} {ccd : Value} {cl : List (Str × Addr)} (F : Fr h₀ L h m) (hv : m x = some v) (hn : nameOk cs x = true) : Pu M A (envX cn cs L b ccd cl) h (.Name x pos) (.val v) := Pu.mk <| fun g d tk o Q E H => by
  unfold nameOk at hn
  simp only [Bool.and_eq_true, beq_iff_eq, Bool.not_eq_true'] at hn
  obtain ⟨⟨h1, h2⟩, h3⟩ := hn
  exact nameX_L F hv (H tk) (by revert h1; cases cs.kind <;> simp) h2 h3
theorem Pu.attr {y : Addr} {nm : Str} (qe : Pu (model prog w) A env h e (.val (.ref y))) (qg : GA prog w A h y nm v)
    (qx : eval (.Attribute e nm pos) env = (do
      let o ← eval e env
      standAt pos.atName
      let r ← holding [o] (getAttr o nm true)
      letTemporaryGo e o r
      pure r)) : Pu (model prog w) A env h (.Attribute e nm pos) (.val v) := Pu.mk <| fun g d tk o Q E H => by
  refine Attribute_any_ ?_ qx
  exact qe.go _ _ _ _ _ _ fun tk' => qg _ _ _ _ _ _ _ fun tk' => H tk'
theorem Pu.intc {i : Int} {k : Nat} : Pu M A env h (.Constant (.int i) k pos) (.int i) := Pu.mk <| fun g d tk o Q E H => wpAny_Constant_int (H _ _)
theorem PuL.nil : PuL M A env h [] [] := PuL.mk <| fun pos g d tk o Q E H => args_nil (H tk)
theorem AVL.mono {P Q : List Value → Prop} : ∀ {avs : List AV}, AVL avs P → (∀ v, P v → Q v) → AVL avs Q
  | [], hh, k => k _ hh
  | _ :: _, hh, k => AV.All.mono hh fun _ y => AVL.mono y fun _ z => k _ z
theorem AVL.val {av : AV} {r : List AV} {k : List Value → Prop} (hh : AVL (av :: r) k) : av.All fun v => AVL r fun vs => k (v :: vs) := hh
theorem AV.All.forall {α : Type} {av : AV} {P : α → Value → Prop} (hh : ∀ x, av.All (P x)) : av.All fun v => ∀ x, P x v := by
  cases av with
  | val v => exact fun x => hh x
  | int n => exact fun t x => hh x t
  | str y => exact fun t x => hh x t
theorem PuL.cons {es : List PySem.Expr} {av : AV} {avs : List AV} (qe : Pu M A env h e av) (qr : PuL M A env h es avs) (qs : starEach (e :: es) env = (false, eval e env) :: starEach es env) : PuL M A env h (e :: es) (av :: avs) := PuL.mk <| fun pos g d tk o Q E H =>
  args_cons (qe.go _ _ _ _ _ _ fun tk' => by
    have q := AV.All.forall fun tk => AVL.val (H tk)
    exact q.mono fun v hv => qr.go _ _ _ _ _ _ _ fun tk'' => hv tk'') qs
theorem Pu.use {av : AV} {sg : Array GenState} {sd : Drawn} {stk : Nat} {so : OsState} {Q E : Value → Shared → Prop} (he : Pu M A env h e av) (H : ∀ tk', av.All fun v => Q v (Shared.mk h sg sd tk' so)) : wpAny M A (eval e env) Q E (Shared.mk h sg sd stk so) := he.go _ _ _ _ _ _ H
structure MethK (P : Params) (C : Addr) (nm : Str) (f : Addr) : Prop where
  hg : plainGet (hd.heap_1_1 P) C nm = true
  hf : findIn (hd.heap_1_1 P) (.ref C) nm = some (some (.ref f))
  ht : isFn (hd.heap_1_1 P) (.ref f) = true
  hk : keepIn (hd.heap_1_1 P) (.ref f) = true
theorem mcall0 {o : PySem.Expr} {nm : Str} {apos : Pos} {y C f : Addr} {ox : Obj} {es : List DictEntry} {n : Nat} {sg : Array GenState} {sd : Drawn} {stk : Nat} {so : OsState} {Q E : Value → Shared → Prop} {pl : Sem Bool}
    (X : (hd.heap_1_1 w.params).In h) (ho : Pu (model prog w) A env h o (.val (.ref y))) (hi : InstAt h y ox C (some (dictOf es n))) (hm : MethK w.params C nm f) (hl : getL nm es = some none)
    (H : ∀ tk', wpAny (model prog w) A (call (.ref f) [.ref y]) Q E (Shared.mk h sg sd tk' so))
    (he : eval (.Call (.Attribute o nm apos) [] [] pos) env = (do
      let ov ← eval o env
      standAt apos.atName
      let (f, first) ← holding [ov] (getMethod ov nm pl)
      callWith pos f first (backTo pos (starEach [] env)) [])) : wpAny (model prog w) A (eval (.Call (.Attribute o nm apos) [] [] pos) env) Q E (Shared.mk h sg sd stk so) := by
  refine MethodCall_ ?_ he
  refine ho.go _ _ _ _ _ _ fun tk' => ?_
  refine method_fn X hi (plainGet_of hm.hg).1 (plainGet_of hm.hg).2 hm.hf (beq_iff_eq.mp hm.ht) (by show (lookIn nm (dictOf es n)).map _ = _; rw [lookIn_dict, hl]; rfl) ?_
  exact callWith_K0 X hm.hk (H _)
theorem mcall {o : PySem.Expr} {nm : Str} {apos : Pos} {args : List PySem.Expr} {y C f : Addr} {ox : Obj} {es : List DictEntry} {n : Nat} {avs : List AV} {sg : Array GenState} {sd : Drawn} {stk : Nat} {so : OsState} {Q E : Value → Shared → Prop} {pl : Sem Bool}
    (X : (hd.heap_1_1 w.params).In h) (ho : Pu (model prog w) A env h o (.val (.ref y))) (hi : InstAt h y ox C (some (dictOf es n))) (hm : MethK w.params C nm f) (hl : getL nm es = some none) (ha : PuL (model prog w) A env h (e :: args) avs)
    (H : ∀ tk', AVL avs fun vs => wpAny (model prog w) A (call (.ref f) (.ref y :: vs)) Q E (Shared.mk h sg sd tk' so))
    (he : eval (.Call (.Attribute o nm apos) (e :: args) [] pos) env = (do
      let ov ← eval o env
      standAt apos.atName
      let (f, first) ← holding [ov] (getMethod ov nm pl)
      callWith pos f first (backTo pos (starEach (e :: args) env)) []))
    (hs : starEach (e :: args) env = (false, eval e env) :: starEach args env) (hp : (backTo pos (starEach args env)).any (·.1) = false) : wpAny (model prog w) A (eval (.Call (.Attribute o nm apos) (e :: args) [] pos) env) Q E (Shared.mk h sg sd stk so) := by
  refine MethodCall_ ?_ he
  refine ho.go _ _ _ _ _ _ fun tk' => ?_
  refine method_fn X hi (plainGet_of hm.hg).1 (plainGet_of hm.hg).2 hm.hf (beq_iff_eq.mp hm.ht) (by show (lookIn nm (dictOf es n)).map _ = _; rw [lookIn_dict, hl]; rfl) ?_
  exact callWith_K X hm.hk (ha.go _ _ _ _ _ _ _ fun tk'' => (H tk'').mono fun vs hv => ⟨X, hv⟩) hs hp
theorem Pu.gref {nm : Str} {np : Pos} {f : Addr} {cs : Scope} {L b : Addr} {cn : Str} {ccd : Value} {cl : List (Str × Addr)} {loose : List Str} {mean : ExcName → Option Value} {mg mb : Str → Option Value}
    (X : (hd.heap_1_1 w.params).In h₀) (F : Fr h₀ L h m) (T : Top hd.view_1_2 loose mean mg mb h₀) (e : nsIn (hd.heap_1_1 w.params) mainGlobals nm = some (some (.ref f)))
    (hkk : cs.kind = .function) (hx : (envX cn cs L b ccd cl).kindOf nm = some .globalImplicit) (hdd : (nm == ("__debug__" : Str)) = false) : Pu M A (envX cn cs L b ccd cl) h (.Name nm np) (.val (.ref f)) := Pu.mk <| fun g d tk o Q E H =>
  nameX_K F X (topRead_of T) e (H _) hkk hx hdd
theorem Pu.gblt {nm : Str} {np : Pos} {v : Value} {cs : Scope} {L b : Addr} {cn : Str} {ccd : Value} {cl : List (Str × Addr)} {loose : List Str} {mean : ExcName → Option Value} {mg mb : Str → Option Value}
    (X : (hd.heap_1_1 w.params).In h₀) (F : Fr h₀ L h m) (T : Top hd.view_1_2 loose mean mg mb h₀) (e : nsIn (hd.heap_1_1 w.params) mainGlobals nm = some none) (hv : bootBuiltins nm = some v) (hn : nm ≠ "__name__")
    (hkk : cs.kind = .function) (hx : (envX cn cs L b ccd cl).kindOf nm = some .globalImplicit) (hdd : (nm == ("__debug__" : Str)) = false) : Pu M A (envX cn cs L b ccd cl) h (.Name nm np) (.val v) := Pu.mk <| fun g d tk o Q E H =>
  nameX_B F X (topRead_of T) e hv hn (H _) hkk hx hdd
theorem fcall {nm : Str} {np : Pos} {args : List PySem.Expr} {f : Addr} {avs : List AV} {sg : Array GenState} {sd : Drawn} {stk : Nat} {so : OsState} {Q E : Value → Shared → Prop}
    (X : (hd.heap_1_1 w.params).In h) (hf : Pu (model prog w) A env h (.Name nm np) (.val (.ref f))) (hk : keepIn (hd.heap_1_1 w.params) (.ref f) = true) (ha : PuL (model prog w) A env h (e :: args) avs)
    (H : ∀ tk', AVL avs fun vs => wpAny (model prog w) A (call (.ref f) vs) Q E (Shared.mk h sg sd tk' so))
    (he : eval (.Call (.Name nm np) (e :: args) [] pos) env = (do callWith pos (← eval (.Name nm np) env) [] (backTo pos (starEach (e :: args) env)) (backToKw pos (keywordEach [] env))))
    (hs : starEach (e :: args) env = (false, eval e env) :: starEach args env) (hp : (backTo pos (starEach args env)).any (·.1) = false) :
    wpAny (model prog w) A (eval (.Call (.Name nm np) (e :: args) [] pos) env) Q E (Shared.mk h sg sd stk so) := by
  refine Call_ ?_ he
  refine hf.go _ _ _ _ _ _ fun tk' => ?_
  exact callWith_K (first := []) X hk (ha.go _ _ _ _ _ _ _ fun tk'' => (H tk'').mono fun vs hv => ⟨X, hv⟩) hs hp
noncomputable def PuLv (M : Model) (A : Around) (env : Env) (h : Heap) (es : List PySem.Expr) (vs : List Value) : Prop := PuL M A env h es (vs.map AV.val)
theorem PuLv.nil : PuLv M A env h [] [] := PuL.nil
theorem PuLv.cons {es : List PySem.Expr} {v : Value} {vs : List Value} (qe : Pu M A env h e (.val v)) (qr : PuLv M A env h es vs) (qs : starEach (e :: es) env = (false, eval e env) :: starEach es env) : PuLv M A env h (e :: es) (v :: vs) := PuL.cons qe qr qs
theorem AVL.vals {k : List Value → Prop} : ∀ {vs : List Value}, k vs → AVL (vs.map AV.val) k
  | [], hh => hh
  | v :: vs, hh => by
    show AVL (vs.map AV.val) fun vs => k (v :: vs)
    exact AVL.vals (k := fun vs => k (v :: vs)) hh
theorem mcallV {o : PySem.Expr} {nm : Str} {apos : Pos} {args : List PySem.Expr} {y C f : Addr} {ox : Obj} {es : List DictEntry} {n : Nat} {vs : List Value} {sg : Array GenState} {sd : Drawn} {stk : Nat} {so : OsState} {Q E : Value → Shared → Prop} {pl : Sem Bool}
    (X : (hd.heap_1_1 w.params).In h) (ho : Pu (model prog w) A env h o (.val (.ref y))) (hi : InstAt h y ox C (some (dictOf es n))) (hm : MethK w.params C nm f) (hl : getL nm es = some none) (ha : PuLv (model prog w) A env h (e :: args) vs)
    (H : ∀ tk', wpAny (model prog w) A (call (.ref f) (.ref y :: vs)) Q E (Shared.mk h sg sd tk' so))
    (he : eval (.Call (.Attribute o nm apos) (e :: args) [] pos) env = (do
      let ov ← eval o env
      standAt apos.atName
      let (f, first) ← holding [ov] (getMethod ov nm pl)
      callWith pos f first (backTo pos (starEach (e :: args) env)) []))
    (hs : starEach (e :: args) env = (false, eval e env) :: starEach args env) (hp : (backTo pos (starEach args env)).any (·.1) = false) : wpAny (model prog w) A (eval (.Call (.Attribute o nm apos) (e :: args) [] pos) env) Q E (Shared.mk h sg sd stk so) :=
  mcall X ho hi hm hl ha (fun tk' => AVL.vals (H tk')) he hs hp
theorem lmcallV {o : PySem.Expr} {nm : Str} {id : String} {apos : Pos} {args : List PySem.Expr} {y : Addr} {its : Array Value} {n : Nat} {news : List (Addr × Obj)} {L : Addr} {vs : List Value} {sg : Array GenState} {sd : Drawn} {stk : Nat} {so : OsState} {Q E : Value → Shared → Prop} {pl : Sem Bool}
    (N : News h₀ L h news) (hm : (y, listOf its n) ∈ news) (slot : Slot "list" nm id) (hty : typeOf (.builtin id) = pure (.type "method_descriptor")) (ho : Pu (model prog w) A env h o (.val (.ref y))) (ha : PuLv (model prog w) A env h (e :: args) vs)
    (H : ∀ tk', wpAny (model prog w) A (call (.builtin id) (.ref y :: vs)) Q E (Shared.mk h sg sd tk' so))
    (he : eval (.Call (.Attribute o nm apos) (e :: args) [] pos) env = (do
      let ov ← eval o env
      standAt apos.atName
      let (f, first) ← holding [ov] (getMethod ov nm pl)
      callWith pos f first (backTo pos (starEach (e :: args) env)) []))
    (hs : starEach (e :: args) env = (false, eval e env) :: starEach args env) (hp : (backTo pos (starEach args env)).any (·.1) = false) : wpAny (model prog w) A (eval (.Call (.Attribute o nm apos) (e :: args) [] pos) env) Q E (Shared.mk h sg sd stk so) := by
  refine MethodCall_ ?_ he
  refine ho.go _ _ _ _ _ _ fun tk' => ?_
  refine listMethod_K N hm slot hty ?_
  exact callWith_method1 (ha.go _ _ _ _ _ _ _ fun tk'' => AVL.vals (H tk'')) hs hp
theorem fcallV {nm : Str} {np : Pos} {args : List PySem.Expr} {f : Addr} {vs : List Value} {sg : Array GenState} {sd : Drawn} {stk : Nat} {so : OsState} {Q E : Value → Shared → Prop}
    (X : (hd.heap_1_1 w.params).In h) (hf : Pu (model prog w) A env h (.Name nm np) (.val (.ref f))) (hk : keepIn (hd.heap_1_1 w.params) (.ref f) = true) (ha : PuLv (model prog w) A env h (e :: args) vs)
    (H : ∀ tk', wpAny (model prog w) A (call (.ref f) vs) Q E (Shared.mk h sg sd tk' so))
    (he : eval (.Call (.Name nm np) (e :: args) [] pos) env = (do callWith pos (← eval (.Name nm np) env) [] (backTo pos (starEach (e :: args) env)) (backToKw pos (keywordEach [] env))))
    (hs : starEach (e :: args) env = (false, eval e env) :: starEach args env) (hp : (backTo pos (starEach args env)).any (·.1) = false) :
    wpAny (model prog w) A (eval (.Call (.Name nm np) (e :: args) [] pos) env) Q E (Shared.mk h sg sd stk so) :=
  fcall X hf hk ha (fun tk' => AVL.vals (H tk')) he hs hp
theorem Pu.useV {v : Value} {sg : Array GenState} {sd : Drawn} {stk : Nat} {so : OsState} {Q E : Value → Shared → Prop} (he : Pu M A env h e (.val v)) (H : ∀ tk', Q v (Shared.mk h sg sd tk' so)) : wpAny M A (eval e env) Q E (Shared.mk h sg sd stk so) := he.go _ _ _ _ _ _ H
theorem Pu.useI {n : Int} {sg : Array GenState} {sd : Drawn} {stk : Nat} {so : OsState} {Q E : Value → Shared → Prop} (he : Pu M A env h e (.int n)) (H : ∀ tk' t, Q (.int n t) (Shared.mk h sg sd tk' so)) : wpAny M A (eval e env) Q E (Shared.mk h sg sd stk so) := he.go _ _ _ _ _ _ H
theorem spl_use {es : List PySem.Expr} {avs : List AV} {sg : Array GenState} {sd : Drawn} {stk : Nat} {so : OsState} {Q : List Value → Shared → Prop} {E : Value → Shared → Prop} (ha : PuL M A env h es avs) (H : ∀ tk', AVL avs fun vs => Q vs (Shared.mk h sg sd tk' so)) : wpAny M A (spliced (backTo pos (starEach es env))) Q E (Shared.mk h sg sd stk so) := ha.go _ _ _ _ _ _ _ H
theorem spl_useV {es : List PySem.Expr} {vs : List Value} {sg : Array GenState} {sd : Drawn} {stk : Nat} {so : OsState} {Q : List Value → Shared → Prop} {E : Value → Shared → Prop} (ha : PuLv M A env h es vs) (H : ∀ tk', Q vs (Shared.mk h sg sd tk' so)) : wpAny M A (spliced (backTo pos (starEach es env))) Q E (Shared.mk h sg sd stk so) := ha.go _ _ _ _ _ _ _ fun tk' => AVL.vals (H tk')
theorem Pu.strc {y : Str} {k : Nat} : Pu M A env h (.Constant (.str y) k pos) (.str y) := Pu.mk <| fun g d tk o Q E H => PySem.Calls.Constant_str (H _ _)
theorem Pu.toI {n : Int} {t : Tok} (qe : Pu M A env h e (.val (.int n t))) : Pu M A env h e (.int n) := Pu.mk <| fun g d tk o Q E H => qe.go _ _ _ _ _ _ fun tk' => H tk' t
section
variable {l r : PySem.Expr} {i j : Int}
theorem Pu.add (ql : Pu (model prog w) A env h l (.int i)) (qr : Pu (model prog w) A env h r (.int j)) : Pu (model prog w) A env h (.BinOp l .Add r pos) (.int (i + j)) := Pu.mk <| fun g d tk o Q E H =>
  wpAny_BinOp (ql.go _ _ _ _ _ _ fun _ _ => qr.go _ _ _ _ _ _ fun _ _ => PyProof.Rows.add_int (H _ _))
theorem Pu.sub (ql : Pu (model prog w) A env h l (.int i)) (qr : Pu (model prog w) A env h r (.int j)) : Pu (model prog w) A env h (.BinOp l .Sub r pos) (.int (i - j)) := Pu.mk <| fun g d tk o Q E H =>
  wpAny_BinOp (ql.go _ _ _ _ _ _ fun _ _ => qr.go _ _ _ _ _ _ fun _ _ => PyProof.Rows.sub_int (H _ _))
theorem Pu.mod (ql : Pu (model prog w) A env h l (.int i)) (qr : Pu (model prog w) A env h r (.int j)) (qj : j ≠ 0) : Pu (model prog w) A env h (.BinOp l .Mod r pos) (.int (i.fmod j)) := Pu.mk <| fun g d tk o Q E H =>
  wpAny_BinOp (ql.go _ _ _ _ _ _ fun _ _ => qr.go _ _ _ _ _ _ fun _ _ => mod_int' qj (H _ _))
theorem Pu.fdiv (ql : Pu (model prog w) A env h l (.int i)) (qr : Pu (model prog w) A env h r (.int j)) (qj : j ≠ 0) (qp : j.natAbs.log2 < 9000) : Pu (model prog w) A env h (.BinOp l .FloorDiv r pos) (.int (i.fdiv j)) := Pu.mk <| fun g d tk o Q E H =>
  wpAny_BinOp (ql.go _ _ _ _ _ _ fun _ _ => qr.go _ _ _ _ _ _ fun _ _ => floordiv_int qj (H _ _) (Or.inl (PyProof.noPylong_of_log2 qp)))
section
variable {sg : Array GenState} {sd : Drawn} {stk : Nat} {so : OsState} {Q : Bool → Shared → Prop} {E : Value → Shared → Prop} {whole : Sem Value}
theorem tcmp_eq (hl : Pu (model prog w) A env h l (.int i)) (hr : Pu (model prog w) A env h r (.int j)) (H : ∀ tk', Q (i == j) (Shared.mk h sg sd tk' so)) (hm : behindInMarks .Eq r = false) : wpAny (model prog w) A (isTrue (.Compare l [.Eq] [r] pos) env whole) Q E (Shared.mk h sg sd stk so) :=
  wpAny_isTrue_Compare1 (hl.go _ _ _ _ _ _ fun _ _ => hr.go _ _ _ _ _ _ fun tk' _ => PyProof.Rows.eq_int (wpAny_truthy_bool (H tk'))) hm
theorem tcmp_ne (hl : Pu (model prog w) A env h l (.int i)) (hr : Pu (model prog w) A env h r (.int j)) (H : ∀ tk', Q (i != j) (Shared.mk h sg sd tk' so)) (hm : behindInMarks .NotEq r = false) : wpAny (model prog w) A (isTrue (.Compare l [.NotEq] [r] pos) env whole) Q E (Shared.mk h sg sd stk so) :=
  wpAny_isTrue_Compare1 (hl.go _ _ _ _ _ _ fun _ _ => hr.go _ _ _ _ _ _ fun tk' _ => PyProof.Rows.ne_int (wpAny_truthy_bool (H tk'))) hm
theorem tcmp_lt (hl : Pu (model prog w) A env h l (.int i)) (hr : Pu (model prog w) A env h r (.int j)) (H : ∀ tk', Q (decide (i < j)) (Shared.mk h sg sd tk' so)) (hm : behindInMarks .Lt r = false) : wpAny (model prog w) A (isTrue (.Compare l [.Lt] [r] pos) env whole) Q E (Shared.mk h sg sd stk so) :=
  wpAny_isTrue_Compare1 (hl.go _ _ _ _ _ _ fun _ _ => hr.go _ _ _ _ _ _ fun tk' _ => PyProof.Rows.lt_int (wpAny_truthy_bool (H tk'))) hm
theorem tcmp_gt (hl : Pu (model prog w) A env h l (.int i)) (hr : Pu (model prog w) A env h r (.int j)) (H : ∀ tk', Q (decide (j < i)) (Shared.mk h sg sd tk' so)) (hm : behindInMarks .Gt r = false) : wpAny (model prog w) A (isTrue (.Compare l [.Gt] [r] pos) env whole) Q E (Shared.mk h sg sd stk so) :=
  wpAny_isTrue_Compare1 (hl.go _ _ _ _ _ _ fun _ _ => hr.go _ _ _ _ _ _ fun tk' _ => PyProof.Rows.gt_int (wpAny_truthy_bool (H tk'))) hm
theorem tcmp_in {D : Addr} {vs : List Value} {ns : List Int} {n : Nat} {L : Addr} {news : List (Addr × Obj)} (hl : Pu (model prog w) A env h l (.int i)) (hr : Pu (model prog w) A env h r (.val (.ref D))) (N : News h₀ L h news) (hm0 : (D, listOf vs.toArray n) ∈ news) (hi : IntsAre vs ns)
    (H : ∀ tk', Q (decide (i ∈ ns)) (Shared.mk h sg sd tk' so)) (hm : behindInMarks .In r = false) : wpAny (model prog w) A (isTrue (.Compare l [.In] [r] pos) env whole) Q E (Shared.mk h sg sd stk so) :=
  wpAny_isTrue_Compare1 (hl.go _ _ _ _ _ _ fun _ _ => hr.go _ _ _ _ _ _ fun tk' => l_in N hm0 hi (wpAny_truthy_bool (H tk'))) hm
end
end
section
variable {o k : PySem.Expr} {D : Addr} {vs : List Value} {n : Nat} {L : Addr} {news : List (Addr × Obj)} {i : Int}
theorem Pu.subI {ns : List Int} (qo : Pu (model prog w) A env h o (.val (.ref D))) (qk : Pu (model prog w) A env h k (.int i)) (qN : News h₀ L h news) (qm : (D, listOf vs.toArray n) ∈ news) (qi : IntsAre vs ns) (q0 : 0 ≤ i) (q1 : i < ns.length) (qz : i < 1000000)
    (qs : ∀ u, subscripted k false (.ref D) (.int i u) = operate [.ref D, .int i u] (getItem (.ref D) (.int i u))) : Pu (model prog w) A env h (.Subscript o k pos) (.int (ns.getD i.toNat 0)) := Pu.mk <| fun g d tk oo Q E H =>
  Subscript_ (qo.go _ _ _ _ _ _ fun _ => qk.go _ _ _ _ _ _ fun _ u => l_sub qN qm qi q0 q1 qz (fun t => H _ t) (qs u))
theorem Pu.subS {xs : List Str} (qo : Pu (model prog w) A env h o (.val (.ref D))) (qk : Pu (model prog w) A env h k (.int i)) (qN : News h₀ L h news) (qm : (D, listOf vs.toArray n) ∈ news) (qi : StrsAre vs xs) (q0 : 0 ≤ i) (q1 : i < xs.length) (qz : i < 1000000)
    (qs : ∀ u, subscripted k false (.ref D) (.int i u) = operate [.ref D, .int i u] (getItem (.ref D) (.int i u))) : Pu (model prog w) A env h (.Subscript o k pos) (.str (xs.getD i.toNat Str.empty)) := Pu.mk <| fun g d tk oo Q E H =>
  Subscript_ (qo.go _ _ _ _ _ _ fun _ => qk.go _ _ _ _ _ _ fun _ u => l_subs qN qm qi q0 q1 qz (fun t => H _ t) (qs u))
theorem Pu.subV {x : Value} (qo : Pu (model prog w) A env h o (.val (.ref D))) (qk : Pu (model prog w) A env h k (.int i)) (qN : News h₀ L h news) (qm : (D, listOf vs.toArray n) ∈ news) (qx : vs[i.toNat]? = some x) (q0 : 0 ≤ i) (qz : i < 1000000)
    (qs : ∀ u, subscripted k false (.ref D) (.int i u) = operate [.ref D, .int i u] (getItem (.ref D) (.int i u))) : Pu (model prog w) A env h (.Subscript o k pos) (.val x) := Pu.mk <| fun g d tk oo Q E H =>
  Subscript_ (qo.go _ _ _ _ _ _ fun _ => qk.go _ _ _ _ _ _ fun tk' u => l_subv qN qm q0 qz qx (H tk') (qs u))
theorem Pu.len {c : Nat} {np : Pos} (qf : Pu (model prog w) A env h (.Name (Str.ofString "len") np) (.val (.builtin "len"))) (qo : Pu (model prog w) A env h o (.val (.ref D))) (qN : News h₀ L h news) (qm : (D, listOf vs.toArray n) ∈ news) (qc : vs.length = c) (qz : c ≤ 1000000)
    (qe : eval (.Call (.Name (Str.ofString "len") np) [o] [] pos) env = (do callWith pos (← eval (.Name (Str.ofString "len") np) env) [] (backTo pos (starEach [o] env)) (backToKw pos (keywordEach [] env))))
    (qs : starEach [o] env = (false, eval o env) :: starEach [] env) (qp : (backTo pos (starEach [] env)).any (·.1) = false) : Pu (model prog w) A env h (.Call (.Name (Str.ofString "len") np) [o] [] pos) (.int (c : Int)) := Pu.mk <| fun g d tk oo Q E H => by
  refine Call_ ?_ qe
  refine qf.go _ _ _ _ _ _ fun tk' => ?_
  refine callWith_builtin1 ?_ qs qp
  refine args_cons (qo.go _ _ _ _ _ _ fun tk' => args_nil ?_) qs
  exact l_len qN qm qc qz fun u tk => H _ _
end
end
section
variable {prog : Program} {w : World} {A : Around} {h : Heap} {a : BA} {g : Sg}

theorem ia_b (B : HB w a g h) : InstAt h a.b (instObj 498 a.db) 498 (some (dictOf (bEnt w.params a g.fo) 21)) := ⟨B.O _ mb_b, rfl, rfl, B.O _ mb_db⟩
theorem ga_b_tree (B : HB w a g h) : GA prog w A h a.b (Str.ofString "tree") (.ref a.t) := by
  intro ex gn d tk o Q E H
  refine' get_value B.X (ia_b B) ?ka ?kf ?kh (H _)
  case ka => exact (plainGet_of (name := Str.ofString "tree") (by k_is)).1
  case kf => refine' findObj_own ?h1 ?h2 ?h3 ?h4; (case h1 => k_is); (case h2 => k_is); (case h3 => k_is); (case h4 => rw [lookIn_dict]; k_get)
  case kh => k_handed
theorem ga_b_stack (B : HB w a g h) : GA prog w A h a.b (Str.ofString "stack") (.ref a.k) := by
  intro ex gn d tk o Q E H
  refine' get_value B.X (ia_b B) ?ka ?kf ?kh (H _)
  case ka => exact (plainGet_of (name := Str.ofString "stack") (by k_is)).1
  case kf => refine' findObj_own ?h1 ?h2 ?h3 ?h4; (case h1 => k_is); (case h2 => k_is); (case h3 => k_is); (case h4 => rw [lookIn_dict]; k_get)
  case kh => k_handed
theorem ga_b_formatting (B : HB w a g h) : GA prog w A h a.b (Str.ofString "formatting") (.ref a.f) := by
  intro ex gn d tk o Q E H
  refine' get_value B.X (ia_b B) ?ka ?kf ?kh (H _)
  case ka => exact (plainGet_of (name := Str.ofString "formatting") (by k_is)).1
  case kf => refine' findObj_own ?h1 ?h2 ?h3 ?h4; (case h1 => k_is); (case h2 => k_is); (case h3 => k_is); (case h4 => rw [lookIn_dict]; k_get)
  case kh => k_handed
theorem ga_b_is_foster (B : HB w a g h) : GA prog w A h a.b (Str.ofString "is_foster") (.bool g.fo) := by
  intro ex gn d tk o Q E H
  refine' get_value B.X (ia_b B) ?ka ?kf ?kh (H _)
  case ka => exact (plainGet_of (name := Str.ofString "is_foster") (by k_is)).1
  case kf => refine' findObj_own ?h1 ?h2 ?h3 ?h4; (case h1 => k_is); (case h2 => k_is); (case h3 => k_is); (case h4 => rw [lookIn_dict]; k_get)
  case kh => k_handed
theorem ga_b_errors (B : HB w a g h) : GA prog w A h a.b (Str.ofString "errors") (.ref a.er) := by
  intro ex gn d tk o Q E H
  refine' get_value B.X (ia_b B) ?ka ?kf ?kh (H _)
  case ka => exact (plainGet_of (name := Str.ofString "errors") (by k_is)).1
  case kf => refine' findObj_own ?h1 ?h2 ?h3 ?h4; (case h1 => k_is); (case h2 => k_is); (case h3 => k_is); (case h4 => rw [lookIn_dict]; k_get)
  case kh => k_handed
theorem ia_t (B : HB w a g h) : InstAt h a.t (instObj 420 a.dt) 420 (some (dictOf (tEnt w.params a) 8)) := ⟨B.O _ mb_t, rfl, rfl, B.O _ mb_dt⟩
theorem ga_t_kinds (B : HB w a g h) : GA prog w A h a.t (Str.ofString "kinds") (.ref a.ki) := by
  intro ex gn d tk o Q E H
  refine' get_value B.X (ia_t B) ?ka ?kf ?kh (H _)
  case ka => exact (plainGet_of (name := Str.ofString "kinds") (by k_is)).1
  case kf => refine' findObj_own ?h1 ?h2 ?h3 ?h4; (case h1 => k_is); (case h2 => k_is); (case h3 => k_is); (case h4 => rw [lookIn_dict]; k_get)
  case kh => k_handed
theorem ga_t_spaces (B : HB w a g h) : GA prog w A h a.t (Str.ofString "spaces") (.ref a.sp) := by
  intro ex gn d tk o Q E H
  refine' get_value B.X (ia_t B) ?ka ?kf ?kh (H _)
  case ka => exact (plainGet_of (name := Str.ofString "spaces") (by k_is)).1
  case kf => refine' findObj_own ?h1 ?h2 ?h3 ?h4; (case h1 => k_is); (case h2 => k_is); (case h3 => k_is); (case h4 => rw [lookIn_dict]; k_get)
  case kh => k_handed
theorem ga_t_names (B : HB w a g h) : GA prog w A h a.t (Str.ofString "names") (.ref a.na) := by
  intro ex gn d tk o Q E H
  refine' get_value B.X (ia_t B) ?ka ?kf ?kh (H _)
  case ka => exact (plainGet_of (name := Str.ofString "names") (by k_is)).1
  case kf => refine' findObj_own ?h1 ?h2 ?h3 ?h4; (case h1 => k_is); (case h2 => k_is); (case h3 => k_is); (case h4 => rw [lookIn_dict]; k_get)
  case kh => k_handed
theorem ga_t_attrs (B : HB w a g h) : GA prog w A h a.t (Str.ofString "attrs") (.ref a.ar) := by
  intro ex gn d tk o Q E H
  refine' get_value B.X (ia_t B) ?ka ?kf ?kh (H _)
  case ka => exact (plainGet_of (name := Str.ofString "attrs") (by k_is)).1
  case kf => refine' findObj_own ?h1 ?h2 ?h3 ?h4; (case h1 => k_is); (case h2 => k_is); (case h3 => k_is); (case h4 => rw [lookIn_dict]; k_get)
  case kh => k_handed
theorem ga_t_texts (B : HB w a g h) : GA prog w A h a.t (Str.ofString "texts") (.ref a.te) := by
  intro ex gn d tk o Q E H
  refine' get_value B.X (ia_t B) ?ka ?kf ?kh (H _)
  case ka => exact (plainGet_of (name := Str.ofString "texts") (by k_is)).1
  case kf => refine' findObj_own ?h1 ?h2 ?h3 ?h4; (case h1 => k_is); (case h2 => k_is); (case h3 => k_is); (case h4 => rw [lookIn_dict]; k_get)
  case kh => k_handed
theorem ga_t_parents (B : HB w a g h) : GA prog w A h a.t (Str.ofString "parents") (.ref a.pa) := by
  intro ex gn d tk o Q E H
  refine' get_value B.X (ia_t B) ?ka ?kf ?kh (H _)
  case ka => exact (plainGet_of (name := Str.ofString "parents") (by k_is)).1
  case kf => refine' findObj_own ?h1 ?h2 ?h3 ?h4; (case h1 => k_is); (case h2 => k_is); (case h3 => k_is); (case h4 => rw [lookIn_dict]; k_get)
  case kh => k_handed
theorem ga_t_children (B : HB w a g h) : GA prog w A h a.t (Str.ofString "children") (.ref a.ch) := by
  intro ex gn d tk o Q E H
  refine' get_value B.X (ia_t B) ?ka ?kf ?kh (H _)
  case ka => exact (plainGet_of (name := Str.ofString "children") (by k_is)).1
  case kf => refine' findObj_own ?h1 ?h2 ?h3 ?h4; (case h1 => k_is); (case h2 => k_is); (case h3 => k_is); (case h4 => rw [lookIn_dict]; k_get)
  case kh => k_handed
theorem ga_t_contents (B : HB w a g h) : GA prog w A h a.t (Str.ofString "contents") (.ref a.co) := by
  intro ex gn d tk o Q E H
  refine' get_value B.X (ia_t B) ?ka ?kf ?kh (H _)
  case ka => exact (plainGet_of (name := Str.ofString "contents") (by k_is)).1
  case kf => refine' findObj_own ?h1 ?h2 ?h3 ?h4; (case h1 => k_is); (case h2 => k_is); (case h3 => k_is); (case h4 => rw [lookIn_dict]; k_get)
  case kh => k_handed
theorem ia_k (B : HB w a g h) : InstAt h a.k (instObj 303 a.dk) 303 (some (dictOf (kEnt w.params a) 2)) := ⟨B.O _ mb_k, rfl, rfl, B.O _ mb_dk⟩
theorem ga_k_items (B : HB w a g h) : GA prog w A h a.k (Str.ofString "items") (.ref a.si) := by
  intro ex gn d tk o Q E H
  refine' get_value B.X (ia_k B) ?ka ?kf ?kh (H _)
  case ka => exact (plainGet_of (name := Str.ofString "items") (by k_is)).1
  case kf => refine' findObj_own ?h1 ?h2 ?h3 ?h4; (case h1 => k_is); (case h2 => k_is); (case h3 => k_is); (case h4 => rw [lookIn_dict]; k_get)
  case kh => k_handed
theorem ia_f (B : HB w a g h) : InstAt h a.f (instObj 191 a.df) 191 (some (dictOf (fEnt w.params a) 2)) := ⟨B.O _ mb_f, rfl, rfl, B.O _ mb_df⟩
theorem ga_f_items (B : HB w a g h) : GA prog w A h a.f (Str.ofString "items") (.ref a.fi) := by
  intro ex gn d tk o Q E H
  refine' get_value B.X (ia_f B) ?ka ?kf ?kh (H _)
  case ka => exact (plainGet_of (name := Str.ofString "items") (by k_is)).1
  case kf => refine' findObj_own ?h1 ?h2 ?h3 ?h4; (case h1 => k_is); (case h2 => k_is); (case h3 => k_is); (case h4 => rw [lookIn_dict]; k_get)
  case kh => k_handed

end

example : True := by
  k_with "o m sfx" => ((first | with_reducible exact Sfx.refl | ((with_reducible refine Sfx.cons ?_); k_extra "o m sfx") | ((with_reducible refine Sfx.app ?_); k_extra "o m sfx")))
  k_with "o m hb" => ((refine' HB.of ?pX_73 ?pF_73 ?pN_73 ?ps_73; (case pX_73 => assumption); (case pF_73 => k_asm); (case pN_73 => k_asm); (case ps_73 => k_extra "o m sfx")))
  k_with "o m ia" => (((first | with_reducible refine' ia_b ?pb_74 | with_reducible refine' ia_t ?pb_74 | with_reducible refine' ia_k ?pb_74 | with_reducible refine' ia_f ?pb_74); (case pb_74 => k_extra "o m hb")))
  k_with "o m ga" => (((first | with_reducible refine' ga_b_tree ?pb_75 | with_reducible refine' ga_b_stack ?pb_75 | with_reducible refine' ga_b_formatting ?pb_75 | with_reducible refine' ga_b_mode ?pb_75 | with_reducible refine' ga_b_is_foster ?pb_75 | with_reducible refine' ga_b_errors ?pb_75 | with_reducible refine' ga_t_kinds ?pb_75 | with_reducible refine' ga_t_spaces ?pb_75 | with_reducible refine' ga_t_names ?pb_75 | with_reducible refine' ga_t_attrs ?pb_75 | with_reducible refine' ga_t_texts ?pb_75 | with_reducible refine' ga_t_parents ?pb_75 | with_reducible refine' ga_t_children ?pb_75 | with_reducible refine' ga_t_contents ?pb_75 | with_reducible refine' ga_k_tree ?pb_75 | with_reducible refine' ga_k_items ?pb_75 | with_reducible refine' ga_f_tree ?pb_75 | with_reducible refine' ga_f_items ?pb_75); (case pb_75 => k_extra "o m hb")))
  k_with "o m gref" => ((refine' Pu.gref ?pX_76 ?pF_76 ?pT_76 ?pe_76 ?p1_76 ?p2_76 ?p3_76; (case pX_76 => assumption); (case pF_76 => k_asm); (case pT_76 => assumption); (case pe_76 => k_is); (case p1_76 => rfl); (case p2_76 => rfl); (case p3_76 => decide)))
  k_with "o m gname" => ((refine' Pu.gblt ?pX_77 ?pF_77 ?pT_77 ?pe_77 ?pv_77 ?pn_77 ?p1_77 ?p2_77 ?p3_77; (case pX_77 => assumption); (case pF_77 => k_asm); (case pT_77 => assumption); (case pe_77 => k_is); (case pv_77 => boot_fast); (case pn_77 => decide); (case p1_77 => rfl); (case p2_77 => rfl); (case p3_77 => decide)))
  k_with "o m pu" => (((with_reducible apply Pu.subI); (· k_extra "o m pu"); (· k_extra "o m pui"); (· k_asm); (· k_extra "o mem"); (· l_ints); (· k_extra "o m ar"); (· k_extra "o m ar"); (· k_extra "o m ar"); (· (intro u; with_unfolding_all rfl))))
  k_with "o m pu" => (((with_reducible apply Pu.subS); (· k_extra "o m pu"); (· k_extra "o m pui"); (· k_asm); (· k_extra "o mem"); (· k_extra "o m strs"); (· k_extra "o m ar"); (· k_extra "o m ar"); (· k_extra "o m ar"); (· (intro u; with_unfolding_all rfl))))
  k_with "o m pu" => (((with_reducible apply Pu.subV); (· k_extra "o m pu"); (· k_extra "o m pui"); (· k_asm); (· k_extra "o mem"); (· with_reducible assumption); (· k_extra "o m ar"); (· k_extra "o m ar"); (· (intro u; with_unfolding_all rfl))))
  k_with "o m pu" => (((with_reducible apply Pu.len); (· k_extra "o m gname"); (· k_extra "o m pu"); (· k_asm); (· k_extra "o mem"); (· k_extra "o m len"); (· k_extra "o m ar"); (· rfl); (· rfl); (· rfl)))
  k_with "o m pu" => (((with_reducible apply Pu.fdiv); (· k_extra "o m pui"); (· k_extra "o m pui"); (· decide); (· decide)))
  k_with "o m pu" => (((with_reducible apply Pu.mod); (· k_extra "o m pui"); (· k_extra "o m pui"); (· first | omega | decide)))
  k_with "o m pu" => (((first | with_reducible apply Pu.add | with_reducible apply Pu.sub); (· k_extra "o m pui"); (· k_extra "o m pui")))
  k_with "o m pu" => (((with_reducible apply Pu.attr); (· k_extra "o m pu"); (· k_extra "o m ga"); (· with_unfolding_all rfl)))
  k_with "o m pu" => (((with_reducible refine Pu.neg ?_); k_extra "o m pui"))
  k_with "o m pu" => ((first | with_reducible exact Pu.intc | with_reducible exact Pu.strc))
  k_with "o m pu" => (((with_reducible show Pu _ _ _ _ (PySem.Expr.Name _ _) _); refine' Pu.name ?pF_88 ?pv_88 ?pn_88; (case pF_88 => k_asm); (case pv_88 => rfl); (case pn_88 => decide)))
  k_with "o m pui" => ((first | ((with_reducible apply Pu.toI); ((with_reducible show Pu _ _ _ _ (PySem.Expr.Name _ _) _); k_extra "o m pu")) | k_extra "o m pu" | ((with_reducible apply Pu.toI); k_extra "o m pu")))
  k_with "o m pul" => ((first | with_reducible exact PuLv.nil | ((fail_if_success (with_reducible show PuLv _ _ _ _ (PySem.Expr.Constant _ _ _ :: _) _)); (with_reducible apply PuLv.cons); (· k_extra "o m pu"); (· k_extra "o m pul"); (· rfl))))
  k_with "o m puL" => ((first | with_reducible exact PuL.nil | ((with_reducible apply PuL.cons); (· k_extra "o m pu"); (· k_extra "o m puL"); (· rfl))))
  k_with "o m lslot" => ((first | with_reducible exact PySem.F.slot_list_append | with_reducible exact PySem.F.slot_list_insert | with_reducible exact PySem.F.slot_list_remove | with_reducible exact PySem.F.slot_list_index))
  k_with "o m ltype" => ((first | with_reducible exact PySem.F.type_list_append | with_reducible exact PySem.F.type_list_insert | with_reducible exact PySem.F.type_list_remove | with_reducible exact PySem.F.type_list_index))
  k_with "o m inK" => ((exact Frag.In.keeps (by assumption) (Fr.keep (by k_asm))))
  k_with "o m all" => ((first | ((with_reducible show AV.All (AV.val _) _); dsimp only [AV.All]) | intro _))
  k_with "o eval Attribute Name" => ((k_here; k_dflt (refine' Pu.useV ?zo_96 ?_; (case zo_96 => k_extra "o m pu"); k_whole); intro tk'))
  k_with "o eval Attribute Attribute" => ((k_here; k_dflt (refine' Pu.useV ?zo_97 ?_; (case zo_97 => k_extra "o m pu"); k_whole); intro tk'))
  k_with "o eval Call Attribute" => ((k_here; k_dflt (first
      | ((with_reducible refine' mcall0 ?zX_98 ?zo_98 ?zi_98 ?zm_98 ?zl_98 ?_ ?zh_98); (case zo_98 => k_extra "o m pu"); (case zi_98 => k_extra "o m ia"); (case zX_98 => k_extra "o m inK"); (case zm_98 => exact ⟨by k_is, by k_is, by k_is, by k_is⟩); (case zl_98 => k_get); (case zh_98 => rfl); k_whole)
      | ((with_reducible refine' mcallV ?zX_98 ?zo_98 ?zi_98 ?zm_98 ?zl_98 ?za_98 ?_ ?zh_98 ?zs_98 ?zp_98); (case zo_98 => k_extra "o m pu"); (case zi_98 => k_extra "o m ia"); (case za_98 => k_extra "o m pul"); (case zX_98 => k_extra "o m inK"); (case zm_98 => exact ⟨by k_is, by k_is, by k_is, by k_is⟩); (case zl_98 => k_get); (case zh_98 => rfl); (case zs_98 => rfl); (case zp_98 => rfl); k_whole)
      | ((with_reducible refine' lmcallV ?zN_98 ?zM_98 ?zm_98 ?zt_98 ?zo_98 ?za_98 ?_ ?zh_98 ?zs_98 ?zp_98); (case zo_98 => k_extra "o m pu"); (case za_98 => k_extra "o m pul"); (case zN_98 => k_asm); (case zM_98 => k_extra "o mem"); (case zm_98 => k_extra "o m lslot"); (case zt_98 => k_extra "o m ltype"); (case zh_98 => rfl); (case zs_98 => rfl); (case zp_98 => rfl); k_whole)); intro tk'))
  k_with "o eval Call Name" => ((k_here; k_dflt ((with_reducible refine' fcallV ?zX_99 ?zf_99 ?zk_99 ?za_99 ?_ ?zh_99 ?zs_99 ?zp_99); (case zf_99 => k_extra "o m gref"); (case zk_99 => k_is); (case za_99 => k_extra "o m pul"); (case zX_99 => k_extra "o m inK"); (case zh_99 => rfl); (case zs_99 => rfl); (case zp_99 => rfl); k_whole); intro tk'))
  k_with "o eval Subscript" => ((k_here; k_dflt (refine' Pu.use ?zo_100 ?_; (case zo_100 => k_extra "o m pu"); k_whole); intro tk'; k_dflt (k_extra "o m all")))
  k_with "o eval BinOp" => ((k_here; k_dflt (refine' Pu.useI ?zo_101 ?_; (case zo_101 => k_extra "o m pu"); k_whole); intro tk' _))
  k_with "o eval Call Name" => ((k_here; (with_reducible show wpAny _ _ (eval (PySem.Expr.Call (PySem.Expr.Name (Str.ofString "len") _) [_] [] _) _) _ _ _); k_dflt (refine' Pu.useI ?zo_102 ?_; (case zo_102 => k_extra "o m pu"); k_whole); intro tk' _))
  k_with "o spliced" => ((k_here; k_dflt (first
      | ((fail_if_success (with_reducible show wpAny _ _ (spliced (backTo _ (starEach (PySem.Expr.Constant _ _ _ :: _) _))) _ _ _)); (with_reducible refine' spl_useV ?za_103 ?_); (case za_103 => k_extra "o m pul"); k_whole; intro tk')
      | ((fail_if_success (with_reducible show wpAny _ _ (spliced (backTo _ (starEach (_ :: _ :: _ :: _) _))) _ _ _)); (with_reducible refine' spl_use ?za_103 ?_); (case za_103 => k_extra "o m puL"); k_whole; dsimp only [AVL, AV.All]; intros))))
  k_with "o isTrue Compare" => ((k_here; k_dflt ((with_reducible refine' tcmp_eq ?zl_104 ?zr_104 ?_ ?zh_104); (case zl_104 => k_extra "o m pui"); (case zr_104 => k_extra "o m pui"); (case zh_104 => with_unfolding_all rfl); k_whole); intro tk'))
  k_with "o isTrue Compare" => ((k_here; k_dflt ((with_reducible refine' tcmp_ne ?zl_105 ?zr_105 ?_ ?zh_105); (case zl_105 => k_extra "o m pui"); (case zr_105 => k_extra "o m pui"); (case zh_105 => with_unfolding_all rfl); k_whole); intro tk'))
  k_with "o isTrue Compare" => ((k_here; k_dflt ((with_reducible refine' tcmp_lt ?zl_106 ?zr_106 ?_ ?zh_106); (case zl_106 => k_extra "o m pui"); (case zr_106 => k_extra "o m pui"); (case zh_106 => with_unfolding_all rfl); k_whole); intro tk'))
  k_with "o isTrue Compare" => ((k_here; k_dflt ((with_reducible refine' tcmp_gt ?zl_107 ?zr_107 ?_ ?zh_107); (case zl_107 => k_extra "o m pui"); (case zr_107 => k_extra "o m pui"); (case zh_107 => with_unfolding_all rfl); k_whole); intro tk'))
  k_with "o isTrue Compare" => ((k_here; k_dflt ((with_reducible refine' tcmp_in ?zl_108 ?zr_108 ?zN_108 ?zm_108 ?zi_108 ?_ ?zh_108); (case zl_108 => k_extra "o m pui"); (case zr_108 => k_extra "o m pu"); (case zN_108 => k_asm); (case zm_108 => k_extra "o mem"); (case zi_108 => l_ints); (case zh_108 => with_unfolding_all rfl); k_whole); intro tk'))
  trivial

section
variable {prog : Program} {w : World} {A : Around} {h₀ : Heap} {L : Addr} {m : Str → Option Value} {sh : Heap} {sg : Array GenState} {sd : Drawn} {stk : Nat} {so : OsState} {ex : List (Addr × Obj)} {a : BA} {S : St} {Q : Value → Shared → Prop} {E : Value → Shared → Prop}

theorem c_many (C : Cx w h₀ A L 1) (F : Fr h₀ L sh m) (W : Bw prog w h₀ L sh ex a S) (hz : S.stack.length ≤ 1000000)
    (k : ∀ h' tk u, Fr h₀ L h' m → Bw prog w h₀ L h' ex a S → Q (.int (S.stack.length : Int) u) (Shared.mk h' sg sd tk so)) :
    wpAny (model prog w) A (call (.ref 244) [.ref a.k]) Q E (Shared.mk sh sg sd stk so) := by
  obtain ⟨g, N, Nd, V⟩ := W
  refine' call_fn (binds := [bd "self" (.ref a.k)]) C F N ?h1 ?h2 ?h3 ?h4 ?h5 ?h6 ?h7 ?h8 ?_
  k_extra "o m side"
  k_extra "o m go"
  exact k _ _ _ kF ⟨_, kN, Nd, V⟩

theorem c_kplace {x : Int} {t : Tok} (C : Cx w h₀ A L 1) (F : Fr h₀ L sh m) (W : Bw prog w h₀ L sh ex a S) (hz : S.stack.length ≤ 1000000)
    (k : ∀ h' tk u v, Fr h₀ L h' m → Bw prog w h₀ L h' ex a S → v = (if x ∈ S.stack then (S.stack.idxOf x : Int) else -1) → Q (.int v u) (Shared.mk h' sg sd tk so)) :
    wpAny (model prog w) A (call (.ref 265) [.ref a.k, .int x t]) Q E (Shared.mk sh sg sd stk so) := by
  obtain ⟨g, N, Nd, V⟩ := W
  refine' call_fn (binds := [bd "self" (.ref a.k), bd "node" (.int x t)]) C F N ?h1 ?h2 ?h3 ?h4 ?h5 ?h6 ?h7 ?h8 ?_
  k_extra "o m side"
  k_extra "o m go"
  all_goals exact k _ _ _ _ kF ⟨_, kN, Nd, V⟩ (by simp [*])
theorem c_kremove {x : Int} {t : Tok} (C : Cx w h₀ A L 1) (F : Fr h₀ L sh m) (W : Bw prog w h₀ L sh ex a S) (hz : S.stack.length ≤ 1000000)
    (k : ∀ h' tk, Fr h₀ L h' m → Bw prog w h₀ L h' ex a { S with stack := S.stack.erase x } → Q .none (Shared.mk h' sg sd tk so)) :
    wpAny (model prog w) A (call (.ref 258) [.ref a.k, .int x t]) Q E (Shared.mk sh sg sd stk so) := by
  obtain ⟨g, N, Nd, V⟩ := W
  refine' call_fn (binds := [bd "self" (.ref a.k), bd "node" (.int x t)]) C F N ?h1 ?h2 ?h3 ?h4 ?h5 ?h6 ?h7 ?h8 ?_
  k_extra "o m side"
  k_extra "o m go"
  · exact k _ _ kF ⟨_, kN, Nd, { V with si := ints_erase V.si }⟩
  · rw [List.erase_of_not_mem ‹_›] at k
    exact k _ _ kF ⟨_, kN, Nd, V⟩
theorem c_kput {x p : Int} {t u : Tok} (C : Cx w h₀ A L 1) (F : Fr h₀ L sh m) (W : Bw prog w h₀ L sh ex a S) (hz : S.stack.length ≤ 1000000) (h0 : 0 ≤ p) (h1 : p ≤ S.stack.length)
    (k : ∀ h' tk, Fr h₀ L h' m → Bw prog w h₀ L h' ex a { S with stack := putIn S.stack p.toNat x } → Q .none (Shared.mk h' sg sd tk so)) :
    wpAny (model prog w) A (call (.ref 272) [.ref a.k, .int p u, .int x t]) Q E (Shared.mk sh sg sd stk so) := by
  obtain ⟨g, N, Nd, V⟩ := W
  have hl := V.si.length
  refine' call_fn (binds := [bd "self" (.ref a.k), bd "place" (.int p u), bd "node" (.int x t)]) C F N ?h1 ?h2 ?h3 ?h4 ?h5 ?h6 ?h7 ?h8 ?_
  k_extra "o m side"
  k_extra "o m go"
  exact k _ _ kF ⟨_, kN, Nd, { V with si := ints_putIn _ V.si }⟩
theorem c_kpush {x : Int} {t : Tok} (C : Cx w h₀ A L 1) (F : Fr h₀ L sh m) (W : Bw prog w h₀ L sh ex a S) (hz : S.stack.length ≤ 1000000)
    (k : ∀ h' tk, Fr h₀ L h' m → Bw prog w h₀ L h' ex a { S with stack := S.stack ++ [x] } → Q .none (Shared.mk h' sg sd tk so)) :
    wpAny (model prog w) A (call (.ref 223) [.ref a.k, .int x t]) Q E (Shared.mk sh sg sd stk so) := by
  obtain ⟨g, N, Nd, V⟩ := W
  have hl := V.si.length
  refine' call_fn (binds := [bd "self" (.ref a.k), bd "node" (.int x t)]) C F N ?h1 ?h2 ?h3 ?h4 ?h5 ?h6 ?h7 ?h8 ?_
  k_extra "o m side"
  k_extra "o m go"
  exact k _ _ kF ⟨_, kN, Nd, { V with si := ints_append V.si (.cons _ _ .nil) }⟩
theorem c_kcurrent (C : Cx w h₀ A L 1) (F : Fr h₀ L sh m) (W : Bw prog w h₀ L sh ex a S) (hz : S.stack.length ≤ 1000000)
    (k : ∀ h' tk u v, Fr h₀ L h' m → Bw prog w h₀ L h' ex a S → v = (if S.stack.length = 0 then -1 else S.stack.getD (S.stack.length - 1) 0) → Q (.int v u) (Shared.mk h' sg sd tk so)) :
    wpAny (model prog w) A (call (.ref 237) [.ref a.k]) Q E (Shared.mk sh sg sd stk so) := by
  obtain ⟨g, N, Nd, V⟩ := W
  refine' call_fn (binds := [bd "self" (.ref a.k)]) C F N ?h1 ?h2 ?h3 ?h4 ?h5 ?h6 ?h7 ?h8 ?_
  k_extra "o m side"
  k_extra "o m go"
  all_goals exact k _ _ _ _ kF ⟨_, kN, Nd, V⟩ (by first | (rw [if_neg (by k_extra "o m oz")]; congr 1; k_extra "o m oz") | (rw [if_pos (by k_extra "o m oz")]))
theorem c_fplace {x : Int} {t : Tok} (C : Cx w h₀ A L 1) (F : Fr h₀ L sh m) (W : Bw prog w h₀ L sh ex a S) (hz : S.fmt.length ≤ 1000000)
    (k : ∀ h' tk u v, Fr h₀ L h' m → Bw prog w h₀ L h' ex a S → v = (if x ∈ S.fmt then (S.fmt.idxOf x : Int) else -1) → Q (.int v u) (Shared.mk h' sg sd tk so)) :
    wpAny (model prog w) A (call (.ref 167) [.ref a.f, .int x t]) Q E (Shared.mk sh sg sd stk so) := by
  obtain ⟨g, N, Nd, V⟩ := W
  refine' call_fn (binds := [bd "self" (.ref a.f), bd "node" (.int x t)]) C F N ?h1 ?h2 ?h3 ?h4 ?h5 ?h6 ?h7 ?h8 ?_
  k_extra "o m side"
  k_extra "o m go"
  all_goals exact k _ _ _ _ kF ⟨_, kN, Nd, V⟩ (by simp [*])
theorem c_fremove {x : Int} {t : Tok} (C : Cx w h₀ A L 1) (F : Fr h₀ L sh m) (W : Bw prog w h₀ L sh ex a S) (hz : S.fmt.length ≤ 1000000)
    (k : ∀ h' tk, Fr h₀ L h' m → Bw prog w h₀ L h' ex a { S with fmt := S.fmt.erase x } → Q .none (Shared.mk h' sg sd tk so)) :
    wpAny (model prog w) A (call (.ref 174) [.ref a.f, .int x t]) Q E (Shared.mk sh sg sd stk so) := by
  obtain ⟨g, N, Nd, V⟩ := W
  refine' call_fn (binds := [bd "self" (.ref a.f), bd "node" (.int x t)]) C F N ?h1 ?h2 ?h3 ?h4 ?h5 ?h6 ?h7 ?h8 ?_
  k_extra "o m side"
  k_extra "o m go"
  · exact k _ _ kF ⟨_, kN, Nd, { V with fi := ints_erase V.fi }⟩
  · rw [List.erase_of_not_mem ‹_›] at k
    exact k _ _ kF ⟨_, kN, Nd, V⟩
theorem c_freplace {x y : Int} {t u : Tok} (C : Cx w h₀ A L 1) (F : Fr h₀ L sh m) (W : Bw prog w h₀ L sh ex a S) (hz : S.fmt.length ≤ 1000000) (hx : x ∈ S.fmt)
    (k : ∀ h' tk, Fr h₀ L h' m → Bw prog w h₀ L h' ex a { S with fmt := S.fmt.set (S.fmt.idxOf x) y } → Q .none (Shared.mk h' sg sd tk so)) :
    wpAny (model prog w) A (call (.ref 181) [.ref a.f, .int x t, .int y u]) Q E (Shared.mk sh sg sd stk so) := by
  obtain ⟨g, N, Nd, V⟩ := W
  have hl := V.fi.length
  have hj : S.fmt.idxOf x < S.fmt.length := List.idxOf_lt_length_iff.mpr hx
  refine' call_fn (binds := [bd "self" (.ref a.f), bd "old" (.int x t), bd "new" (.int y u)]) C F N ?h1 ?h2 ?h3 ?h4 ?h5 ?h6 ?h7 ?h8 ?_
  k_extra "o m side"
  k_extra "o m go"
  · exact k _ _ kF ⟨_, kN, Nd, { V with fi := ints_set V.fi _ }⟩
theorem c_fput {x p : Int} {t u : Tok} (C : Cx w h₀ A L 1) (F : Fr h₀ L sh m) (W : Bw prog w h₀ L sh ex a S) (hz : S.fmt.length ≤ 1000000) (h0 : 0 ≤ p) (h1 : p ≤ S.fmt.length)
    (k : ∀ h' tk, Fr h₀ L h' m → Bw prog w h₀ L h' ex a { S with fmt := putIn S.fmt p.toNat x } → Q .none (Shared.mk h' sg sd tk so)) :
    wpAny (model prog w) A (call (.ref 188) [.ref a.f, .int p u, .int x t]) Q E (Shared.mk sh sg sd stk so) := by
  obtain ⟨g, N, Nd, V⟩ := W
  have hl := V.fi.length
  refine' call_fn (binds := [bd "self" (.ref a.f), bd "place" (.int p u), bd "node" (.int x t)]) C F N ?h1 ?h2 ?h3 ?h4 ?h5 ?h6 ?h7 ?h8 ?_
  k_extra "o m side"
  k_extra "o m go"
  exact k _ _ kF ⟨_, kN, Nd, { V with fi := ints_putIn _ V.fi }⟩
theorem c_ishtml {x : Int} {t u : Tok} {y : Str} (C : Cx w h₀ A L 1) (F : Fr h₀ L sh m) (W : Bw prog w h₀ L sh ex a S) (hz : S.names.length ≤ 1000000) (he : S.spaces.length = S.names.length) (h0 : -1 ≤ x) (h1 : x < S.names.length)
    (k : ∀ h' tk v, Fr h₀ L h' m → Bw prog w h₀ L h' ex a S → v = (!decide (x = -1) && (S.spaces.getD x.toNat Str.empty == Str.ofString "html") && (S.names.getD x.toNat Str.empty == y)) → Q (.bool v) (Shared.mk h' sg sd tk so)) :
    wpAny (model prog w) A (call (.ref 417) [.ref a.t, .int x t, .str y u]) Q E (Shared.mk sh sg sd stk so) := by
  obtain ⟨g, N, Nd, V⟩ := W
  refine' call_fn (binds := [bd "self" (.ref a.t), bd "node" (.int x t), bd "name" (.str y u)]) C F N ?h1 ?h2 ?h3 ?h4 ?h5 ?h6 ?h7 ?h8 ?_
  k_extra "o m side"
  k_extra "o m go"
  all_goals exact k _ _ _ kF ⟨_, kN, Nd, V⟩ (by simp_all)
end

section
variable {prog : Program} {w : World} {A : Around} {h₀ : Heap} {L : Addr} {m : Str → Option Value} {sh : Heap} {sg : Array GenState} {sd : Drawn} {stk : Nat} {so : OsState} {ex : List (Addr × Obj)} {a : BA} {S : St} {Q : Value → Shared → Prop} {E : Value → Shared → Prop}
noncomputable def strOf : (e : PySem.Expr) → Option { q : Str × Nat × Pos // e = .Constant (.str q.1) q.2.1 q.2.2 }
  | .Constant (.str x) k p => some ⟨(x, k, p), rfl⟩
  | _ => none
noncomputable def strX (e : PySem.Expr) : Option Str := (strOf e).map fun q => q.1.1
theorem spl_strs {M : Model} {A : Around} {env : Env} {h : Heap} {sg : Array GenState} {sd : Drawn} {so : OsState} {E : Value → Shared → Prop} {pos : Pos} : ∀ {es : List PySem.Expr} {xs : List Str} {stk : Nat} {Q : List Value → Shared → Prop}, es.all (fun e => (strX e).isSome) = true → es.filterMap strX = xs →
    (∀ tk vs, StrsAre vs xs → Q vs (Shared.mk h sg sd tk so)) → wpAny M A (spliced (backTo pos (starEach es env))) Q E (Shared.mk h sg sd stk so)
  | [], _, _, _, _, hx, H => by subst hx; exact args_nil (H _ _ .nil)
  | e :: es, _, _, _, ha, hx, H => by
    subst hx
    rw [List.all_cons, Bool.and_eq_true] at ha
    obtain ⟨h1, h2⟩ := ha
    cases hq : strOf e with
    | none => rw [strX, hq] at h1; cases h1
    | some q =>
      have hy : strX e = some q.1.1 := by rw [strX, hq]; rfl
      rw [List.filterMap_cons_some hy] at H
      obtain ⟨⟨x, k, p⟩, rfl⟩ := q
      exact args_cons (PySem.Calls.Constant_str (spl_strs h2 rfl fun tk vs hv => H tk _ (.cons _ _ hv))) rfl
example : True := by
  k_with "o spliced" => ((k_here; (with_reducible show wpAny _ _ (spliced (backTo _ (starEach (PySem.Expr.Constant _ _ _ :: PySem.Expr.Constant _ _ _ :: PySem.Expr.Constant _ _ _ :: _) _))) _ _ _); k_dflt (refine' spl_strs ?za_109 ?zx_109 ?_; (case za_109 => exact rfl); (case zx_109 => ((dsimp only [List.filterMap, strX, strOf, Option.map]) <;> exact rfl)); k_whole); intro tk' vs' hS'))
  k_with "o compareOp In str ref" => ((k_here; (with_reducible show wpAny _ _ (compareOp CmpOp.In (Value.str _ _) (Value.ref _)) _ _ _); (with_unfolding_all refine' in_tuple_strs ?k1_110 ?k2_110 ?_; (case k1_110 => exact News.isTup (by k_asm) (by news_mem)); (case k2_110 => exact hS'); k_whole)))
  trivial
noncomputable def tableParts : List Str := [Str.ofString "table", Str.ofString "tbody", Str.ofString "tfoot", Str.ofString "thead", Str.ofString "tr"]
theorem c_tablepart {y : Str} {t : Tok} {news : List (Addr × Obj)} (C : Cx w h₀ A L 1) (F : Fr h₀ L sh m) (N : News h₀ L sh news)
    (k : ∀ h' tk, Fr h₀ L h' m → News h₀ L h' news → Q (.bool (tableParts.any fun x => x == y)) (Shared.mk h' sg sd tk so)) :
    wpAny (model prog w) A (call (.ref 35) [.str y t]) Q E (Shared.mk sh sg sd stk so) := by
  refine' call_fn (binds := [bd "name" (.str y t)]) C F N ?h1 ?h2 ?h3 ?h4 ?h5 ?h6 ?h7 ?h8 ?_
  k_extra "o m side"
  k_extra "o m go"
  exact k _ _ kF (News.tl kN)
noncomputable def blockNames : List Str := [Str.ofString "div", Str.ofString "p"]
noncomputable def lowNames : List Str := [Str.ofString "b", Str.ofString "i", Str.ofString "a", Str.ofString "u", Str.ofString "div", Str.ofString "p", Str.ofString "span"]
theorem c_special {x y : Str} {t u : Tok} {news : List (Addr × Obj)} (C : Cx w h₀ A L 1) (F : Fr h₀ L sh m) (N : News h₀ L sh news)
    (hxy : (x = Str.ofString "html" ∧ y ∈ lowNames) ∨ (x = Str.ofString "svg" ∧ y = Str.ofString "g"))
    (k : ∀ h' tk, Fr h₀ L h' m → News h₀ L h' news → Q (.bool (blockNames.any fun x => x == y)) (Shared.mk h' sg sd tk so)) :
    wpAny (model prog w) A (call (.ref 28) [.str x t, .str y u]) Q E (Shared.mk sh sg sd stk so) := by
  refine' call_fn (binds := [bd "space" (.str x t), bd "name" (.str y u)]) C F N ?h1 ?h2 ?h3 ?h4 ?h5 ?h6 ?h7 ?h8 ?_
  k_extra "o m side"
  k_extra "o m go"
  · exfalso; rename ((_ == _) = true) => q; rcases hxy with ⟨rfl, _⟩ | ⟨rfl, _⟩ <;> revert q <;> decide
  · have z := fun tk => k _ tk kF (News.tl kN)
    rcases hxy with ⟨rfl, _⟩ | ⟨rfl, rfl⟩
    · exfalso; rename ((_ == _) = true) => q; revert q; decide
    · exact z _
  · have z := fun tk => k _ tk kF (News.tl kN)
    rcases hxy with ⟨rfl, hy⟩ | ⟨rfl, rfl⟩
    · simp only [lowNames, List.mem_cons, List.not_mem_nil, or_false] at hy
      rcases hy with rfl | rfl | rfl | rfl | rfl | rfl | rfl <;> exact z _
    · exfalso; rename_i q; revert q; decide
  · have z := fun tk => k _ tk kF kN
    rcases hxy with ⟨rfl, _⟩ | ⟨rfl, rfl⟩
    · exfalso; rename_i q; revert q; decide
    · exact z _

noncomputable def par (S : St) (x : Int) : Int := S.parents.getD x.toNat 0
inductive Up (S : St) : Int → List Int → Prop
  | top {x : Int} : par S x = -1 → Up S x []
  | up {x : Int} {l : List Int} : 0 ≤ par S x → par S x < S.parents.length → Up S (par S x) l → Up S x (par S x :: l)
theorem Up.rest {S : St} {x : Int} {l : List Int} (h : Up S x l) : (par S x = -1 ∧ l = []) ∨ (par S x ≠ -1 ∧ 0 ≤ par S x ∧ par S x < S.parents.length ∧ ∃ l', l = par S x :: l' ∧ Up S (par S x) l') := by
  cases h with
  | top h => exact .inl ⟨h, rfl⟩
  | up h0 h1 h => exact .inr ⟨by (first | lia | omega), h0, h1, _, rfl, h⟩
theorem c_above {x : Int} {t : Tok} {l : List Int} (C : Cx w h₀ A L 1) (F : Fr h₀ L sh m) (W : Bw prog w h₀ L sh ex a S) (hz : S.parents.length ≤ 1000000) (h0 : 0 ≤ x) (h1 : x < S.parents.length) (hu : Up S x l) (hl : l.length ≤ 100000)
    (k : ∀ h' tk D vs n, Fr h₀ L h' m → Bw prog w h₀ L h' ((D, listOf (List.toArray vs) n) :: ex) a S → IntsAre vs l → Q (.ref D) (Shared.mk h' sg sd tk so)) :
    wpAny (model prog w) A (call (.ref 431) [.ref a.t, .int x t]) Q E (Shared.mk sh sg sd stk so) := by
  obtain ⟨g, N, Nd, V⟩ := W
  refine' call_fn (binds := [bd "tree" (.ref a.t), bd "node" (.int x t)]) C F N ?h1 ?h2 ?h3 ?h4 ?h5 ?h6 ?h7 ?h8 ?_
  k_extra "o m side"
  k_extra "o m go"
  refine whl_inv (fun n s' => ∀ G : Prop, (∀ h tk u v pre rest vs c, (s' = (Shared.mk h sg sd tk so)) → (Fr hG L' h (fun y => List.lookup y [bd "up" (.int u v), bd "out" (.ref D'), bd "node" (.int x t), bd "tree" (.ref a.t)])) → News hG L' h ((D', listOf (List.toArray vs) c) :: (ex ++ obs w.params a g)) → IntsAre vs pre → (l = pre ++ rest) → (n = rest.length) → (((u = -1 ∧ rest = []) ∨ (u ≠ -1 ∧ 0 ≤ u ∧ u < S.parents.length ∧ ∃ r', rest = u :: r' ∧ Up S u r'))) → G) → G) l.length ?_ ?_
  · exact fun G kk => kk _ _ _ _ [] l [] 0 rfl F' N' .nil rfl rfl hu.rest
  · intro P hW n s' hI ih
    refine hI _ ?_
    clear hI
    rintro h tk u v pre rest vs c rfl F' N' hi he rfl hr
    k_extra "o m go"
    rcases hr with ⟨rfl, rfl⟩ | ⟨hne, h0', h1', r', rfl, hU⟩
    · refine WhlIf.no (by decide) ?_
      k_extra "o m go"
      exact k _ _ _ _ _ kF ⟨g, kN, Nd, V⟩ (by rw [he, List.append_nil]; exact hi)
    · refine WhlIf.yes (by simpa using hne) ?_
      have hlen := hi.length
      have hll : pre.length ≤ 100000 := by rw [he, List.length_append] at hl; (first | lia | omega)
      k_extra "o m go"
      refine ih r'.length _ (by simp) fun G kk => kk _ _ _ _ (pre ++ [u]) r' _ _ rfl F' N' (ints_append hi (.cons _ _ .nil)) (by rw [he]; simp) rfl hU.rest
end

section
variable {prog : Program} {w : World} {A : Around} {h₀ : Heap} {L : Addr} {m : Str → Option Value} {sh : Heap} {sg : Array GenState} {sd : Drawn} {stk : Nat} {so : OsState} {ex : List (Addr × Obj)} {a : BA} {S : St} {Q : Value → Shared → Prop} {E : Value → Shared → Prop}
noncomputable def unlink (S : St) (x : Int) : St := if par S x = -1 then S else { S with children := S.children.set (par S x).toNat ((kidsOf S (par S x)).erase x), parents := S.parents.set x.toNat (-1) }

theorem c_tremove {x : Int} {t : Tok} (C : Cx w h₀ A L 1) (F : Fr h₀ L sh m) (W : Bw prog w h₀ L sh ex a S) (h0 : 0 ≤ x) (h1 : x < S.parents.length) (hz : S.parents.length ≤ 1000000) (hc : S.children.length ≤ 1000000)
    (hp : par S x ≠ -1 → 0 ≤ par S x ∧ par S x < S.children.length ∧ x ∈ kidsOf S (par S x) ∧ (kidsOf S (par S x)).length ≤ 1000000)
    (k : ∀ h' tk, Fr h₀ L h' m → Bw prog w h₀ L h' ex a (unlink S x) → Q .none (Shared.mk h' sg sd tk so)) :
    wpAny (model prog w) A (call (.ref 382) [.ref a.t, .int x t]) Q E (Shared.mk sh sg sd stk so) := by
  obtain ⟨g, N, Nd, V⟩ := W
  have hl := V.pa.length
  refine' call_fn (binds := [bd "self" (.ref a.t), bd "node" (.int x t)]) C F N ?h1 ?h2 ?h3 ?h4 ?h5 ?h6 ?h7 ?h8 ?_
  k_extra "o m side"
  by_cases hx : par S x = -1
  · have e : unlink S x = S := by unfold unlink; rw [if_pos hx]
    rw [e] at k
    unfold par at hx
    k_extra "o m go"
    exact k _ _ kF ⟨_, kN, Nd, V⟩
  · obtain ⟨q0, q1, q2, q3⟩ := hp hx
    obtain ⟨c, vs, n, hk, hi, hr⟩ := kid_at V q0 q1
    have e : unlink S x = { S with children := S.children.set (par S x).toNat ((kidsOf S (par S x)).erase x), parents := S.parents.set x.toNat (-1) } := by unfold unlink; rw [if_neg hx]
    rw [e] at k
    unfold par at *
    k_extra "o m go"
    exact k _ _ kF ⟨_, kN, Nd, { V with pa := ints_set V.pa _, ch := All2.set ⟨_, _, rfl, ints_erase hi⟩ _ V.ch }⟩

theorem unlink_ch (S : St) (x : Int) : (unlink S x).children.length = S.children.length := by unfold unlink; split <;> simp
theorem unlink_pa (S : St) (x : Int) : (unlink S x).parents.length = S.parents.length := by unfold unlink; split <;> simp
end

section
variable {prog : Program} {w : World} {A : Around} {h₀ : Heap} {L : Addr} {m : Str → Option Value} {sh : Heap} {sg : Array GenState} {sd : Drawn} {stk : Nat} {so : OsState} {ex : List (Addr × Obj)} {a : BA} {S : St} {Q : Value → Shared → Prop} {E : Value → Shared → Prop}
noncomputable def linkAt (S : St) (p x : Int) (i : Nat) : St := { S with children := S.children.set p.toNat (putIn (kidsOf S p) i x), parents := S.parents.set x.toNat p }
noncomputable def insertE (S : St) (p x : Int) : St := linkAt (unlink S x) p x (kidsOf (unlink S x) p).length
noncomputable def insertB (S : St) (p x b : Int) : St := linkAt (unlink S x) p x ((kidsOf (unlink S x) p).idxOf b)
noncomputable def FdAt (P : Params) (f : Addr) (F : FuncData) : Prop := ∃ oc od osl, (hd.heap_1_1 P).lookup f = some ⟨oc, od, .func F, osl⟩
theorem fd_use {P : Params} {f : Addr} {oc ct cdv doc pm : Value} {od an : Option Addr} {osl : Array (Option Value)} {name qual : Str} {params : Arguments} {body : List Stmt} {scope : Scope} {dV kV : Value} {X : FuncData → Prop}
    (ho : (hd.heap_1_1 P).lookup f = some ⟨oc, od, .func (fnOf name qual params body scope dV kV doc pm an cdv ct), osl⟩) (k : X (fnOf name qual params body scope dV kV doc pm an cdv ct)) : ∀ F, FdAt P f F → X F := by
  rintro F ⟨oc', od', osl', h⟩
  rw [ho] at h
  cases h
  exact k
example : True := by
  k_with "o m side0" => ((
      case h1 => k_is
      case h2 => k_is
      case h4 => exact locs rfl
      case h5 => exact rfl
      case h6 => exact rfl
      case h7 => exact rfl
      case h8 => decide
      intro hG L' h₁ R _ _ _ _ tk' hR CC X T hh F' N' st
      (try dsimp only [List.reverse, List.reverseAux] at F')))
  k_with "o m fd" => ((
      refine' fd_use ?h1_112 ?h3_112
      case h1_112 => k_is
      case h3_112 => intro hp hX he; first | exact BindsTo.of_eq rfl | exact binds_K (by rw [he]; exact hX) rfl (by k_is) rfl rfl rfl))
  trivial
theorem c_insertG {pos : List Value} {p x : Int} {t u tb : Tok} {l : List Int} (C : Cx w h₀ A L 2) (F : Fr h₀ L sh m) (W : Bw prog w h₀ L sh ex a S) (h0 : 0 ≤ x) (h1 : x < S.parents.length) (hz : S.parents.length ≤ 1000000) (hc : S.children.length ≤ 1000000)
    (hx : par S x ≠ -1 → 0 ≤ par S x ∧ par S x < S.children.length ∧ x ∈ kidsOf S (par S x) ∧ (kidsOf S (par S x)).length ≤ 1000000)
    (hp0 : 0 ≤ p) (hp1 : p < S.children.length) (hp2 : p < S.parents.length) (hu : Up S p l) (hl : l.length ≤ 100000) (hne : x ≠ p) (hnl : x ∉ l) (hkz : (kidsOf (unlink S x) p).length ≤ 100000)
    (hbd : ∀ F, FdAt w.params 368 F → ∀ h, (hd.heap_1_1 w.params).In h → sh = h → BindsTo (Shared.mk sh sg sd stk so) F ⟨pos, []⟩ [bd "self" (.ref a.t), bd "parent" (.int p t), bd "node" (.int x u), bd "before" (.int (-1) tb)])
    (k : ∀ h' tk, Fr h₀ L h' m → Bw prog w h₀ L h' ex a (insertE S p x) → Q .none (Shared.mk h' sg sd tk so)) :
    wpAny (model prog w) A (call (.ref 368) pos) Q E (Shared.mk sh sg sd stk so) := by
  obtain ⟨g, N, Nd, V⟩ := W
  refine' call_fn (binds := [bd "self" (.ref a.t), bd "parent" (.int p t), bd "node" (.int x u), bd "before" (.int (-1) tb)]) C F N ?h1 ?h2 ?h3 ?h4 ?h5 ?h6 ?h7 ?h8 ?_
  case h3 => exact hbd _ ⟨_, _, _, by k_is⟩
  k_extra "o m side0"
  k_extra "o m go"
  refine c_above (ex := ex) (S := S) (l := l) (CC.mono (by decide)) F' ⟨_, N', Nd, V⟩ hz hp0 hp2 hu hl ?_
  intro h' tk D vs c F' W' hi
  k_extra "o m open"
  k_extra "o m go"
  refine c_tremove (ex := (D, listOf (List.toArray vs) c) :: ex) (S := S) (CC.mono (by decide)) F' ⟨_, N', Nd, V⟩ h0 h1 hz hc hx ?_
  intro h' tk F' W'
  k_extra "o m open"
  obtain ⟨c2, vs2, n2, hk, hi2, hr⟩ := kid_at V hp0 (by rw [unlink_ch]; exact hp1)
  have hl2 := hi2.length
  have hl3 := V.pa.length
  rw [unlink_pa] at hl3
  k_extra "o m go"
  exact k _ _ kF ⟨_, News.tl kN, nd_tl Nd, { V with pa := ints_set V.pa _, ch := All2.set ⟨_, _, rfl, ints_putIn _ hi2⟩ _ V.ch }⟩
theorem c_insertE {p x : Int} {t u : Tok} {l : List Int} (C : Cx w h₀ A L 2) (F : Fr h₀ L sh m) (W : Bw prog w h₀ L sh ex a S) (h0 : 0 ≤ x) (h1 : x < S.parents.length) (hz : S.parents.length ≤ 1000000) (hc : S.children.length ≤ 1000000)
    (hx : par S x ≠ -1 → 0 ≤ par S x ∧ par S x < S.children.length ∧ x ∈ kidsOf S (par S x) ∧ (kidsOf S (par S x)).length ≤ 1000000)
    (hp0 : 0 ≤ p) (hp1 : p < S.children.length) (hp2 : p < S.parents.length) (hu : Up S p l) (hl : l.length ≤ 100000) (hne : x ≠ p) (hnl : x ∉ l) (hkz : (kidsOf (unlink S x) p).length ≤ 100000)
    (k : ∀ h' tk, Fr h₀ L h' m → Bw prog w h₀ L h' ex a (insertE S p x) → Q .none (Shared.mk h' sg sd tk so)) :
    wpAny (model prog w) A (call (.ref 368) [.ref a.t, .int p t, .int x u]) Q E (Shared.mk sh sg sd stk so) := by
  refine c_insertG (t := t) (u := u) (tb := 664) C F W h0 h1 hz hc hx hp0 hp1 hp2 hu hl hne hnl hkz ?_ k
  k_extra "o m fd"
theorem c_insertB {p x b : Int} {t u tb : Tok} {l : List Int} (C : Cx w h₀ A L 2) (F : Fr h₀ L sh m) (W : Bw prog w h₀ L sh ex a S) (h0 : 0 ≤ x) (h1 : x < S.parents.length) (hz : S.parents.length ≤ 1000000) (hc : S.children.length ≤ 1000000)
    (hx : par S x ≠ -1 → 0 ≤ par S x ∧ par S x < S.children.length ∧ x ∈ kidsOf S (par S x) ∧ (kidsOf S (par S x)).length ≤ 1000000)
    (hp0 : 0 ≤ p) (hp1 : p < S.children.length) (hp2 : p < S.parents.length) (hu : Up S p l) (hl : l.length ≤ 100000) (hne : x ≠ p) (hnl : x ∉ l) (hkz : (kidsOf (unlink S x) p).length ≤ 100000)
    (hb0 : b ≠ -1) (hbx : b ≠ x) (hb1 : b ∈ kidsOf S p) (hb2 : b ∈ kidsOf (unlink S x) p)
    (k : ∀ h' tk, Fr h₀ L h' m → Bw prog w h₀ L h' ex a (insertB S p x b) → Q .none (Shared.mk h' sg sd tk so)) :
    wpAny (model prog w) A (call (.ref 368) [.ref a.t, .int p t, .int x u, .int b tb]) Q E (Shared.mk sh sg sd stk so) := by
  obtain ⟨g, N, Nd, V⟩ := W
  refine' call_fn (binds := [bd "self" (.ref a.t), bd "parent" (.int p t), bd "node" (.int x u), bd "before" (.int b tb)]) C F N ?h1 ?h2 ?h3 ?h4 ?h5 ?h6 ?h7 ?h8 ?_
  k_extra "o m side"
  k_extra "o m go"
  refine c_above (ex := ex) (S := S) (l := l) (CC.mono (by decide)) F' ⟨_, N', Nd, V⟩ hz hp0 hp2 hu hl ?_
  intro h' tk D vs c F' W' hi
  k_extra "o m open"
  obtain ⟨c1, vs1, n1, hk1, hi1, hr1⟩ := kid_at V hp0 hp1
  k_extra "o m go"
  refine c_tremove (ex := (D, listOf (List.toArray vs) c) :: ex) (S := S) (CC.mono (by decide)) F' ⟨_, N', Nd, V⟩ h0 h1 hz hc hx ?_
  intro h' tk F' W'
  k_extra "o m open"
  clear hk1 hi1 hr1
  obtain ⟨c2, vs2, n2, hk, hi2, hr⟩ := kid_at V hp0 (by rw [unlink_ch]; exact hp1)
  have hl2 := hi2.length
  have hl3 := V.pa.length
  rw [unlink_pa] at hl3
  have hj : (kidsOf (unlink S x) p).idxOf b < (kidsOf (unlink S x) p).length := List.idxOf_lt_length_iff.mpr hb2
  k_extra "o m go"
  exact k _ _ kF ⟨_, News.tl kN, nd_tl Nd, { V with pa := ints_set V.pa _, ch := All2.set ⟨_, _, rfl, ints_putIn _ hi2⟩ _ V.ch }⟩
end

section
variable {prog : Program} {w : World} {A : Around} {h₀ : Heap} {L : Addr} {m : Str → Option Value} {sh : Heap} {sg : Array GenState} {sd : Drawn} {stk : Nat} {so : OsState} {ex : List (Addr × Obj)} {a : BA} {S : St} {Q : Value → Shared → Prop} {E : Value → Shared → Prop}
structure InsOk (S : St) (p x : Int) (l : List Int) : Prop where
  h0 : 0 ≤ x
  h1 : x < S.parents.length
  hz : S.parents.length ≤ 1000000
  hc : S.children.length ≤ 1000000
  hx : par S x ≠ -1 → 0 ≤ par S x ∧ par S x < S.children.length ∧ x ∈ kidsOf S (par S x) ∧ (kidsOf S (par S x)).length ≤ 1000000
  hp0 : 0 ≤ p
  hp1 : p < S.children.length
  hp2 : p < S.parents.length
  hu : Up S p l
  hl : l.length ≤ 100000
  hne : x ≠ p
  hnl : x ∉ l
  hkz : (kidsOf (unlink S x) p).length ≤ 100000

theorem c_append {p x : Int} {t u : Tok} {l : List Int} (C : Cx w h₀ A L 3) (F : Fr h₀ L sh m) (W : Bw prog w h₀ L sh ex a S) (I : InsOk S p x l)
    (k : ∀ h' tk, Fr h₀ L h' m → Bw prog w h₀ L h' ex a (insertE S p x) → Q .none (Shared.mk h' sg sd tk so)) :
    wpAny (model prog w) A (call (.ref 375) [.ref a.t, .int p t, .int x u]) Q E (Shared.mk sh sg sd stk so) := by
  obtain ⟨g, N, Nd, V⟩ := W
  refine' call_fn (binds := [bd "self" (.ref a.t), bd "parent" (.int p t), bd "node" (.int x u)]) C F N ?h1 ?h2 ?h3 ?h4 ?h5 ?h6 ?h7 ?h8 ?_
  k_extra "o m side"
  k_extra "o m go"
  refine c_insertE (ex := ex) (S := S) (l := l) (CC.mono (by decide)) F' ⟨_, N', Nd, V⟩ I.h0 I.h1 I.hz I.hc I.hx I.hp0 I.hp1 I.hp2 I.hu I.hl I.hne I.hnl I.hkz ?_
  intro h' tk F' W'
  k_extra "o m open"
  k_extra "o m go"
  exact k _ _ kF ⟨_, kN, Nd, V⟩

noncomputable def moveKids (S : St) (there : Int) (cs : List Int) : St := cs.foldl (fun S c => insertE S there c) S
theorem moveKids_snoc (S : St) (there : Int) (cs : List Int) (c : Int) : moveKids S there (cs ++ [c]) = insertE (moveKids S there cs) there c := by
  unfold moveKids; rw [List.foldl_append]; rfl
theorem c_movekids {p q : Int} {t u : Tok} {l : List Int} (C : Cx w h₀ A L 4) (F : Fr h₀ L sh m) (W : Bw prog w h₀ L sh ex a S) (hz : S.parents.length ≤ 1000000)
    (h0 : 0 ≤ p) (h1 : p < S.children.length) (hpz : (kidsOf S p).length ≤ 100000) (hq0 : 0 ≤ q) (hq1 : q < S.parents.length) (hu : Up S q l) (hl : l.length ≤ 100000) (hnl : p ∉ l) (hc : S.children.length ≤ 1000000)
    (hok : ∀ pre c post, kidsOf S p = pre ++ c :: post → ∃ l, InsOk (moveKids S q pre) q c l)
    (k : ∀ h' tk, Fr h₀ L h' m → Bw prog w h₀ L h' ex a (moveKids S q (kidsOf S p)) → Q .none (Shared.mk h' sg sd tk so)) :
    wpAny (model prog w) A (call (.ref 389) [.ref a.t, .int p t, .int q u]) Q E (Shared.mk sh sg sd stk so) := by
  obtain ⟨g, N, Nd, V⟩ := W
  refine' call_fn (binds := [bd "self" (.ref a.t), bd "here" (.int p t), bd "there" (.int q u)]) C F N ?h1 ?h2 ?h3 ?h4 ?h5 ?h6 ?h7 ?h8 ?_
  k_extra "o m side"
  k_extra "o m go"
  refine c_above (ex := ex) (S := S) (l := l) (CC.mono (by decide)) F' ⟨_, N', Nd, V⟩ hz hq0 hq1 hu hl ?_
  intro h' tk D vs c F' W' hi
  k_extra "o m open"
  obtain ⟨c1, vs1, n1, hk1, hi1, hr1⟩ := kid_at V h0 h1
  have hl1 := hi1.length
  k_extra "o m go"
  replace N' := News.tl N'
  replace Nd := Nd1
  refine For_invV hG (by rfl) (by rfl) ?_
  k_extra "o m go"
  refine for_list (σ := List Int × List Int × Sg) (fun _ => [bd "there" (.int q u), bd "here" (.int p t), bd "self" (.ref a.t)]) (fun c => (D', listOf vs1.toArray c') :: (ex ++ obs w.params a c.2.2))
    (fun r c => IntsAre r c.2.1 ∧ kidsOf S p = c.1 ++ c.2.1 ∧ Sv prog w a c.2.2 (moveKids S q c.1)) ([], kidsOf S p, g') (n := c') (fun _ => rfl) hh F' N' (fun _ _ _ => .head _) Nd ⟨hi1, rfl, V⟩ ?_ ?_
  · rintro v r ⟨pre, post, g⟩ I it h tk ⟨hi, he, V⟩ F' N' Nd
    dsimp only at hi he V F' N' Nd
    cases hi with
    | cons y ty hi =>
    obtain ⟨l', IO⟩ := hok pre y _ he
    k_extra "o m go"
    refine c_append (ex := (I, it) :: (D', listOf vs1.toArray c') :: ex) (l := l') (CC.mono (by decide)) F' ⟨_, N', Nd, V⟩ IO ?_
    intro h' tk F' W'
    k_extra "o m open"
    k_extra "o m go"
    exact ⟨(pre ++ [y], _, g'), _, _, rfl, F', N', Nd, hi, by simp [he], by rw [moveKids_snoc]; exact V⟩
  · rintro ⟨pre, post, g⟩ h tk o ⟨hi, he, V⟩ ho F' N' Nd
    dsimp only at hi he V F' N' Nd
    cases hi
    rw [List.append_nil] at he
    k_extra "o m go"
    exact k _ _ kF ⟨g, News.tl kN, nd_tl Nd, by rw [he]; exact V⟩
end

section
variable {prog : Program} {w : World} {A : Around} {h₀ : Heap} {L : Addr} {m : Str → Option Value} {sh : Heap} {sg : Array GenState} {sd : Drawn} {stk : Nat} {so : OsState} {ex : List (Addr × Obj)} {a : BA} {S : St} {Q : Value → Shared → Prop} {E : Value → Shared → Prop}
structure Ln (S : St) (n : Nat) : Prop where
  ki : S.kinds.length = n
  sp : S.spaces.length = n
  na : S.names.length = n
  ar : S.attrs.length = n
  te : S.texts.length = n
  pa : S.parents.length = n
  ch : S.children.length = n
  hn : n ≤ 100000
noncomputable def addN (S : St) (kind sp na : Str) (ps : List (Str × Str)) (te : Str) : St :=
  { S with kinds := S.kinds ++ [kind], spaces := S.spaces ++ [sp], names := S.names ++ [na], attrs := S.attrs ++ [ps], texts := S.texts ++ [te], parents := S.parents ++ [-1], children := S.children ++ [[]] }

end
namespace E_c_addG
noncomputable def St_ (prog : Program) (w : World) (A : Around) (h₀ : Heap) (L : Addr) (m : Str → Option Value) (sh : Heap) (sg : Array GenState) (sd : Drawn) (stk : Nat) (so : OsState) (ex : List (Addr × Obj)) (a : BA) (S : St) (Q : Value → Shared → Prop) (E : Value → Shared → Prop) (pos : List Value) (kind : Str) (sp : Str) (na : Str) (te : Str) (t1 : Tok) (t2 : Tok) (t3 : Tok) (t4 : Tok) (b : Addr) (n : Nat) (vs : List Value) (ps : List (Str × Str)) : Prop :=
  ∀ (C : Cx w h₀ A L 1) (F : Fr h₀ L sh m) (W : BwA prog w h₀ L sh ex a S vs ps) (H : Ln S n) (hb : SeqAt w.params ex b vs) (hv : vs.length ≤ 100000) (hbd : ∀ F, FdAt w.params 330 F → ∀ h, (hd.heap_1_1 w.params).In h → sh = h → BindsTo (Shared.mk sh sg sd stk so) F ⟨pos, []⟩ [bd "self" (.ref a.t), bd "kind" (.str kind t1), bd "space" (.str sp t2), bd "name" (.str na t3), bd "attrs" (.ref b), bd "text" (.str te t4)]) (k : ∀ h' tk u v, Fr h₀ L h' m → Bw prog w h₀ L h' ex a (addN S kind sp na ps te) → v = (n : Int) → Q (.int v u) (Shared.mk h' sg sd tk so)), wpAny (model prog w) A (call (.ref 330) pos) Q E (Shared.mk sh sg sd stk so)
noncomputable def v : CV × (List Value) × Str × Str × Str × Str × Tok × Tok × Tok × Tok × Addr × Nat × (List Value) × (List (Str × Str)) := @Classical.epsilon _ ⟨(cv0, default, default, default, default, default, default, default, default, default, default, default, default, default)⟩ fun v => ¬ St_ v.1.prog v.1.w v.1.A v.1.h₀ v.1.L v.1.m v.1.sh v.1.sg v.1.sd v.1.stk v.1.so v.1.ex v.1.a v.1.S v.1.Q v.1.E v.2.1 v.2.2.1 v.2.2.2.1 v.2.2.2.2.1 v.2.2.2.2.2.1 v.2.2.2.2.2.2.1 v.2.2.2.2.2.2.2.1 v.2.2.2.2.2.2.2.2.1 v.2.2.2.2.2.2.2.2.2.1 v.2.2.2.2.2.2.2.2.2.2.1 v.2.2.2.2.2.2.2.2.2.2.2.1 v.2.2.2.2.2.2.2.2.2.2.2.2.1 v.2.2.2.2.2.2.2.2.2.2.2.2.2
@[irreducible] noncomputable def prog : Program := v.1.prog
@[irreducible] noncomputable def w : World := v.1.w
@[irreducible] noncomputable def A : Around := v.1.A
@[irreducible] noncomputable def h₀ : Heap := v.1.h₀
@[irreducible] noncomputable def L : Addr := v.1.L
@[irreducible] noncomputable def m : Str → Option Value := v.1.m
@[irreducible] noncomputable def sh : Heap := v.1.sh
@[irreducible] noncomputable def sg : Array GenState := v.1.sg
@[irreducible] noncomputable def sd : Drawn := v.1.sd
@[irreducible] noncomputable def stk : Nat := v.1.stk
@[irreducible] noncomputable def so : OsState := v.1.so
@[irreducible] noncomputable def ex : List (Addr × Obj) := v.1.ex
@[irreducible] noncomputable def a : BA := v.1.a
@[irreducible] noncomputable def S : St := v.1.S
@[irreducible] noncomputable def Q : Value → Shared → Prop := v.1.Q
@[irreducible] noncomputable def E : Value → Shared → Prop := v.1.E
@[irreducible] noncomputable def pos : List Value := v.2.1
@[irreducible] noncomputable def kind : Str := v.2.2.1
@[irreducible] noncomputable def sp : Str := v.2.2.2.1
@[irreducible] noncomputable def na : Str := v.2.2.2.2.1
@[irreducible] noncomputable def te : Str := v.2.2.2.2.2.1
@[irreducible] noncomputable def t1 : Tok := v.2.2.2.2.2.2.1
@[irreducible] noncomputable def t2 : Tok := v.2.2.2.2.2.2.2.1
@[irreducible] noncomputable def t3 : Tok := v.2.2.2.2.2.2.2.2.1
@[irreducible] noncomputable def t4 : Tok := v.2.2.2.2.2.2.2.2.2.1
@[irreducible] noncomputable def b : Addr := v.2.2.2.2.2.2.2.2.2.2.1
@[irreducible] noncomputable def n : Nat := v.2.2.2.2.2.2.2.2.2.2.2.1
@[irreducible] noncomputable def vs : List Value := v.2.2.2.2.2.2.2.2.2.2.2.2.1
@[irreducible] noncomputable def ps : List (Str × Str) := v.2.2.2.2.2.2.2.2.2.2.2.2.2
theorem core : St_ prog w A h₀ L m sh sg sd stk so ex a S Q E pos kind sp na te t1 t2 t3 t4 b n vs ps := by
  intro C F W H hb hv hbd k
  obtain ⟨g, N, Nd, V, hp⟩ := W
  refine' call_fn (binds := [bd "self" (.ref a.t), bd "kind" (.str kind t1), bd "space" (.str sp t2), bd "name" (.str na t3), bd "attrs" (.ref b), bd "text" (.str te t4)]) C F N ?h1 ?h2 ?h3 ?h4 ?h5 ?h6 ?h7 ?h8 ?_
  case h3 => exact hbd _ ⟨_, _, _, by k_is⟩
  k_extra "o m side0"
  have q1 := V.ki.length.trans H.ki
  have q2 := V.sp.length.trans H.sp
  have q3 := V.na.length.trans H.na
  have q4 := V.ar.length.trans H.ar
  have q5 := V.te.length.trans H.te
  have q6 := V.pa.length.trans H.pa
  have q7 := V.ch.length.trans H.ch
  have q8 := H.hn
  have q9 := H.ki
  k_extra "o m go"
  obtain ⟨N2, Nd2⟩ := absorb kN Nd
  refine k _ _ _ _ kF ⟨_, N2, Nd2, { V with ki := strs_append V.ki (.cons _ _ .nil), sp := strs_append V.sp (.cons _ _ .nil), na := strs_append V.na (.cons _ _ .nil), te := strs_append V.te (.cons _ _ .nil), pa := ints_append V.pa (.cons _ _ .nil), ch := All2.append V.ch ⟨⟨[], _, rfl, .nil⟩, trivial⟩, kp := fun p hp => List.mem_append_left _ (V.kp p hp), ar := ?_ }⟩ (by rw [List.length_append]; simp only [List.length_cons, List.length_nil]; k_extra "o m oz")
  refine All2.append (V.ar.mono fun _ _ => AttrAt.mono fun p hp => List.mem_append_left _ hp) ⟨⟨_, vs, _, rfl, List.mem_append_right _ (.head _), ?_⟩, trivial⟩
  exact hp.mono fun _ _ => PairAt.mono fun p hp => List.mem_append_left _ hp
theorem all (v : CV × (List Value) × Str × Str × Str × Str × Tok × Tok × Tok × Tok × Addr × Nat × (List Value) × (List (Str × Str))) : St_ v.1.prog v.1.w v.1.A v.1.h₀ v.1.L v.1.m v.1.sh v.1.sg v.1.sd v.1.stk v.1.so v.1.ex v.1.a v.1.S v.1.Q v.1.E v.2.1 v.2.2.1 v.2.2.2.1 v.2.2.2.2.1 v.2.2.2.2.2.1 v.2.2.2.2.2.2.1 v.2.2.2.2.2.2.2.1 v.2.2.2.2.2.2.2.2.1 v.2.2.2.2.2.2.2.2.2.1 v.2.2.2.2.2.2.2.2.2.2.1 v.2.2.2.2.2.2.2.2.2.2.2.1 v.2.2.2.2.2.2.2.2.2.2.2.2.1 v.2.2.2.2.2.2.2.2.2.2.2.2.2 := eps_all ⟨v⟩ (P := fun v => St_ v.1.prog v.1.w v.1.A v.1.h₀ v.1.L v.1.m v.1.sh v.1.sg v.1.sd v.1.stk v.1.so v.1.ex v.1.a v.1.S v.1.Q v.1.E v.2.1 v.2.2.1 v.2.2.2.1 v.2.2.2.2.1 v.2.2.2.2.2.1 v.2.2.2.2.2.2.1 v.2.2.2.2.2.2.2.1 v.2.2.2.2.2.2.2.2.1 v.2.2.2.2.2.2.2.2.2.1 v.2.2.2.2.2.2.2.2.2.2.1 v.2.2.2.2.2.2.2.2.2.2.2.1 v.2.2.2.2.2.2.2.2.2.2.2.2.1 v.2.2.2.2.2.2.2.2.2.2.2.2.2) (by with_unfolding_all exact core) v
end E_c_addG
section
variable {prog : Program} {w : World} {A : Around} {h₀ : Heap} {L : Addr} {m : Str → Option Value} {sh : Heap} {sg : Array GenState} {sd : Drawn} {stk : Nat} {so : OsState} {ex : List (Addr × Obj)} {a : BA} {S : St} {Q : Value → Shared → Prop} {E : Value → Shared → Prop}
theorem c_addG {pos : List Value} {kind sp na te : Str} {t1 t2 t3 t4 : Tok} {b : Addr} {n : Nat} {vs : List Value} {ps : List (Str × Str)} (C : Cx w h₀ A L 1) (F : Fr h₀ L sh m) (W : BwA prog w h₀ L sh ex a S vs ps) (H : Ln S n) (hb : SeqAt w.params ex b vs) (hv : vs.length ≤ 100000)
    (hbd : ∀ F, FdAt w.params 330 F → ∀ h, (hd.heap_1_1 w.params).In h → sh = h → BindsTo (Shared.mk sh sg sd stk so) F ⟨pos, []⟩ [bd "self" (.ref a.t), bd "kind" (.str kind t1), bd "space" (.str sp t2), bd "name" (.str na t3), bd "attrs" (.ref b), bd "text" (.str te t4)])
    (k : ∀ h' tk u v, Fr h₀ L h' m → Bw prog w h₀ L h' ex a (addN S kind sp na ps te) → v = (n : Int) → Q (.int v u) (Shared.mk h' sg sd tk so)) :
    wpAny (model prog w) A (call (.ref 330) pos) Q E (Shared.mk sh sg sd stk so) :=
  E_c_addG.all (⟨prog, w, A, h₀, L, m, sh, sg, sd, stk, so, ex, cv0.news, a, S, Q, E⟩, pos, kind, sp, na, te, t1, t2, t3, t4, b, n, vs, ps) C F W H hb hv hbd k
theorem c_add6 {kind sp na te : Str} {t1 t2 t3 t4 : Tok} {b : Addr} {n : Nat} {vs : List Value} {ps : List (Str × Str)} (C : Cx w h₀ A L 1) (F : Fr h₀ L sh m) (W : BwA prog w h₀ L sh ex a S vs ps) (H : Ln S n) (hb : SeqAt w.params ex b vs) (hv : vs.length ≤ 100000)
    (k : ∀ h' tk u v, Fr h₀ L h' m → Bw prog w h₀ L h' ex a (addN S kind sp na ps te) → v = (n : Int) → Q (.int v u) (Shared.mk h' sg sd tk so)) :
    wpAny (model prog w) A (call (.ref 330) [.ref a.t, .str kind t1, .str sp t2, .str na t3, .ref b, .str te t4]) Q E (Shared.mk sh sg sd stk so) := by
  refine c_addG (ps := ps) (t1 := t1) (t2 := t2) (t3 := t3) (t4 := t4) C F W H hb hv ?_ k
  k_extra "o m fd"
theorem c_add5 {kind sp na : Str} {t1 t2 t3 : Tok} {b : Addr} {n : Nat} {vs : List Value} {ps : List (Str × Str)} (C : Cx w h₀ A L 1) (F : Fr h₀ L sh m) (W : BwA prog w h₀ L sh ex a S vs ps) (H : Ln S n) (hb : SeqAt w.params ex b vs) (hv : vs.length ≤ 100000)
    (k : ∀ h' tk u v, Fr h₀ L h' m → Bw prog w h₀ L h' ex a (addN S kind sp na ps Str.empty) → v = (n : Int) → Q (.int v u) (Shared.mk h' sg sd tk so)) :
    wpAny (model prog w) A (call (.ref 330) [.ref a.t, .str kind t1, .str sp t2, .str na t3, .ref b]) Q E (Shared.mk sh sg sd stk so) := by
  refine c_addG (ps := ps) (t1 := t1) (t2 := t2) (t3 := t3) (te := Str.ofString "") (t4 := 612) C F W H hb hv ?_ k
  k_extra "o m fd"
theorem c_add2 {kind : Str} {t1 : Tok} {n : Nat} (C : Cx w h₀ A L 1) (F : Fr h₀ L sh m) (W : Bw prog w h₀ L sh ex a S) (H : Ln S n)
    (k : ∀ h' tk u v, Fr h₀ L h' m → Bw prog w h₀ L h' ex a (addN S kind Str.empty Str.empty [] Str.empty) → v = (n : Int) → Q (.int v u) (Shared.mk h' sg sd tk so)) :
    wpAny (model prog w) A (call (.ref 330) [.ref a.t, .str kind t1]) Q E (Shared.mk sh sg sd stk so) := by
  obtain ⟨g, N, Nd, V⟩ := W
  refine c_addG (vs := []) (ps := []) (t1 := t1) (sp := Str.ofString "") (t2 := 610) (na := Str.ofString "") (t3 := 611) (b := 322) (te := Str.ofString "") (t4 := 612) C F ⟨g, N, Nd, V, trivial⟩ H (.top (n := 0) (by k_is)) (Nat.zero_le _) ?_ k
  k_extra "o m fd"

end

section
variable {prog : Program} {w : World} {A : Around} {h₀ : Heap} {L : Addr} {m : Str → Option Value} {sh : Heap} {sg : Array GenState} {sd : Drawn} {stk : Nat} {so : OsState} {ex : List (Addr × Obj)} {a : BA} {S : St} {Q : Value → Shared → Prop} {E : Value → Shared → Prop}
theorem Ln.addN {S : St} {n : Nat} (H : Ln S n) (hn : n + 1 ≤ 100000) (kind sp na : Str) (ps : List (Str × Str)) (te : Str) : Ln (addN S kind sp na ps te) (n + 1) := by
  refine ⟨?_, ?_, ?_, ?_, ?_, ?_, ?_, hn⟩ <;> simp [Mine.Internal.addN, H.ki, H.sp, H.na, H.ar, H.te, H.pa, H.ch]
noncomputable abbrev sHtml : Str := Str.ofString "html"
noncomputable abbrev sTempl : Str := Str.ofString "template"
noncomputable abbrev sElem : Str := Str.ofString "element"
noncomputable def elemS (S : St) (name space : Str) (ps : List (Str × Str)) : St :=
  if space = sHtml ∧ name = sTempl then
    { addN (addN S sElem space name ps Str.empty) (Str.ofString "fragment") Str.empty Str.empty [] Str.empty with contents := S.contents ++ [((S.kinds.length : Int), (S.kinds.length : Int) + 1)] }
  else addN S sElem space name ps Str.empty
theorem c_elem {name space : Str} {t1 t2 : Tok} {b : Addr} {n : Nat} {vs : List Value} {ps : List (Str × Str)} (C : Cx w h₀ A L 2) (F : Fr h₀ L sh m) (W : BwA prog w h₀ L sh ex a S vs ps) (H : Ln S n) (hn : n + 2 ≤ 100000) (hb : SeqAt w.params ex b vs) (hv : vs.length ≤ 100000)
    (hc : S.contents.length ≤ 100000) (hk : List.lookup (n : Int) S.contents = none)
    (k : ∀ h' tk u v, Fr h₀ L h' m → Bw prog w h₀ L h' ex a (elemS S name space ps) → v = (n : Int) → Q (.int v u) (Shared.mk h' sg sd tk so)) :
    wpAny (model prog w) A (call (.ref 339) [.ref a.t, .str name t1, .str space t2, .ref b]) Q E (Shared.mk sh sg sd stk so) := by
  obtain ⟨g, N, Nd, V, hp⟩ := W
  refine' call_fn (binds := [bd "self" (.ref a.t), bd "name" (.str name t1), bd "space" (.str space t2), bd "attrs" (.ref b)]) C F N ?h1 ?h2 ?h3 ?h4 ?h5 ?h6 ?h7 ?h8 ?_
  k_extra "o m side"
  k_extra "o m go"
  refine c_add5 (ex := ex) (ps := ps) (CC.mono (by decide)) F' ⟨_, N', Nd, V, hp⟩ H hb hv ?_
  intro h' tk u v F' W' e
  subst e
  k_extra "o m open"
  k_extra "o m go"
  · have e1 : space = sHtml := by simpa using ‹(space == Str.ofString "html") = true›
    have e2 : name = sTempl := by simpa using ‹(name == Str.ofString "template") = true›
    refine c_add2 (ex := ex) (n := n + 1) (CC.mono (by decide)) F' ⟨_, N', Nd, V⟩ (H.addN (by (first | lia | omega)) ..) ?_
    intro h' tk u2 v2 F' W' e
    subst e
    k_extra "o m open"
    have hk2 : List.lookup (n : Int) (addN (addN S sElem space name ps Str.empty) (Str.ofString "fragment") Str.empty Str.empty [] Str.empty).contents = none := hk
    have hc2 : (addN (addN S sElem space name ps Str.empty) (Str.ofString "fragment") Str.empty Str.empty [] Str.empty).contents.length ≤ 1000000 := by show S.contents.length ≤ _; (first | lia | omega)
    k_extra "o m go"
    refine k _ _ _ _ kF ⟨_, kN, Nd, ?_⟩ rfl
    have e3 : elemS S name space ps = { addN (addN S sElem space name ps Str.empty) (Str.ofString "fragment") Str.empty Str.empty [] Str.empty with contents := S.contents ++ [((S.kinds.length : Int), (S.kinds.length : Int) + 1)] } := if_pos ⟨e1, e2⟩
    rw [e3]
    exact { V with co := by rw [H.ki]; exact hD' }
  · have e3 : elemS S name space ps = addN S sElem space name ps Str.empty := if_neg fun q => by have := ‹(name == Str.ofString "template") = false›; rw [q.2] at this; revert this; decide
    exact k _ _ _ _ kF ⟨_, kN, Nd, by rw [e3]; exact V⟩ rfl
  · have e3 : elemS S name space ps = addN S sElem space name ps Str.empty := if_neg fun q => by have := ‹(space == Str.ofString "html") = false›; rw [q.1] at this; revert this; decide
    exact k _ _ _ _ kF ⟨_, kN, Nd, by rw [e3]; exact V⟩ rfl
theorem c_text {te : Str} {t1 : Tok} {n : Nat} (C : Cx w h₀ A L 2) (F : Fr h₀ L sh m) (W : Bw prog w h₀ L sh ex a S) (H : Ln S n)
    (k : ∀ h' tk u v, Fr h₀ L h' m → Bw prog w h₀ L h' ex a (addN S (Str.ofString "text") Str.empty Str.empty [] te) → v = (n : Int) → Q (.int v u) (Shared.mk h' sg sd tk so)) :
    wpAny (model prog w) A (call (.ref 346) [.ref a.t, .str te t1]) Q E (Shared.mk sh sg sd stk so) := by
  obtain ⟨g, N, Nd, V⟩ := W
  refine' call_fn (binds := [bd "self" (.ref a.t), bd "text" (.str te t1)]) C F N ?h1 ?h2 ?h3 ?h4 ?h5 ?h6 ?h7 ?h8 ?_
  k_extra "o m side"
  k_extra "o m go"
  refine c_add6 (ex := _ :: ex) (vs := []) (ps := []) (CC.mono (by decide)) F' ⟨_, N', Nd, V, trivial⟩ H (.tup (.head _)) (by decide) ?_
  intro h' tk u v F' W' e
  subst e
  k_extra "o m open"
  k_extra "o m go"
  exact k _ _ _ _ kF ⟨_, News.tl kN, nd_tl Nd, V⟩ rfl
end

section
variable {prog : Program} {w : World} {A : Around} {h₀ : Heap} {L : Addr} {m : Str → Option Value} {sh : Heap} {sg : Array GenState} {sd : Drawn} {stk : Nat} {so : OsState} {ex : List (Addr × Obj)} {a : BA} {S : St} {Q : Value → Shared → Prop} {E : Value → Shared → Prop}
theorem c_make {name : Str} {t1 : Tok} {b : Addr} {n : Nat} {vs : List Value} {ps : List (Str × Str)} (C : Cx w h₀ A L 3) (F : Fr h₀ L sh m) (W : BwA prog w h₀ L sh ex a S vs ps) (H : Ln S n) (hn : n + 2 ≤ 100000) (hb : SeqAt w.params ex b vs) (hv : vs.length ≤ 100000)
    (hc : S.contents.length ≤ 100000) (hk : List.lookup (n : Int) S.contents = none)
    (k : ∀ h' tk u v, Fr h₀ L h' m → Bw prog w h₀ L h' ex a (elemS S name sHtml ps) → v = (n : Int) → Q (.int v u) (Shared.mk h' sg sd tk so)) :
    wpAny (model prog w) A (call (.ref 58) [.ref a.b, .str name t1, .ref b]) Q E (Shared.mk sh sg sd stk so) := by
  obtain ⟨g, N, Nd, V, hp⟩ := W
  refine' call_fn (binds := [bd "builder" (.ref a.b), bd "name" (.str name t1), bd "attrs" (.ref b), bd "space" (.str (Str.ofString "html") 237)]) C F N ?h1 ?h2 ?h3 ?h4 ?h5 ?h6 ?h7 ?h8 ?_
  k_extra "o m side"
  k_extra "o m go"
  refine c_elem (ex := ex) (ps := ps) (CC.mono (by decide)) F' ⟨_, N', Nd, V, hp⟩ H hn hb hv hc hk ?_
  intro h' tk u v F' W' e
  subst e
  k_extra "o m open"
  k_extra "o m go"
  exact k _ _ _ _ kF ⟨_, kN, Nd, V⟩ rfl

theorem lk_back {x : Str} {v : Value} {l o : List (Str × Value)} (h : List.lookup x l = none) : (fun y => List.lookup y ((x, v) :: (l ++ o))) = fun y => List.lookup y (l ++ (x, v) :: o) := by
  funext y
  rw [lookup_app, List.lookup_cons, List.lookup_cons, lookup_app]
  by_cases e : y = x
  · subst e; simp [h]
  · have : (y == x) = false := by simpa using e
    rw [this]

noncomputable def isBlock (S : St) (x : Int) : Bool := blockNames.any fun b => b == S.names.getD x.toNat Str.empty
noncomputable def LowOk (S : St) (x : Int) : Prop := (S.spaces.getD x.toNat Str.empty = Str.ofString "html" ∧ S.names.getD x.toNat Str.empty ∈ lowNames) ∨ (S.spaces.getD x.toNat Str.empty = Str.ofString "svg" ∧ S.names.getD x.toNat Str.empty = Str.ofString "g")
theorem c_furthest {x : Int} {t : Tok} {n : Nat} (C : Cx w h₀ A L 2) (F : Fr h₀ L sh m) (W : Bw prog w h₀ L sh ex a S) (H : Ln S n) (hx : x ∈ S.stack) (hz : S.stack.length ≤ 100000)
    (hr : ∀ y ∈ S.stack, 0 ≤ y ∧ y < n) (hlow : ∀ y ∈ S.stack.drop (S.stack.idxOf x + 1), LowOk S y)
    (k : ∀ h' tk u v, Fr h₀ L h' m → Bw prog w h₀ L h' ex a S → v = ((S.stack.drop (S.stack.idxOf x + 1)).find? (isBlock S)).getD (-1) → Q (.int v u) (Shared.mk h' sg sd tk so)) :
    wpAny (model prog w) A (call (.ref 65) [.ref a.b, .int x t]) Q E (Shared.mk sh sg sd stk so) := by
  obtain ⟨g, N, Nd, V⟩ := W
  refine' call_fn (binds := [bd "builder" (.ref a.b), bd "node" (.int x t)]) C F N ?h1 ?h2 ?h3 ?h4 ?h5 ?h6 ?h7 ?h8 ?_
  k_extra "o m side"
  k_extra "o m go"
  refine c_kplace (ex := ex) (S := S) (CC.mono (by decide)) F' ⟨_, N', Nd, V⟩ (by k_extra "o m oz") ?_
  intro h' tk u v F' W' e
  rw [if_pos hx] at e
  subst e
  have hj : S.stack.idxOf x < S.stack.length := List.idxOf_lt_length_iff.mpr hx
  k_extra "o m open"
  k_extra "o m go"
  refine whl_inv (fun j s' => ∀ G : Prop, (∀ h tk i u o, (s' = (Shared.mk h sg sd tk so)) → (Fr hG L' h (fun y => List.lookup y ([bd "at" (.int i u), bd "stack" (.ref a.k), bd "tree" (.ref a.t), bd "node" (.int x t), bd "builder" (.ref a.b)] ++ o))) → Bw prog w hG L' h ex a S → (i + j = S.stack.length) → ((S.stack.idxOf x : Int) + 1 ≤ i) → (((S.stack.drop (S.stack.idxOf x + 1)).find? (isBlock S)).getD (-1) = ((S.stack.drop i.toNat).find? (isBlock S)).getD (-1)) → G) → G) (S.stack.length - (S.stack.idxOf x + 1)) ?_ ?_
  · refine fun G kk => kk _ _ ((S.stack.idxOf x : Int) + 1) _ [] rfl F' ⟨_, N', Nd, V⟩ (by k_extra "o m oz") (by k_extra "o m oz") ?_
    rw [show ((S.stack.idxOf x : Int) + 1).toNat = S.stack.idxOf x + 1 by k_extra "o m oz"]
  · intro P hW j s' hI ih
    refine hI _ ?_
    clear hI
    rintro h tk i u o rfl F' W' hi hi2 he
    dsimp only [List.cons_append, List.nil_append] at F'
    k_extra "o m open"
    k_extra "o m go"
    refine c_many (ex := ex) (S := S) (CC.mono (by decide)) F' ⟨_, N', Nd, V⟩ (by k_extra "o m oz") ?_
    intro h' tk u F' W'
    k_extra "o m open"
    k_extra "o m go"
    have hs1 := H.sp
    have hs2 := H.na
    have hs3 := H.hn
    by_cases hlt : i < S.stack.length
    · refine WhlIf.yes (by simpa using hlt) ?_
      have hi0 : 0 ≤ i := by k_extra "o m oz"
      have hli := ar_tnl hi0 hlt
      obtain ⟨y, hy⟩ : ∃ y, S.stack.getD i.toNat 0 = y := ⟨_, rfl⟩
      have hd2 : S.stack.drop i.toNat = y :: S.stack.drop (i.toNat + 1) := by rw [List.drop_eq_getElem_cons (by k_extra "o m oz"), ← hy, List.getD_eq_getElem?_getD, List.getElem?_eq_getElem (by k_extra "o m oz")]; rfl
      have hm : y ∈ S.stack.drop i.toNat := by rw [hd2]; exact .head _
      have hlo := hlow y (by
        have : S.stack.drop i.toNat = (S.stack.drop (S.stack.idxOf x + 1)).drop (i.toNat - (S.stack.idxOf x + 1)) := by rw [List.drop_drop]; congr 1; k_extra "o m oz"
        rw [this] at hm
        exact List.mem_of_mem_drop hm)
      have hb := hr _ (List.mem_of_mem_drop hm)
      k_extra "o m go"
      simp only [hy] at F' ⊢
      k_extra "o m go"
      refine c_special (CC.mono (by decide)) F' N' hlo ?_
      intro h' tk F' N'
      k_extra "o m go"
      · k_extra "o m go"
        refine k _ _ _ _ kF ⟨_, kN, Nd, V⟩ ?_
        have hb : isBlock S y = true := ‹_›
        rw [he, hd2, List.find?_cons, hb]; rfl
      · have hb : isBlock S y = false := ‹_›
        refine ih (j - 1) _ (by k_extra "o m oz") fun G kk => kk _ _ (i + 1) _ _ rfl ((lk_back (x := Str.ofString "below") (l := [bd "at" (.int (i + 1) _), bd "stack" (.ref a.k), bd "tree" (.ref a.t), bd "node" (.int x t), bd "builder" (.ref a.b)]) rfl) ▸ F') ⟨_, N', Nd, V⟩ (by k_extra "o m oz") (by k_extra "o m oz") ?_
        rw [he, hd2, List.find?_cons, hb, show (i + 1).toNat = i.toNat + 1 by k_extra "o m oz"]
    · refine WhlIf.no (by simpa using hlt) ?_
      k_extra "o m go"
      refine k _ _ _ _ kF ⟨_, kN, Nd, V⟩ ?_
      rw [he, List.drop_eq_nil_of_le (by k_extra "o m oz")]; rfl
end

section
variable {prog : Program} {w : World} {A : Around} {h₀ : Heap} {L : Addr} {m : Str → Option Value} {sh : Heap} {sg : Array GenState} {sd : Drawn} {stk : Nat} {so : OsState} {ex : List (Addr × Obj)} {a : BA} {S : St} {Q : Value → Shared → Prop} {E : Value → Shared → Prop}
noncomputable abbrev sTable : Str := Str.ofString "table"
noncomputable def Whole (P : Prop) : Prop := P
theorem mono_cut {α : Type} {M : Model} {A : Around} {E : Value → Shared → Prop} {T : Sem α} {Q : α → Shared → Prop} {s : Shared} (R : α → Shared → Prop) (h1 : ∀ P : α → Shared → Prop, (∀ f s', R f s' → P f s') → wpAny M A T P (fun _ _ => False) s) (h2 : ∀ f s', R f s' → Q f s') : wpAny M A T Q E s :=
  wpAny_mono (h1 R fun _ _ x => x) h2 fun _ _ x => x.elim
noncomputable def htmlIs (S : St) (x : Int) (y : Str) : Bool := (S.spaces.getD x.toNat Str.empty == Str.ofString "html") && (S.names.getD x.toNat Str.empty == y)
noncomputable def holder (S : St) (x : Int) : Bool := htmlIs S x sTable || htmlIs S x sTempl
noncomputable def fosterIdx (S : St) : Nat → Nat
  | 0 => 0
  | i + 1 => if holder S (S.stack.getD (i + 1) 0) then i + 1 else fosterIdx S i
noncomputable def fosterOf (S : St) : Int × Int :=
  let node := S.stack.getD (fosterIdx S (S.stack.length - 1)) 0
  if htmlIs S node sTable then (par S node, node) else (node, -1)
end
namespace E_c_foster
noncomputable def St_ (prog : Program) (w : World) (A : Around) (h₀ : Heap) (L : Addr) (m : Str → Option Value) (sh : Heap) (sg : Array GenState) (sd : Drawn) (stk : Nat) (so : OsState) (ex : List (Addr × Obj)) (a : BA) (S : St) (Q : Value → Shared → Prop) (E : Value → Shared → Prop) (n : Nat) : Prop :=
  ∀ (C : Cx w h₀ A L 2) (F : Fr h₀ L sh m) (W : Bw prog w h₀ L sh ex a S) (H : Ln S n) (hz : S.stack.length ≤ 100000) (hz0 : 0 < S.stack.length) (hr : ∀ y ∈ S.stack, 0 ≤ y ∧ y < n) (hp : ∀ y ∈ S.stack, htmlIs S y sTable = true → par S y ≠ -1) (k : ∀ h' tk D u v c, Fr h₀ L h' m → Bw prog w h₀ L h' ((D, ({ cls := .type "tuple", data := .seq #[.int (fosterOf S).1 u, .int (fosterOf S).2 v] c } : Obj)) :: ex) a S → Q (.ref D) (Shared.mk h' sg sd tk so)), wpAny (model prog w) A (call (.ref 42) [.ref a.b]) Q E (Shared.mk sh sg sd stk so)
noncomputable def v : CV × Nat := @Classical.epsilon _ ⟨(cv0, default)⟩ fun v => ¬ St_ v.1.prog v.1.w v.1.A v.1.h₀ v.1.L v.1.m v.1.sh v.1.sg v.1.sd v.1.stk v.1.so v.1.ex v.1.a v.1.S v.1.Q v.1.E v.2
@[irreducible] noncomputable def prog : Program := v.1.prog
@[irreducible] noncomputable def w : World := v.1.w
@[irreducible] noncomputable def A : Around := v.1.A
@[irreducible] noncomputable def h₀ : Heap := v.1.h₀
@[irreducible] noncomputable def L : Addr := v.1.L
@[irreducible] noncomputable def m : Str → Option Value := v.1.m
@[irreducible] noncomputable def sh : Heap := v.1.sh
@[irreducible] noncomputable def sg : Array GenState := v.1.sg
@[irreducible] noncomputable def sd : Drawn := v.1.sd
@[irreducible] noncomputable def stk : Nat := v.1.stk
@[irreducible] noncomputable def so : OsState := v.1.so
@[irreducible] noncomputable def ex : List (Addr × Obj) := v.1.ex
@[irreducible] noncomputable def a : BA := v.1.a
@[irreducible] noncomputable def S : St := v.1.S
@[irreducible] noncomputable def Q : Value → Shared → Prop := v.1.Q
@[irreducible] noncomputable def E : Value → Shared → Prop := v.1.E
@[irreducible] noncomputable def n : Nat := v.2
theorem core : St_ prog w A h₀ L m sh sg sd stk so ex a S Q E n := by
  intro C F W H hz hz0 hr hp k
  obtain ⟨g, N, Nd, V⟩ := W
  refine' call_fn (binds := [bd "builder" (.ref a.b)]) C F N ?h1 ?h2 ?h3 ?h4 ?h5 ?h6 ?h7 ?h8 ?_
  k_extra "o m side"
  k_extra "o m go"
  refine whl_inv (fun j s' => ∀ G : Prop, (∀ h tk i u, (s' = (Shared.mk h sg sd tk so)) → (Fr hG L' h (fun y => List.lookup y [bd "at" (.int i u), bd "items" (.ref a.si), bd "tree" (.ref a.t), bd "builder" (.ref a.b)])) → Bw prog w hG L' h ex a S → (i = j) → (j < S.stack.length) → (fosterIdx S (S.stack.length - 1) = fosterIdx S j) → G) → G) (S.stack.length - 1) ?_ ?_
  · exact fun G kk => kk _ _ _ _ rfl F' ⟨_, N', Nd, V⟩ (by k_extra "o m oz") (by k_extra "o m oz") rfl
  · intro P hW j s' hI ih
    refine hI _ ?_
    clear hI
    rintro h tk i u rfl F' W' hij hj he
    k_extra "o m open"
    have hs1 := H.sp
    have hs2 := H.na
    have hs3 := H.hn
    have hi0 : 0 ≤ i := by k_extra "o m oz"
    have hi1 : i < S.stack.length := by k_extra "o m oz"
    obtain ⟨y, hy⟩ : ∃ y, S.stack.getD i.toNat 0 = y := ⟨_, rfl⟩
    have hym : y ∈ S.stack := by rw [← hy, List.getD_eq_getElem?_getD, List.getElem?_eq_getElem (by k_extra "o m oz")]; exact List.getElem_mem _
    have hb := hr y hym
    have hjt : i.toNat = j := by k_extra "o m oz"
    have hne : decide (y = -1) = false := by simp; k_extra "o m oz"
    refine wpAny_mono (Q := fun b s₂ => Whole (∃ h' tk', s₂ = (Shared.mk h' sg sd tk' so) ∧ Fr hG L' h' (fun y => List.lookup y [bd "at" (.int i u), bd "items" (.ref a.si), bd "tree" (.ref a.t), bd "builder" (.ref a.b)]) ∧
      Bw prog w hG L' h' ex a S ∧ b = (decide (0 < i) && !holder S y))) (E := fun _ _ => False) ?_ ?_ fun _ _ e => e
    · unfold holder
      k_extra "o m go"
      · simp only [hy]
        k_extra "o m go"
        refine c_ishtml (ex := ex) (S := S) (CC.mono (by decide)) F' ⟨_, N', Nd, V⟩ (by k_extra "o m oz") (by k_extra "o m oz") (by k_extra "o m oz") (by k_extra "o m oz") ?_
        intro h' tk v F' W' e1
        have e1 : v = htmlIs S y sTable := by rw [e1, hne]; rfl
        rw [← e1]
        k_extra "o m open"
        cases v
        · k_extra "o m go"
          simp only [hy]
          k_extra "o m go"
          refine c_ishtml (ex := ex) (S := S) (CC.mono (by decide)) F' ⟨_, N', Nd, V⟩ (by k_extra "o m oz") (by k_extra "o m oz") (by k_extra "o m oz") (by k_extra "o m oz") ?_
          intro h' tk v F' W' e2
          have e2 : v = htmlIs S y sTempl := by rw [e2, hne]; rfl
          rw [← e2]
          k_extra "o m open"
          have q0 : decide (0 < i) = true := decide_eq_true ‹_›
          clear e1 e2
          cases v
          all_goals
            k_extra "o m go"
            exact ⟨_, _, rfl, F', ⟨_, N', Nd, V⟩, by rw [q0]; rfl⟩
        · have q0 : decide (0 < i) = true := decide_eq_true ‹_›
          k_extra "o m go"
          exact ⟨_, _, rfl, F', ⟨_, N', Nd, V⟩, by rw [q0]; rfl⟩
      · have q0 : decide (0 < i) = false := decide_eq_false ‹_›
        exact ⟨_, _, rfl, F', ⟨_, N', Nd, V⟩, by rw [q0]; rfl⟩
    · rintro b s₂ ⟨h', tk', rfl, F', W', hbe⟩
      k_extra "o m open"
      cases b
      · have hfi : fosterIdx S j = j := by
          rcases Nat.eq_zero_or_pos j with rfl | h0
          · rfl
          · obtain ⟨j', rfl⟩ : ∃ j', j = j' + 1 := ⟨j - 1, by k_extra "o m oz"⟩
            have : holder S y = true := by
              have q0 : 0 < i := by k_extra "o m oz"
              simpa [q0] using hbe
            rw [fosterIdx, ← hjt, hy, this]; rfl
        refine WhlIf.no rfl ?_
        have hfo : fosterOf S = if htmlIs S y sTable then (par S y, y) else (y, -1) := by
          unfold fosterOf
          rw [he, hfi, ← hjt, hy]
        have hpy := hp y hym
        have hs4 := H.pa
        k_extra "o m go"
        simp only [hy] at F' ⊢
        k_extra "o m go"
        refine c_ishtml (ex := ex) (S := S) (CC.mono (by decide)) F' ⟨_, N', Nd, V⟩ (by k_extra "o m oz") (by k_extra "o m oz") (by k_extra "o m oz") (by k_extra "o m oz") ?_
        intro h' tk v F' W' e2
        have e2 : v = htmlIs S y sTable := by rw [e2, hne]; rfl
        rw [← e2] at hfo hpy
        k_extra "o m open"
        cases v
        · rw [if_neg (by decide)] at hfo
          rw [hfo] at k
          k_extra "o m go"
          exact k _ _ _ _ _ _ kF ⟨_, kN, Nd, V⟩
        · rw [if_pos rfl] at hfo
          rw [hfo] at k
          have hpy := hpy rfl
          unfold par at hpy k
          k_extra "o m go"
          exact k _ _ _ _ _ _ kF ⟨_, kN, Nd, V⟩
      · obtain ⟨h0, hh⟩ : 0 < i ∧ holder S y = false := by simpa using hbe
        refine WhlIf.yes rfl ?_
        k_extra "o m go"
        refine ih (j - 1) _ (by k_extra "o m oz") fun G kk => kk _ _ (i - 1) _ rfl F' ⟨_, N', Nd, V⟩ (by k_extra "o m oz") (by k_extra "o m oz") ?_
        rw [he]
        obtain ⟨j', rfl⟩ : ∃ j', j = j' + 1 := ⟨j - 1, by k_extra "o m oz"⟩
        rw [fosterIdx, ← hjt, hy, hh, if_neg (by decide), hjt]
        rfl
theorem all (v : CV × Nat) : St_ v.1.prog v.1.w v.1.A v.1.h₀ v.1.L v.1.m v.1.sh v.1.sg v.1.sd v.1.stk v.1.so v.1.ex v.1.a v.1.S v.1.Q v.1.E v.2 := eps_all ⟨v⟩ (P := fun v => St_ v.1.prog v.1.w v.1.A v.1.h₀ v.1.L v.1.m v.1.sh v.1.sg v.1.sd v.1.stk v.1.so v.1.ex v.1.a v.1.S v.1.Q v.1.E v.2) (by with_unfolding_all exact core) v
end E_c_foster
section
variable {prog : Program} {w : World} {A : Around} {h₀ : Heap} {L : Addr} {m : Str → Option Value} {sh : Heap} {sg : Array GenState} {sd : Drawn} {stk : Nat} {so : OsState} {ex : List (Addr × Obj)} {a : BA} {S : St} {Q : Value → Shared → Prop} {E : Value → Shared → Prop}
theorem c_foster {n : Nat} (C : Cx w h₀ A L 2) (F : Fr h₀ L sh m) (W : Bw prog w h₀ L sh ex a S) (H : Ln S n) (hz : S.stack.length ≤ 100000) (hz0 : 0 < S.stack.length)
    (hr : ∀ y ∈ S.stack, 0 ≤ y ∧ y < n) (hp : ∀ y ∈ S.stack, htmlIs S y sTable = true → par S y ≠ -1)
    (k : ∀ h' tk D u v c, Fr h₀ L h' m → Bw prog w h₀ L h' ((D, ({ cls := .type "tuple", data := .seq #[.int (fosterOf S).1 u, .int (fosterOf S).2 v] c } : Obj)) :: ex) a S → Q (.ref D) (Shared.mk h' sg sd tk so)) :
    wpAny (model prog w) A (call (.ref 42) [.ref a.b]) Q E (Shared.mk sh sg sd stk so) :=
  E_c_foster.all (⟨prog, w, A, h₀, L, m, sh, sg, sd, stk, so, ex, cv0.news, a, S, Q, E⟩, n) C F W H hz hz0 hr hp k
end

structure Coh (S : St) (n : Nat) : Prop where
  pa : S.parents.length = n
  ch : S.children.length = n
  up : ∀ p c : Int, 0 ≤ p → p < n → c ∈ kidsOf S p → 0 ≤ c ∧ c < n ∧ par S c = p
  dn : ∀ c : Int, 0 ≤ c → c < n → par S c ≠ -1 → 0 ≤ par S c ∧ par S c < n ∧ c ∈ kidsOf S (par S c)
  nd : ∀ p : Int, 0 ≤ p → p < n → (kidsOf S p).Nodup

theorem getD_set {α : Type} (l : List α) (i j : Nat) (x d : α) (hi : i < l.length) : (l.set i x).getD j d = if j = i then x else l.getD j d := by
  rw [List.getD_eq_getElem?_getD, List.getD_eq_getElem?_getD, List.getElem?_set]
  by_cases h : i = j
  · subst h; simp [hi]
  · simp [h, Ne.symm h]
theorem toNat_ne {x y : Int} (hx : 0 ≤ x) (hy : 0 ≤ y) : (x.toNat = y.toNat) ↔ x = y := ⟨fun h => by rw [← Int.toNat_of_nonneg hx, ← Int.toNat_of_nonneg hy, h], fun h => by rw [h]⟩

section
variable {S : St} {n : Nat} {x y p q b : Int}
theorem par_lt (C : Coh S n) (h0 : 0 ≤ x) (h1 : x < n) : x.toNat < S.parents.length := by rw [C.pa]; (first | lia | omega)
theorem kid_lt (C : Coh S n) (h0 : 0 ≤ x) (h1 : x < n) : x.toNat < S.children.length := by rw [C.ch]; (first | lia | omega)
theorem par_unlink (C : Coh S n) (h0 : 0 ≤ x) (h1 : x < n) (hy : 0 ≤ y) : par (unlink S x) y = if y = x then -1 else par S y := by
  unfold unlink
  split
  · rename_i e
    split
    · rename_i e2; rw [e2]; exact e
    · rfl
  · show (S.parents.set x.toNat (-1)).getD y.toNat 0 = _
    rw [getD_set _ _ _ _ _ (par_lt C h0 h1)]
    simp only [toNat_ne hy h0]
    rfl
theorem kids_unlink (C : Coh S n) (h0 : 0 ≤ x) (h1 : x < n) (hp0 : 0 ≤ p) (hp1 : p < n) : kidsOf (unlink S x) p = (kidsOf S p).erase x := by
  by_cases e : par S x = -1
  · have : x ∉ kidsOf S p := fun hm => by have := (C.up p x hp0 hp1 hm).2.2; (first | lia | omega)
    rw [List.erase_of_not_mem this]; unfold unlink; rw [if_pos e]
  · have hd := C.dn x h0 h1 e
    unfold unlink; rw [if_neg e]
    show (S.children.set (par S x).toNat ((kidsOf S (par S x)).erase x)).getD p.toNat [] = _
    rw [getD_set _ _ _ _ _ (kid_lt C hd.1 hd.2.1)]
    by_cases ep : p = par S x
    · rw [if_pos (by rw [ep]), ep]
    · rw [if_neg (fun h => ep ((toNat_ne hp0 hd.1).mp h))]
      have : x ∉ kidsOf S p := fun hm => ep (C.up p x hp0 hp1 hm).2.2.symm
      rw [List.erase_of_not_mem this]; rfl
theorem Coh.unlink (C : Coh S n) (h0 : 0 ≤ x) (h1 : x < n) : Coh (unlink S x) n where
  pa := by rw [unlink_pa]; exact C.pa
  ch := by rw [unlink_ch]; exact C.ch
  up := fun p c hp0 hp1 hm => by
    rw [kids_unlink C h0 h1 hp0 hp1] at hm
    have hm' := List.mem_of_mem_erase hm
    have hu := C.up p c hp0 hp1 hm'
    refine ⟨hu.1, hu.2.1, ?_⟩
    rw [par_unlink C h0 h1 hu.1]
    rw [if_neg (fun e => by subst e; exact (C.nd p hp0 hp1).not_mem_erase hm)]
    exact hu.2.2
  dn := fun c hc0 hc1 => by
    rw [par_unlink C h0 h1 hc0]
    split
    · intro h; exact absurd rfl h
    · rename_i hne
      intro h
      have hd := C.dn c hc0 hc1 h
      refine ⟨hd.1, hd.2.1, ?_⟩
      rw [kids_unlink C h0 h1 hd.1 hd.2.1]
      exact (List.mem_erase_of_ne hne).mpr hd.2.2
  nd := fun p hp0 hp1 => by rw [kids_unlink C h0 h1 hp0 hp1]; exact (C.nd p hp0 hp1).erase x
theorem par_link (h0 : 0 ≤ x) (h1 : x.toNat < S.parents.length) (hy : 0 ≤ y) (i : Nat) : par (linkAt S p x i) y = if y = x then p else par S y := by
  show (S.parents.set x.toNat p).getD y.toNat 0 = _
  rw [getD_set _ _ _ _ _ h1]
  simp only [toNat_ne hy h0]; rfl
theorem kids_link (h0 : 0 ≤ p) (h1 : p.toNat < S.children.length) (hy : 0 ≤ q) (i : Nat) : kidsOf (linkAt S p x i) q = if q = p then putIn (kidsOf S p) i x else kidsOf S q := by
  show (S.children.set p.toNat (putIn (kidsOf S p) i x)).getD q.toNat [] = _
  rw [getD_set _ _ _ _ _ h1]
  simp only [toNat_ne hy h0]; rfl
theorem mem_putIn {α : Type} {l : List α} {k : Nat} {y z : α} : z ∈ putIn l k y ↔ z = y ∨ z ∈ l := by
  unfold putIn
  rw [List.mem_append, List.mem_cons]
  have e : z ∈ l ↔ z ∈ l.take k ∨ z ∈ l.drop k := by rw [← List.mem_append, List.take_append_drop]
  rw [e]
  constructor
  · rintro (h | h | h)
    · exact .inr (.inl h)
    · exact .inl h
    · exact .inr (.inr h)
  · rintro (h | h | h)
    · exact .inr (.inl h)
    · exact .inl h
    · exact .inr (.inr h)
theorem putIn_perm {α : Type} (l : List α) (k : Nat) (y : α) : List.Perm (putIn l k y) (y :: l) := by
  unfold putIn
  refine List.perm_middle.trans ?_
  rw [List.take_append_drop]
theorem nodup_putIn' {α : Type} {l : List α} {k : Nat} {y : α} (h : l.Nodup) (hy : y ∉ l) : (putIn l k y).Nodup :=
  (putIn_perm l k y).nodup_iff.mpr (List.nodup_cons.mpr ⟨hy, h⟩)
theorem putIn_len {α : Type} (l : List α) (y : α) : putIn l l.length y = l ++ [y] := by unfold putIn; simp
theorem Coh.link (C : Coh S n) (h0 : 0 ≤ x) (h1 : x < n) (hp0 : 0 ≤ p) (hp1 : p < n) (hx : par S x = -1) (i : Nat) : Coh (linkAt S p x i) n := by
  have no : ∀ q : Int, 0 ≤ q → q < n → x ∉ kidsOf S q := fun q a b hm => by have := (C.up q x a b hm).2.2; (first | lia | omega)
  refine ⟨?_, ?_, ?_, ?_, ?_⟩
  · simp [linkAt, C.pa]
  · simp [linkAt, C.ch]
  · intro q c hq0 hq1 hm
    rw [kids_link hp0 (kid_lt C hp0 hp1) hq0] at hm
    by_cases e : q = p
    · rw [if_pos e, mem_putIn] at hm
      rcases hm with rfl | hm
      · exact ⟨h0, h1, by rw [par_link h0 (par_lt C h0 h1) h0, if_pos rfl, e]⟩
      · have hu := C.up p c hp0 hp1 hm
        refine ⟨hu.1, hu.2.1, ?_⟩
        rw [par_link h0 (par_lt C h0 h1) hu.1, if_neg (fun e : c = x => no p hp0 hp1 (e ▸ hm)), e]; exact hu.2.2
    · rw [if_neg e] at hm
      have hu := C.up q c hq0 hq1 hm
      refine ⟨hu.1, hu.2.1, ?_⟩
      rw [par_link h0 (par_lt C h0 h1) hu.1, if_neg (fun e : c = x => no q hq0 hq1 (e ▸ hm))]; exact hu.2.2
  · intro c hc0 hc1
    rw [par_link h0 (par_lt C h0 h1) hc0]
    split
    · rename_i e
      intro _
      refine ⟨hp0, hp1, ?_⟩
      rw [kids_link hp0 (kid_lt C hp0 hp1) hp0, if_pos rfl, mem_putIn]; exact .inl e
    · intro h
      have hd := C.dn c hc0 hc1 h
      refine ⟨hd.1, hd.2.1, ?_⟩
      rw [kids_link hp0 (kid_lt C hp0 hp1) hd.1]
      split
      · rename_i e; rw [mem_putIn]; exact .inr (e ▸ hd.2.2)
      · exact hd.2.2
  · intro q hq0 hq1
    rw [kids_link hp0 (kid_lt C hp0 hp1) hq0]
    split
    · exact nodup_putIn' (C.nd p hp0 hp1) (no p hp0 hp1)
    · exact C.nd q hq0 hq1
theorem par_unlink_self (C : Coh S n) (h0 : 0 ≤ x) (h1 : x < n) : par (unlink S x) x = -1 := by rw [par_unlink C h0 h1 h0, if_pos rfl]
theorem Coh.insE (C : Coh S n) (h0 : 0 ≤ x) (h1 : x < n) (hp0 : 0 ≤ p) (hp1 : p < n) : Coh (insertE S p x) n :=
  (C.unlink h0 h1).link h0 h1 hp0 hp1 (par_unlink_self C h0 h1) _
theorem par_insE (C : Coh S n) (h0 : 0 ≤ x) (h1 : x < n) (hy : 0 ≤ y) : par (insertE S p x) y = if y = x then p else par S y := by
  unfold insertE
  rw [par_link h0 (par_lt (C.unlink h0 h1) h0 h1) hy, par_unlink C h0 h1 hy]
  split <;> rfl
theorem kids_insE (C : Coh S n) (h0 : 0 ≤ x) (h1 : x < n) (hp0 : 0 ≤ p) (hp1 : p < n) (hq0 : 0 ≤ q) (hq1 : q < n) : kidsOf (insertE S p x) q = if q = p then (kidsOf S p).erase x ++ [x] else (kidsOf S q).erase x := by
  unfold insertE
  rw [kids_link hp0 (kid_lt (C.unlink h0 h1) hp0 hp1) hq0, putIn_len, kids_unlink C h0 h1 hp0 hp1, kids_unlink C h0 h1 hq0 hq1]
theorem Coh.insB (C : Coh S n) (h0 : 0 ≤ x) (h1 : x < n) (hp0 : 0 ≤ p) (hp1 : p < n) : Coh (insertB S p x b) n :=
  (C.unlink h0 h1).link h0 h1 hp0 hp1 (par_unlink_self C h0 h1) _
theorem par_insB (C : Coh S n) (h0 : 0 ≤ x) (h1 : x < n) (hy : 0 ≤ y) : par (insertB S p x b) y = if y = x then p else par S y := by
  unfold insertB
  rw [par_link h0 (par_lt (C.unlink h0 h1) h0 h1) hy, par_unlink C h0 h1 hy]
  split <;> rfl
theorem kids_insB (C : Coh S n) (h0 : 0 ≤ x) (h1 : x < n) (hp0 : 0 ≤ p) (hp1 : p < n) (hq0 : 0 ≤ q) (hq1 : q < n) : kidsOf (insertB S p x b) q = if q = p then putIn ((kidsOf S p).erase x) (((kidsOf S p).erase x).idxOf b) x else (kidsOf S q).erase x := by
  unfold insertB
  rw [kids_link hp0 (kid_lt (C.unlink h0 h1) hp0 hp1) hq0, kids_unlink C h0 h1 hp0 hp1, kids_unlink C h0 h1 hq0 hq1]
end
section
variable (S : St) (p x b : Int)
theorem unlink_same : (unlink S x).stack = S.stack ∧ (unlink S x).fmt = S.fmt ∧ (unlink S x).kinds = S.kinds ∧ (unlink S x).spaces = S.spaces ∧ (unlink S x).names = S.names ∧ (unlink S x).attrs = S.attrs ∧ (unlink S x).texts = S.texts ∧ (unlink S x).contents = S.contents ∧ (unlink S x).foster = S.foster ∧ (unlink S x).keep = S.keep := by
  unfold unlink; split <;> exact ⟨rfl, rfl, rfl, rfl, rfl, rfl, rfl, rfl, rfl, rfl⟩
structure Same (S T : St) : Prop where
  st : T.stack = S.stack
  fm : T.fmt = S.fmt
  ki : T.kinds = S.kinds
  sp : T.spaces = S.spaces
  na : T.names = S.names
  ar : T.attrs = S.attrs
  te : T.texts = S.texts
  co : T.contents = S.contents
  fo : T.foster = S.foster
  ke : T.keep = S.keep
theorem Same.rfl' : Same S S := ⟨rfl, rfl, rfl, rfl, rfl, rfl, rfl, rfl, rfl, rfl⟩
theorem Same.trans {S T U : St} (h : Same S T) (k : Same T U) : Same S U :=
  ⟨k.st.trans h.st, k.fm.trans h.fm, k.ki.trans h.ki, k.sp.trans h.sp, k.na.trans h.na, k.ar.trans h.ar, k.te.trans h.te, k.co.trans h.co, k.fo.trans h.fo, k.ke.trans h.ke⟩
theorem same_unlink : Same S (unlink S x) := by obtain ⟨a, b, c, d, e, f, g, h, i, j⟩ := unlink_same S x; exact ⟨a, b, c, d, e, f, g, h, i, j⟩
theorem same_link (i : Nat) : Same S (linkAt S p x i) := ⟨rfl, rfl, rfl, rfl, rfl, rfl, rfl, rfl, rfl, rfl⟩
theorem same_insE : Same S (insertE S p x) := (same_unlink S x).trans (same_link _ _ _ _)
theorem same_insB : Same S (insertB S p x b) := (same_unlink S x).trans (same_link _ _ _ _)
theorem same_move (cs : List Int) : Same S (moveKids S p cs) := by
  unfold moveKids
  induction cs generalizing S with
  | nil => exact Same.rfl' S
  | cons c cs ih => exact (same_insE S p c).trans (ih _)
end
theorem len_link {S : St} {p x : Int} {i : Nat} : (linkAt S p x i).parents.length = S.parents.length ∧ (linkAt S p x i).children.length = S.children.length := by simp [linkAt]
theorem Ln.insE {S : St} {n : Nat} (H : Ln S n) (p x : Int) : Ln (insertE S p x) n := by
  have s := same_insE S p x
  refine ⟨by rw [s.ki]; exact H.ki, by rw [s.sp]; exact H.sp, by rw [s.na]; exact H.na, by rw [s.ar]; exact H.ar, by rw [s.te]; exact H.te, ?_, ?_, H.hn⟩
  · unfold insertE; rw [len_link.1, unlink_pa]; exact H.pa
  · unfold insertE; rw [len_link.2, unlink_ch]; exact H.ch
theorem Ln.insB {S : St} {n : Nat} (H : Ln S n) (p x b : Int) : Ln (insertB S p x b) n := by
  have s := same_insB S p x b
  refine ⟨by rw [s.ki]; exact H.ki, by rw [s.sp]; exact H.sp, by rw [s.na]; exact H.na, by rw [s.ar]; exact H.ar, by rw [s.te]; exact H.te, ?_, ?_, H.hn⟩
  · unfold insertB; rw [len_link.1, unlink_pa]; exact H.pa
  · unfold insertB; rw [len_link.2, unlink_ch]; exact H.ch
section
variable {S : St} {n : Nat} {kind sp na te : Str} {ps : List (Str × Str)}
theorem getD_snoc {α : Type} (l : List α) (x d : α) (j : Nat) : (l ++ [x]).getD j d = if j = l.length then x else l.getD j d := by
  rw [List.getD_eq_getElem?_getD, List.getD_eq_getElem?_getD]
  rcases Nat.lt_trichotomy j l.length with h | h | h
  · rw [List.getElem?_append_left h, if_neg (by (first | lia | omega))]
  · subst h; simp
  · rw [if_neg (by (first | lia | omega)), List.getElem?_eq_none (by simp; (first | lia | omega)), List.getElem?_eq_none (by (first | lia | omega))]
theorem par_addN (C : Coh S n) {y : Int} (hy : 0 ≤ y) : par (addN S kind sp na ps te) y = if y = n then -1 else par S y := by
  show (S.parents ++ [-1]).getD y.toNat 0 = _
  rw [getD_snoc, C.pa]
  by_cases e : y = n
  · rw [if_pos (by (first | lia | omega)), if_pos e]
  · rw [if_neg (by (first | lia | omega)), if_neg e]; rfl
theorem kids_addN (C : Coh S n) {y : Int} (hy : 0 ≤ y) : kidsOf (addN S kind sp na ps te) y = if y = n then [] else kidsOf S y := by
  show (S.children ++ [[]]).getD y.toNat [] = _
  rw [getD_snoc, C.ch]
  by_cases e : y = n
  · rw [if_pos (by (first | lia | omega)), if_pos e]
  · rw [if_neg (by (first | lia | omega)), if_neg e]; rfl
theorem Coh.addN (C : Coh S n) : Coh (addN S kind sp na ps te) (n + 1) := by
  refine ⟨by simp [Mine.Internal.addN, C.pa], by simp [Mine.Internal.addN, C.ch], ?_, ?_, ?_⟩
  · intro p c hp0 hp1 hm
    rw [kids_addN C hp0] at hm
    split at hm
    · cases hm
    · have hu := C.up p c hp0 (by (first | lia | omega)) hm
      refine ⟨hu.1, by (first | lia | omega), ?_⟩
      rw [par_addN C hu.1, if_neg (by (first | lia | omega))]; exact hu.2.2
  · intro c hc0 hc1
    rw [par_addN C hc0]
    split
    · intro h; exact absurd rfl h
    · intro h
      have hd := C.dn c hc0 (by (first | lia | omega)) h
      refine ⟨hd.1, by (first | lia | omega), ?_⟩
      rw [kids_addN C hd.1, if_neg (by (first | lia | omega))]; exact hd.2.2
  · intro p hp0 hp1
    rw [kids_addN C hp0]
    split
    · exact List.nodup_nil
    · exact C.nd p hp0 (by (first | lia | omega))
end

noncomputable def abvN : List Str := [Str.ofString "div", Str.ofString "table", Str.ofString "tr", Str.ofString "template", Str.ofString "p", Str.ofString "tbody"]
noncomputable def lowN : List Str := [Str.ofString "b", Str.ofString "i", Str.ofString "a", Str.ofString "u", Str.ofString "div", Str.ofString "p", Str.ofString "span", Str.ofString "g"]
noncomputable abbrev sText : Str := Str.ofString "text"
noncomputable abbrev chrS (c : Int) : Str := ⟨#[c.toNat]⟩
noncomputable def growName (d r0 : Int) (ab : Bool) : Str := if ab = true then abvN.getD ((d + r0).fmod 6).toNat Str.empty else lowN.getD ((d + r0).fmod 8).toNat Str.empty
noncomputable def growSpace (nm : Str) : Str := if (nm == Str.ofString "g") = true then Str.ofString "svg" else sHtml
noncomputable def growPairs (d kk : Int) : List (Str × Str) := if (d + kk).fmod 2 = 0 then [(Str.ofString "n", chrS (97 + kk))] else [(Str.ofString "n", chrS (97 + kk)), (Str.ofString "x", Str.empty)]
noncomputable def cur (S : St) : Int := if S.stack.length = 0 then -1 else S.stack.getD (S.stack.length - 1) 0
noncomputable def g1 (S : St) (d r0 kk : Int) (ab : Bool) : St := elemS S (growName d r0 ab) (growSpace (growName d r0 ab)) (growPairs d kk)
noncomputable def gUp (S : St) (d r0 kk : Int) (ab : Bool) : Int := (List.lookup (cur S) (g1 S d r0 kk ab).contents).getD (cur S)
noncomputable def g2 (S : St) (d r0 kk : Int) (ab : Bool) : St := addN (g1 S d r0 kk ab) sText Str.empty Str.empty [] (chrS (97 + kk))
noncomputable def g3 (S : St) (d r0 kk : Int) (ab : Bool) : St := insertE (g2 S d r0 kk ab) (gUp S d r0 kk ab) ((g1 S d r0 kk ab).kinds.length : Int)
noncomputable def g4 (S : St) (d r0 kk : Int) (ab : Bool) : St := insertE (g3 S d r0 kk ab) (gUp S d r0 kk ab) (S.kinds.length : Int)
noncomputable def g5 (S : St) (d r0 kk : Int) (ab : Bool) : St := addN (g4 S d r0 kk ab) sText Str.empty Str.empty [] (chrS (65 + kk))
noncomputable def g6 (S : St) (d r0 kk : Int) (ab : Bool) : St := insertE (g5 S d r0 kk ab) (gUp S d r0 kk ab) ((g4 S d r0 kk ab).kinds.length : Int)
noncomputable def g7 (S : St) (d r0 kk : Int) (ab : Bool) : St := if (d.fdiv 5 + kk).fmod 2 = 0 then g6 S d r0 kk ab else g4 S d r0 kk ab
noncomputable def growS (S : St) (d r0 kk : Int) (ab : Bool) : St := { g7 S d r0 kk ab with stack := S.stack ++ [(S.kinds.length : Int)] }
structure GrowOk (S : St) (d r0 kk : Int) (ab : Bool) : Prop where
  i1 : ∃ l, InsOk (g2 S d r0 kk ab) (gUp S d r0 kk ab) ((g1 S d r0 kk ab).kinds.length : Int) l
  i2 : ∃ l, InsOk (g3 S d r0 kk ab) (gUp S d r0 kk ab) (S.kinds.length : Int) l
  i3 : ∃ l, InsOk (g5 S d r0 kk ab) (gUp S d r0 kk ab) ((g4 S d r0 kk ab).kinds.length : Int) l
theorem Ln.elem {S : St} {n : Nat} (H : Ln S n) (hn : n + 2 ≤ 100000) (x y : Str) (ps : List (Str × Str)) : ∃ m, Ln (elemS S x y ps) m ∧ n + 1 ≤ m ∧ m ≤ n + 2 := by
  unfold elemS
  split
  · have H2 := (H.addN (by (first | lia | omega)) sElem y x ps Str.empty).addN (by (first | lia | omega)) (Str.ofString "fragment") Str.empty Str.empty [] Str.empty
    exact ⟨n + 2, ⟨H2.ki, H2.sp, H2.na, H2.ar, H2.te, H2.pa, H2.ch, H2.hn⟩, by (first | lia | omega), by (first | lia | omega)⟩
  · exact ⟨n + 1, H.addN (by (first | lia | omega)) .., by (first | lia | omega), by (first | lia | omega)⟩
theorem elem_fmt (S : St) (x y : Str) (ps : List (Str × Str)) : (elemS S x y ps).fmt = S.fmt := by unfold elemS; split <;> rfl
theorem elem_stack (S : St) (x y : Str) (ps : List (Str × Str)) : (elemS S x y ps).stack = S.stack := by unfold elemS; split <;> rfl

theorem idx_cons_ne {l : List Int} {a b : Int} (h : b ≠ a) : (b :: l).idxOf a = l.idxOf a + 1 := by
  rw [List.idxOf_cons, beq_false_of_ne h]; rfl
theorem idx_getD : ∀ {l : List Int} {i : Nat} {d : Int}, l.Nodup → i < l.length → l.idxOf (l.getD i d) = i
  | [], _, _, _, h => absurd h (Nat.not_lt_zero _)
  | a :: l, 0, d, _, _ => by rw [List.getD_cons_zero, List.idxOf_cons_self]
  | a :: l, i + 1, d, hn, h => by
    rw [List.nodup_cons] at hn
    have hl : i < l.length := by simpa using h
    have hm : l.getD i d ∈ l := by rw [List.getD_eq_getElem?_getD, List.getElem?_eq_getElem hl]; exact List.getElem_mem hl
    have hne : a ≠ l.getD i d := fun e => hn.1 (by rw [e]; exact hm)
    rw [List.getD_cons_succ, idx_cons_ne hne, idx_getD hn.2 hl]
theorem getD_idx : ∀ {l : List Int} {a d : Int}, a ∈ l → l.getD (l.idxOf a) d = a
  | b :: l, a, d, h => by
    by_cases e : b = a
    · subst e; rw [List.idxOf_cons_self, List.getD_cons_zero]
    · rw [idx_cons_ne e, List.getD_cons_succ]
      exact getD_idx ((List.mem_cons.mp h).resolve_left (Ne.symm e))
theorem filter_ne_self {l : List Int} {a : Int} (h : a ∉ l) : l.filter (fun y => !decide (y = a)) = l := by
  rw [List.filter_eq_self]
  intro y hy
  have : y ≠ a := fun e => h (e ▸ hy)
  simp [this]
theorem erase_filter : ∀ {l : List Int} {a : Int}, l.count a ≤ 1 → l.erase a = l.filter fun y => !decide (y = a)
  | [], _, _ => rfl
  | b :: l, a, h => by
    by_cases e : b = a
    · subst e
      rw [List.count_cons_self] at h
      have hn : b ∉ l := fun hm => by have := List.count_pos_iff.mpr hm; (first | lia | omega)
      rw [List.erase_cons_head, List.filter_cons, if_neg (by simp), filter_ne_self hn]
    · rw [List.count_cons_of_ne e] at h
      rw [List.erase_cons_tail (by simpa using e), List.filter_cons, if_pos (by simpa using e), erase_filter h]
theorem map_erase' {f : Int → Int} {a : Int} : ∀ {l : List Int}, (∀ y ∈ l, f y = f a → y = a) → (l.map f).erase (f a) = (l.erase a).map f
  | [], _ => rfl
  | b :: l, h => by
    by_cases e : b = a
    · subst e; rw [List.map_cons, List.erase_cons_head, List.erase_cons_head]
    · have e2 : f b ≠ f a := fun q => e (h b (.head _) q)
      rw [List.map_cons, List.erase_cons_tail (by simpa using e2), List.erase_cons_tail (by simpa using e), List.map_cons, map_erase' fun y hy => h y (.tail _ hy)]
theorem map_id_on {f : Int → Int} {l : List Int} (h : ∀ y ∈ l, f y = y) : l.map f = l := by
  induction l with
  | nil => rfl
  | cons b l ih => rw [List.map_cons, h b (.head _), ih fun y hy => h y (.tail _ hy)]
theorem set_idx : ∀ {l : List Int} {a z : Int}, l.count a ≤ 1 → l.set (l.idxOf a) z = l.map fun y => if y = a then z else y
  | [], _, _, _ => rfl
  | b :: l, a, z, h => by
    by_cases e : b = a
    · subst e
      rw [List.count_cons_self] at h
      have hn : b ∉ l := fun hm => by have := List.count_pos_iff.mpr hm; (first | lia | omega)
      rw [List.idxOf_cons_self, List.set_cons_zero, List.map_cons, if_pos rfl, map_id_on]
      intro y hy
      exact if_neg fun e => by subst e; exact hn hy
    · rw [List.count_cons_of_ne e] at h
      rw [idx_cons_ne e, List.set_cons_succ, List.map_cons, if_neg e, set_idx h]
theorem idx_erase : ∀ {l : List Int} {a b : Int}, a ≠ b → a ∈ l → b ∈ l → ((l.erase a).idxOf b : Int) = if (l.idxOf a : Int) < (l.idxOf b : Int) then (l.idxOf b : Int) - 1 else (l.idxOf b : Int)
  | c :: l, a, b, hab, ha, hb => by
    by_cases e : c = a
    · subst e
      rw [List.erase_cons_head, List.idxOf_cons_self, idx_cons_ne hab, if_pos (by (first | lia | omega))]
      first | lia | omega
    · rw [List.erase_cons_tail (by simpa using e), idx_cons_ne e]
      by_cases e2 : c = b
      · subst e2
        rw [List.idxOf_cons_self, List.idxOf_cons_self, if_neg (by (first | lia | omega))]
      · rw [idx_cons_ne e2, idx_cons_ne e2]
        have ih := idx_erase hab ((List.mem_cons.mp ha).resolve_left (Ne.symm e)) ((List.mem_cons.mp hb).resolve_left (Ne.symm e2))
        split
        · rw [if_pos (by (first | lia | omega))] at ih; (first | lia | omega)
        · rw [if_neg (by (first | lia | omega))] at ih; (first | lia | omega)
theorem idx_map {f : Int → Int} {b : Int} : ∀ {l : List Int}, (∀ y ∈ l, f y = f b → y = b) → (l.map f).idxOf (f b) = l.idxOf b
  | [], _ => rfl
  | c :: l, h => by
    by_cases e : c = b
    · subst e; rw [List.map_cons, List.idxOf_cons_self, List.idxOf_cons_self]
    · have e2 : f c ≠ f b := fun q => e (h c (.head _) q)
      rw [List.map_cons, idx_cons_ne e2, idx_cons_ne e, idx_map fun y hy => h y (.tail _ hy)]
theorem erase_mid {l r : List Int} {a : Int} (h : a ∉ l) : (l ++ a :: r).erase a = l ++ r := by
  rw [List.erase_append_right _ h, List.erase_cons_head]
theorem idx_mid {l r : List Int} {a : Int} (h : a ∉ l) : (l ++ a :: r).idxOf a = l.length := by
  rw [List.idxOf_append, if_neg h, List.idxOf_cons_self]; (first | lia | omega)
theorem set_mid {α : Type} (l r : List α) (a z : α) : (l ++ a :: r).set l.length z = l ++ z :: r := by
  rw [List.set_append_right _ _ (Nat.le_refl _), Nat.sub_self, List.set_cons_zero]
theorem getD_mid {α : Type} (l r : List α) (a d : α) : (l ++ a :: r).getD l.length d = a := by
  rw [List.getD_eq_getElem?_getD, List.getElem?_append_right (Nat.le_refl _), Nat.sub_self]; rfl
theorem getD_left {α : Type} (l r : List α) (d : α) {i : Nat} (h : i < l.length) : (l ++ r).getD i d = l.getD i d := by
  rw [List.getD_eq_getElem?_getD, List.getElem?_append_left h, ← List.getD_eq_getElem?_getD]
theorem getD_right {α : Type} (l r : List α) (d : α) {i : Nat} (h : l.length ≤ i) : (l ++ r).getD i d = r.getD (i - l.length) d := by
  rw [List.getD_eq_getElem?_getD, List.getElem?_append_right h, ← List.getD_eq_getElem?_getD]
theorem getD_repl {α : Type} (n i : Nat) (d : α) : (List.replicate n d).getD i d = d := by
  rw [List.getD_eq_getElem?_getD, List.getElem?_replicate]; split <;> rfl
theorem getD_map {α β : Type} (f : α → β) (l : List α) (d : α) (e : β) {i : Nat} (h : i < l.length) : (l.map f).getD i e = f (l.getD i d) := by
  rw [List.getD_eq_getElem?_getD, List.getElem?_map, List.getD_eq_getElem?_getD, List.getElem?_eq_getElem h]; rfl
theorem ext_getD {α : Type} {l r : List α} (d : α) (hl : l.length = r.length) (h : ∀ i, i < l.length → l.getD i d = r.getD i d) : l = r := by
  refine List.ext_getElem hl fun i h1 h2 => ?_
  have := h i h1
  rw [List.getD_eq_getElem?_getD, List.getD_eq_getElem?_getD, List.getElem?_eq_getElem h1, List.getElem?_eq_getElem h2] at this
  exact this
theorem filter_snoc_ne {l F : List Int} {a : Int} : (l.filter fun y => !decide (y ∈ F)).filter (fun y => !decide (y = a)) = l.filter fun y => !decide (y ∈ F ++ [a]) := by
  rw [List.filter_filter]
  congr 1
  funext y
  by_cases h1 : y ∈ F <;> by_cases h2 : y = a <;> simp [h1, h2]
theorem count_filter_le (l : List Int) (p : Int → Bool) (a : Int) : (l.filter p).count a ≤ l.count a := List.Sublist.count_le (a := a) List.filter_sublist

section
variable {prog : Program} {w : World} {A : Around} {E : Value → Shared → Prop} {sh : Heap} {sg : Array GenState} {sd : Drawn} {stk : Nat} {so : OsState} {h₀ : Heap} {L D : Addr} {m : Str → Option Value} {news : List (Addr × Obj)} {o : Obj} {c : List (Int × Int)} {k : Int} {t : Tok} {value slice : PySem.Expr}
theorem d_inS {v : Int} {Q : Value → Shared → Prop} (hk : List.lookup k c = some v) (N : News h₀ L sh news) (hm : (D, o) ∈ news) (hd : IDict prog w o c) (hn : (D == sysModules) = false) (h : ∀ tk, Q (.bool true) (Shared.mk sh sg sd tk so)) :
    wpAny (model prog w) A (compareOp .In (.int k t) (.ref D)) Q E (Shared.mk sh sg sd stk so) := d_in N hm hd hn (by rw [hk]; exact h)
theorem d_inN {Q : Value → Shared → Prop} (hk : List.lookup k c = none) (N : News h₀ L sh news) (hm : (D, o) ∈ news) (hd : IDict prog w o c) (hn : (D == sysModules) = false) (h : ∀ tk, Q (.bool false) (Shared.mk sh sg sd tk so)) :
    wpAny (model prog w) A (compareOp .In (.int k t) (.ref D)) Q E (Shared.mk sh sg sd stk so) := d_in N hm hd hn (by rw [hk]; exact h)
end
example : True := by
  k_with "o compareOp In int ref" => ((k_here; k_dflt (refine' d_inS ?k0_113 ?k1_113 ?k2_113 ?k3_113 ?k4_113 ?_; (case k0_113 => with_reducible assumption); (case k1_113 => k_asm); (case k4_113 => with_reducible k_extra "o m nosys"); (case k2_113 => k_extra "o mem"); (case k3_113 => k_extra "o m dict"); k_whole); intro tk'))
  k_with "o compareOp In int ref" => ((k_here; k_dflt (refine' d_inN ?k0_114 ?k1_114 ?k2_114 ?k3_114 ?k4_114 ?_; (case k0_114 => with_reducible assumption); (case k1_114 => k_asm); (case k4_114 => with_reducible k_extra "o m nosys"); (case k2_114 => k_extra "o mem"); (case k3_114 => k_extra "o m dict"); k_whole); intro tk'))
  k_with "o m ar" => (first | k_extra "o m arq" | (first | lia | omega) | (dsimp only; (first | lia | omega)) | (simp only [List.length_append, List.length_cons, List.length_nil, length_putIn, List.length_set, List.length_map]; (first | lia | omega)))
  k_with "o exec If" => ((k_here; refine wpAny_If ?_))
  k_with "o assign Tuple" => ((k_here; (with_reducible show wpAny _ _ (assign (Expr.Tuple _ _ _) _ (Value.ref _)) _ _ _); k_dflt (refine' unpackN_ ?k1_117 ?k2_117 ?k3_117 ?k4_117 ?k5_117 ?k6_117 ?_; (case k1_117 => k_asm); (case k2_117 => k_asm); (case k3_117 => kun_tup); (case k4_117 => assumption); (case k5_117 => exact rfl); (case k6_117 => exact rfl); k_whole); intro h' F' N'; (try k_sweep)))
  trivial
theorem inn_mem {P : Params} {ex : List (Addr × Obj)} {a : BA} {g : Sg} {p : Addr × Obj} (h : p ∈ g.inn) : p ∈ ex ++ obs P a g := by simp [h]
example : True := by
  k_with "o k_mem" => (((first | with_reducible refine' in_appM ?_ | with_reducible refine' in_app ?_); with_reducible exact inn_mem (by with_reducible assumption)))
  k_with "o call type:tuple" => ((k_here; (with_reducible show wpAny _ _ (call (Value.type _) [Value.ref _]) _ _ _); k_dflt (refine' l_tuple ?k1_119 ?k2_119 ?k3_119 ?k4_119 ?_; (case k1_119 => k_asm); (case k2_119 => k_asm); (case k3_119 => exact inn_mem (by assumption)); (case k4_119 => k_extra "o m ar"); k_whole); intro D' h' F' N' l1; (try replace l1 := ne_all l1); k_dflt (try replace Nd := nodup_push l1 Nd); (try dsimp only [List.map] at Nd); (try k_sweep)))
  trivial

section
variable {prog : Program} {w : World} {A : Around} {h₀ : Heap} {L : Addr} {m : Str → Option Value} {sh : Heap} {sg : Array GenState} {sd : Drawn} {stk : Nat} {so : OsState} {ex : List (Addr × Obj)} {a : BA} {S : St} {Q : Value → Shared → Prop} {E : Value → Shared → Prop}
noncomputable def partIs (S : St) (x : Int) : Bool := (S.spaces.getD x.toNat Str.empty == Str.ofString "html") && tableParts.any fun y => y == S.names.getD x.toNat Str.empty
noncomputable def conOf (S : St) (x : Int) : Option Int := List.lookup x S.contents
noncomputable def placeFor (S : St) (x : Int) : Int × Int :=
  let p := if S.foster && partIs S x then fosterOf S else (x, -1)
  match conOf S p.1 with
  | some y => (y, -1)
  | none => p
end
namespace E_c_placefor
noncomputable def St_ (prog : Program) (w : World) (A : Around) (h₀ : Heap) (L : Addr) (m : Str → Option Value) (sh : Heap) (sg : Array GenState) (sd : Drawn) (stk : Nat) (so : OsState) (ex : List (Addr × Obj)) (a : BA) (S : St) (Q : Value → Shared → Prop) (E : Value → Shared → Prop) (x : Int) (t : Tok) (n : Nat) : Prop :=
  ∀ (C : Cx w h₀ A L 3) (F : Fr h₀ L sh m) (W : Bw prog w h₀ L sh ex a S) (H : Ln S n) (hz : S.stack.length ≤ 100000) (hz0 : 0 < S.stack.length) (hx0 : 0 ≤ x) (hx1 : x < n) (hr : ∀ y ∈ S.stack, 0 ≤ y ∧ y < n) (hp : ∀ y ∈ S.stack, htmlIs S y sTable = true → par S y ≠ -1) (k : ∀ h' tk D u v c ex', Fr h₀ L h' m → Bw prog w h₀ L h' ((D, ({ cls := .type "tuple", data := .seq #[.int (placeFor S x).1 u, .int (placeFor S x).2 v] c } : Obj)) :: ex' ++ ex) a S → Q (.ref D) (Shared.mk h' sg sd tk so)), wpAny (model prog w) A (call (.ref 50) [.ref a.b, .int x t]) Q E (Shared.mk sh sg sd stk so)
noncomputable def v : CV × Int × Tok × Nat := @Classical.epsilon _ ⟨(cv0, default, default, default)⟩ fun v => ¬ St_ v.1.prog v.1.w v.1.A v.1.h₀ v.1.L v.1.m v.1.sh v.1.sg v.1.sd v.1.stk v.1.so v.1.ex v.1.a v.1.S v.1.Q v.1.E v.2.1 v.2.2.1 v.2.2.2
@[irreducible] noncomputable def prog : Program := v.1.prog
@[irreducible] noncomputable def w : World := v.1.w
@[irreducible] noncomputable def A : Around := v.1.A
@[irreducible] noncomputable def h₀ : Heap := v.1.h₀
@[irreducible] noncomputable def L : Addr := v.1.L
@[irreducible] noncomputable def m : Str → Option Value := v.1.m
@[irreducible] noncomputable def sh : Heap := v.1.sh
@[irreducible] noncomputable def sg : Array GenState := v.1.sg
@[irreducible] noncomputable def sd : Drawn := v.1.sd
@[irreducible] noncomputable def stk : Nat := v.1.stk
@[irreducible] noncomputable def so : OsState := v.1.so
@[irreducible] noncomputable def ex : List (Addr × Obj) := v.1.ex
@[irreducible] noncomputable def a : BA := v.1.a
@[irreducible] noncomputable def S : St := v.1.S
@[irreducible] noncomputable def Q : Value → Shared → Prop := v.1.Q
@[irreducible] noncomputable def E : Value → Shared → Prop := v.1.E
@[irreducible] noncomputable def x : Int := v.2.1
@[irreducible] noncomputable def t : Tok := v.2.2.1
@[irreducible] noncomputable def n : Nat := v.2.2.2
theorem core : St_ prog w A h₀ L m sh sg sd stk so ex a S Q E x t n := by
  intro C F W H hz hz0 hx0 hx1 hr hp k
  obtain ⟨g, N, Nd, V⟩ := W
  refine' call_fn (binds := [bd "builder" (.ref a.b), bd "target" (.int x t)]) C F N ?h1 ?h2 ?h3 ?h4 ?h5 ?h6 ?h7 ?h8 ?_
  k_extra "o m side"
  have hs1 := H.sp
  have hs2 := H.na
  have hs3 := H.hn
  have hfo := V.fo
  rcases hc1 : List.lookup x S.contents with _ | y1
  all_goals
    have hf : (S.foster && partIs S x) = false → placeFor S x = (match List.lookup x S.contents with | some y => (y, -1) | none => (x, -1)) := by
      intro e; unfold placeFor conOf; simp only [e, Bool.false_eq_true, if_false]
    simp only [hc1] at hf
    k_extra "o m go"
    · refine c_tablepart (CC.mono (by decide)) F' N' ?_
      intro h' tk F' N'
      have e : (S.foster && partIs S x) = tableParts.any fun z => z == S.names.getD x.toNat Str.empty := by rw [← hfo]; clear hfo; unfold partIs; simp only [*, Bool.true_and]
      cases htp : tableParts.any fun z => z == S.names.getD x.toNat Str.empty
      · rw [hf (e.trans htp)] at k
        k_extra "o m go"
        exact k _ _ _ _ _ _ [] kF ⟨_, kN, Nd, V⟩
      · have hpl : placeFor S x = match List.lookup (fosterOf S).1 S.contents with | some y => (y, -1) | none => fosterOf S := by
          unfold placeFor conOf; rw [e, htp]; rfl
        k_extra "o m go"
        refine c_foster (ex := ex) (S := S) (CC.mono (by decide)) F' ⟨_, N', Nd, V⟩ H hz hz0 hr hp ?_
        intro h' tk D u v c F' W'
        k_extra "o m open"
        clear hc1
        rcases hc2 : List.lookup (fosterOf S).1 S.contents with _ | y2
        all_goals
          rw [hc2] at hpl
          rw [hpl] at k
          k_extra "o m go"
          exact k _ _ _ _ _ _ [_] kF ⟨_, kN, Nd, V⟩
    · rw [hf (by rw [← hfo]; clear hfo; unfold partIs; simp only [*, Bool.and_false, Bool.false_and])] at k
      exact k _ _ _ _ _ _ [] kF ⟨_, kN, Nd, V⟩
    · rw [hf (by rw [← hfo]; clear hfo; simp only [*, Bool.false_and])] at k
      exact k _ _ _ _ _ _ [] kF ⟨_, kN, Nd, V⟩
theorem all (v : CV × Int × Tok × Nat) : St_ v.1.prog v.1.w v.1.A v.1.h₀ v.1.L v.1.m v.1.sh v.1.sg v.1.sd v.1.stk v.1.so v.1.ex v.1.a v.1.S v.1.Q v.1.E v.2.1 v.2.2.1 v.2.2.2 := eps_all ⟨v⟩ (P := fun v => St_ v.1.prog v.1.w v.1.A v.1.h₀ v.1.L v.1.m v.1.sh v.1.sg v.1.sd v.1.stk v.1.so v.1.ex v.1.a v.1.S v.1.Q v.1.E v.2.1 v.2.2.1 v.2.2.2) (by with_unfolding_all exact core) v
end E_c_placefor
section
variable {prog : Program} {w : World} {A : Around} {h₀ : Heap} {L : Addr} {m : Str → Option Value} {sh : Heap} {sg : Array GenState} {sd : Drawn} {stk : Nat} {so : OsState} {ex : List (Addr × Obj)} {a : BA} {S : St} {Q : Value → Shared → Prop} {E : Value → Shared → Prop}
theorem c_placefor {x : Int} {t : Tok} {n : Nat} (C : Cx w h₀ A L 3) (F : Fr h₀ L sh m) (W : Bw prog w h₀ L sh ex a S) (H : Ln S n) (hz : S.stack.length ≤ 100000) (hz0 : 0 < S.stack.length) (hx0 : 0 ≤ x) (hx1 : x < n)
    (hr : ∀ y ∈ S.stack, 0 ≤ y ∧ y < n) (hp : ∀ y ∈ S.stack, htmlIs S y sTable = true → par S y ≠ -1)
    (k : ∀ h' tk D u v c ex', Fr h₀ L h' m → Bw prog w h₀ L h' ((D, ({ cls := .type "tuple", data := .seq #[.int (placeFor S x).1 u, .int (placeFor S x).2 v] c } : Obj)) :: ex' ++ ex) a S → Q (.ref D) (Shared.mk h' sg sd tk so)) :
    wpAny (model prog w) A (call (.ref 50) [.ref a.b, .int x t]) Q E (Shared.mk sh sg sd stk so) :=
  E_c_placefor.all (⟨prog, w, A, h₀, L, m, sh, sg, sd, stk, so, ex, cv0.news, a, S, Q, E⟩, x, t, n) C F W H hz hz0 hx0 hx1 hr hp k
end

section
variable {prog : Program} {w : World} {A : Around} {h₀ : Heap} {L : Addr} {m : Str → Option Value} {sh : Heap} {sg : Array GenState} {sd : Drawn} {stk : Nat} {so : OsState} {ex : List (Addr × Obj)} {a : BA} {S : St} {Q : Value → Shared → Prop} {E : Value → Shared → Prop}
noncomputable def nameOf (S : St) (x : Int) : Str := S.names.getD x.toNat Str.empty
noncomputable def attrOf (S : St) (x : Int) : List (Str × Str) := S.attrs.getD x.toNat []
noncomputable def copyS (S : St) (x : Int) : St := elemS S (nameOf S x) sHtml (attrOf S x)
noncomputable def putCopy (S : St) (x : Int) (i : Nat) : St :=
  { copyS S x with fmt := S.fmt.set (S.fmt.idxOf x) (S.kinds.length : Int), stack := S.stack.set i (S.kinds.length : Int) }
structure Sized (S : St) (n : Nat) : Prop where
  ln : Ln S n
  n2 : n + 2 ≤ 100000
  st : S.stack.length ≤ 100000
  fm : S.fmt.length ≤ 100000
  co : S.contents.length ≤ 100000
  nk : List.lookup (n : Int) S.contents = none
  az : ∀ x : Int, (attrOf S x).length ≤ 100
structure IStep (J : List Int → St → Int → Int → Nat → Prop) (b x : Int) (p : Nat) (nd : Int) (todo : List Int) (S : St) (last mark : Int) (r n : Nat) : Prop where
  n0 : 0 ≤ nd
  n1 : nd < n
  ne : nd ≠ x
  far : nd ∈ S.fmt → 3 < r + 1 → J todo { S with fmt := S.fmt.erase nd, stack := S.stack.erase nd } last (if (S.fmt.idxOf nd : Int) < mark then mark - 1 else mark) (r + 1)
  off : nd ∉ S.fmt → J todo { S with stack := S.stack.erase nd } last mark (r + 1)
  ins : nd ∈ S.fmt → r + 1 ≤ 3 → InsOk (putCopy S nd (p + 1 + todo.length)) n last []
  cpy : nd ∈ S.fmt → r + 1 ≤ 3 → J todo (insertE (putCopy S nd (p + 1 + todo.length)) n last) n (if last = b then (S.fmt.idxOf nd : Int) + 1 else mark) (r + 1)

theorem copyS_fmt (S : St) (x : Int) : (copyS S x).fmt = S.fmt := by unfold copyS elemS; split <;> rfl
theorem copyS_stack (S : St) (x : Int) : (copyS S x).stack = S.stack := by unfold copyS elemS; split <;> rfl
inductive AttrG (g : Sg) (S : St) (x : Int) : Prop
  | mk (c : Addr) (vs : List Value) (m : Nat) : g.ar[x.toNat]? = some (.ref c) → (c, listOf (List.toArray vs) m) ∈ g.inn → All2 (PairAt g.inn) vs (attrOf S x) → AttrG g S x
theorem attr_at {S : St} {g : Sg} {x : Int} {n : Nat} (V : Sv prog w a g S) (H : Ln S n) (h0 : 0 ≤ x) (h1 : x < n) :
    AttrG g S x := by
  have e : S.attrs[x.toNat]? = some (attrOf S x) := by
    unfold attrOf
    rw [List.getD_eq_getElem?_getD, List.getElem?_eq_getElem (by have := H.ar; k_extra "o m oz")]; rfl
  obtain ⟨v, hv, c, vs, m, rfl, hm, hp⟩ := V.ar.get _ _ e
  exact ⟨c, vs, m, hv, hm, hp⟩
theorem lk_back2 {x y : Str} {v u : Value} {l o : List (Str × Value)} (h1 : List.lookup x l = none) (h2 : List.lookup y l = none) (h3 : (x == y) = false) :
    (fun z => List.lookup z ((x, v) :: (y, u) :: (l ++ o))) = fun z => List.lookup z (l ++ (y, u) :: (x, v) :: o) :=
  (lk_back (l := (y, u) :: l) (by rw [List.lookup_cons, h3]; exact h1)).trans (lk_back h2)
theorem lk_back3 {x y z : Str} {v u q : Value} {l o : List (Str × Value)} (h1 : List.lookup x l = none) (h2 : List.lookup y l = none) (h3 : List.lookup z l = none) (e1 : (x == y) = false) (e2 : (x == z) = false) (e3 : (y == z) = false) :
    (fun i => List.lookup i ((x, v) :: (y, u) :: (z, q) :: (l ++ o))) = fun i => List.lookup i (l ++ (z, q) :: (y, u) :: (x, v) :: o) :=
  (lk_back (l := (y, u) :: (z, q) :: l) (by rw [List.lookup_cons, e1]; show List.lookup x ((z, q) :: l) = none; rw [List.lookup_cons, e2]; exact h1)).trans (lk_back2 h2 h3 e3)
noncomputable abbrev ilFrame (a : BA) (x b : Int) (t u : Tok) (i : Int) (u2 : Tok) (rr : Int) (u3 : Tok) (last : Int) (u4 : Tok) (mark : Int) (u5 : Tok) : List (Str × Value) :=
  [bd "at" (.int i u2), bd "rounds" (.int rr u3), bd "last" (.int last u4), bd "mark" (.int mark u5), bd "formatting" (.ref a.f), bd "stack" (.ref a.k), bd "tree" (.ref a.t), bd "block" (.int b u), bd "subject" (.int x t), bd "builder" (.ref a.b)]
end
namespace E_c_inner
noncomputable def St_ (prog : Program) (w : World) (A : Around) (h₀ : Heap) (L : Addr) (m : Str → Option Value) (sh : Heap) (sg : Array GenState) (sd : Drawn) (stk : Nat) (so : OsState) (ex : List (Addr × Obj)) (a : BA) (S : St) (Q : Value → Shared → Prop) (E : Value → Shared → Prop) (x : Int) (b : Int) (t : Tok) (u : Tok) (p : Nat) (todo0 : List Int) (J : List Int → St → Int → Int → Nat → Prop) : Prop :=
  ∀ (C : Cx w h₀ A L 4) (F : Fr h₀ L sh m) (W : Bw prog w h₀ L sh ex a S) (hsz : ∀ todo S last mark r, J todo S last mark r → ∃ n, Sized S n ∧ p + todo.length < S.stack.length ∧ S.stack.getD (p + todo.length) 0 = todo.headD x ∧
      ∀ nd td, todo = nd :: td → IStep J b x p nd td S last mark r n) (hx : x ∈ S.fmt) (hb : b ∈ S.stack) (hbi : S.stack.idxOf b = p + 1 + todo0.length) (hJ : J todo0 S b (S.fmt.idxOf x : Int) 0) (k : ∀ h' tk D v1 v2 c S' last mark r, Fr h₀ L h' m → J [] S' last mark r → Bw prog w h₀ L h' ((D, ({ cls := .type "tuple", data := .seq #[.int last v1, .int mark v2] c } : Obj)) :: ex) a S' → Q (.ref D) (Shared.mk h' sg sd tk so)), wpAny (model prog w) A (call (.ref 72) [.ref a.b, .int x t, .int b u]) Q E (Shared.mk sh sg sd stk so)
noncomputable def v : CV × Int × Int × Tok × Tok × Nat × (List Int) × (List Int → St → Int → Int → Nat → Prop) := @Classical.epsilon _ ⟨(cv0, default, default, default, default, default, default, fun _ _ _ _ _ => True)⟩ fun v => ¬ St_ v.1.prog v.1.w v.1.A v.1.h₀ v.1.L v.1.m v.1.sh v.1.sg v.1.sd v.1.stk v.1.so v.1.ex v.1.a v.1.S v.1.Q v.1.E v.2.1 v.2.2.1 v.2.2.2.1 v.2.2.2.2.1 v.2.2.2.2.2.1 v.2.2.2.2.2.2.1 v.2.2.2.2.2.2.2
@[irreducible] noncomputable def prog : Program := v.1.prog
@[irreducible] noncomputable def w : World := v.1.w
@[irreducible] noncomputable def A : Around := v.1.A
@[irreducible] noncomputable def h₀ : Heap := v.1.h₀
@[irreducible] noncomputable def L : Addr := v.1.L
@[irreducible] noncomputable def m : Str → Option Value := v.1.m
@[irreducible] noncomputable def sh : Heap := v.1.sh
@[irreducible] noncomputable def sg : Array GenState := v.1.sg
@[irreducible] noncomputable def sd : Drawn := v.1.sd
@[irreducible] noncomputable def stk : Nat := v.1.stk
@[irreducible] noncomputable def so : OsState := v.1.so
@[irreducible] noncomputable def ex : List (Addr × Obj) := v.1.ex
@[irreducible] noncomputable def a : BA := v.1.a
@[irreducible] noncomputable def S : St := v.1.S
@[irreducible] noncomputable def Q : Value → Shared → Prop := v.1.Q
@[irreducible] noncomputable def E : Value → Shared → Prop := v.1.E
@[irreducible] noncomputable def x : Int := v.2.1
@[irreducible] noncomputable def b : Int := v.2.2.1
@[irreducible] noncomputable def t : Tok := v.2.2.2.1
@[irreducible] noncomputable def u : Tok := v.2.2.2.2.1
@[irreducible] noncomputable def p : Nat := v.2.2.2.2.2.1
@[irreducible] noncomputable def todo0 : List Int := v.2.2.2.2.2.2.1
@[irreducible] noncomputable def J : List Int → St → Int → Int → Nat → Prop := v.2.2.2.2.2.2.2
theorem core : St_ prog w A h₀ L m sh sg sd stk so ex a S Q E x b t u p todo0 J := by
  intro C F W hsz hx hb hbi hJ k
  obtain ⟨g, N, Nd, V⟩ := W
  refine' call_fn (binds := [bd "builder" (.ref a.b), bd "subject" (.int x t), bd "block" (.int b u)]) C F N ?h1 ?h2 ?h3 ?h4 ?h5 ?h6 ?h7 ?h8 ?_
  k_extra "o m side"
  obtain ⟨n, H0, -, -, -⟩ := hsz _ _ _ _ _ hJ
  have hz1 := H0.st
  have hz2 := H0.fm
  k_extra "o m go"
  refine c_fplace (ex := ex) (S := S) (CC.mono (by decide)) F' ⟨_, N', Nd, V⟩ (by k_extra "o m oz") ?_
  intro h' tk u1 v1 F' W' e
  rw [if_pos hx] at e
  subst e
  k_extra "o m open"
  k_extra "o m go"
  refine c_kplace (ex := ex) (S := S) (CC.mono (by decide)) F' ⟨_, N', Nd, V⟩ (by k_extra "o m oz") ?_
  intro h' tk u1 v1 F' W' e
  rw [if_pos hb, hbi] at e
  subst e
  k_extra "o m open"
  k_extra "o m go"
  refine whl_inv (fun j s' => ∀ G : Prop, (∀ h tk i u2 rr u3 u4 u5 todo S last mark r o, (s' = (Shared.mk h sg sd tk so)) → (Fr hG L' h (fun y => List.lookup y ([bd "at" (.int i u2), bd "rounds" (.int rr u3), bd "last" (.int last u4), bd "mark" (.int mark u5), bd "formatting" (.ref a.f), bd "stack" (.ref a.k), bd "tree" (.ref a.t), bd "block" (.int b u), bd "subject" (.int x t), bd "builder" (.ref a.b)] ++ o))) → Bw prog w hG L' h ex a S → (j = todo.length) → (i = p + todo.length) → (rr = (r : Nat)) → J todo S last mark r → G) → G) todo0.length ?_ ?_
  · exact fun G kk => kk _ _ _ _ 0 _ _ _ todo0 S b _ 0 [] rfl F' ⟨_, N', Nd, V⟩ rfl (by k_extra "o m oz") rfl hJ
  · clear hJ hbi hb hx hz1 hz2 H0 V Nd N' F'
    intro P hW j s' hI ih
    refine hI _ ?_
    clear hI
    rintro h tk i u2 rr u3 u4 u5 todo S last mark r o rfl F' W' rfl hi hrr hJ
    dsimp only [List.cons_append, List.nil_append] at F'
    obtain ⟨n, H, hz0, hat, hst⟩ := hsz _ _ _ _ _ hJ
    k_extra "o m open"
    have hz1 := H.st
    have hz2 := H.fm
    have hi0 : 0 ≤ i := by k_extra "o m oz"
    have hi1 : i < S.stack.length := by k_extra "o m oz"
    replace hat : S.stack.getD i.toNat 0 = todo.headD x := by rw [← hat]; congr 1; k_extra "o m oz"
    generalize hnd : todo.headD x = nd at hat
    k_extra "o m go"
    simp only [hat]
    k_extra "o m go"
    cases todo with
    | nil =>
      have e : nd = x := hnd.symm
      subst e
      refine WhlIf.no (by simp) ?_
      k_extra "o m go"
      exact k _ _ _ _ _ _ _ _ _ _ kF hJ ⟨_, kN, Nd, V⟩
    | cons nd' todo =>
      have e : nd' = nd := hnd
      subst e
      have I := hst _ _ rfl
      have hne := I.ne
      refine WhlIf.yes (by simpa using I.ne) ?_
      k_extra "o m go"
      simp only [hat] at F' ⊢
      refine c_fplace (ex := ex) (S := S) (CC.mono (by decide)) F' ⟨_, N', Nd, V⟩ (by k_extra "o m oz") ?_
      intro h' tk u1 v1 F' W' e
      k_extra "o m open"
      by_cases hin : nd' ∈ S.fmt
      · rw [if_pos hin] at e
        have hj : S.fmt.idxOf nd' < S.fmt.length := List.idxOf_lt_length_iff.mpr hin
        by_cases hr3 : 3 < r + 1
        · have J1 := I.far hin hr3
          have hv0 : v1 ≠ -1 := by k_extra "o m oz"
          have hv3 : rr + 1 > 3 := by k_extra "o m oz"
          k_extra "o m go"
          refine c_fremove (ex := ex) (S := S) (CC.mono (by decide)) F' ⟨_, N', Nd, V⟩ (by k_extra "o m oz") ?_
          intro h' tk F' W'
          k_extra "o m open"
          by_cases hlm : v1 < mark
          · rw [if_pos (by k_extra "o m oz")] at J1
            k_extra "o m go"
            refine c_kremove (ex := ex) (CC.mono (by decide)) F' ⟨_, N', Nd, V⟩ (by show S.stack.length ≤ _; k_extra "o m oz") ?_
            intro h' tk F' W'
            k_extra "o m open"
            k_extra "o m go"
            refine ih todo.length _ (by simp) fun G kk => kk _ _ _ _ _ _ _ _ todo _ _ _ _ _ rfl ((lk_back2 (x := Str.ofString "place") (y := Str.ofString "node") (l := ilFrame a x b t u _ _ _ _ _ _ _ _) rfl rfl rfl) ▸ F') ⟨_, N', Nd, V⟩ rfl ?_ ?_ J1
            · rw [hi]; simp; k_extra "o m oz"
            · rw [hrr]; rfl
          · rw [if_neg (by k_extra "o m oz")] at J1
            k_extra "o m go"
            refine c_kremove (ex := ex) (CC.mono (by decide)) F' ⟨_, N', Nd, V⟩ (by show S.stack.length ≤ _; k_extra "o m oz") ?_
            intro h' tk F' W'
            k_extra "o m open"
            k_extra "o m go"
            refine ih todo.length _ (by simp) fun G kk => kk _ _ _ _ _ _ _ _ todo _ _ _ _ _ rfl ((lk_back2 (x := Str.ofString "place") (y := Str.ofString "node") (l := ilFrame a x b t u _ _ _ _ _ _ _ _) rfl rfl rfl) ▸ F') ⟨_, N', Nd, V⟩ rfl ?_ ?_ J1
            · rw [hi]; simp; k_extra "o m oz"
            · rw [hrr]; rfl
        · have J1 := I.cpy hin (by k_extra "o m oz")
          have I1 := I.ins hin (by k_extra "o m oz")
          have hv0 : v1 ≠ -1 := by k_extra "o m oz"
          have hv3 : ¬ rr + 1 > 3 := by k_extra "o m oz"
          obtain ⟨ca, vsa, ma, ha1, ha2, ha3⟩ := attr_at V H.ln I.n0 I.n1
          have haz := H.az nd'
          have hal := ha3.length
          have i0 := I.n0
          have i1 := I.n1
          have q1 := H.ln.na
          have q2 := H.ln.ar
          have q3 := H.n2
          have q4 := V.ar.length
          k_extra "o m go"
          refine c_make (ex := _ :: ex) (ps := attrOf S nd') (CC.mono (by decide)) F' ⟨_, N', Nd, V, ha3⟩ H.ln H.n2 (.tup (.head _)) (by k_extra "o m oz") H.co H.nk ?_
          intro h' tk uf vf F' W' e2
          subst e2
          replace W' : Bw prog w hG L' h' _ a (copyS S nd') := W'
          have hpc : putCopy S nd' (p + 1 + todo.length) = { copyS S nd' with fmt := (copyS S nd').fmt.set ((copyS S nd').fmt.idxOf nd') (n : Int), stack := (copyS S nd').stack.set i.toNat (n : Int) } := by
            unfold putCopy; rw [copyS_fmt, copyS_stack, H.ln.ki, show i.toNat = p + 1 + todo.length by rw [hi]; simp; k_extra "o m oz"]
          rw [← copyS_fmt S nd'] at hin hz2
          rw [← copyS_stack S nd'] at hz1 hi1
          clear ha1 ha2 ha3 V q4
          k_extra "o m open"
          have hsl := V.si.length
          k_extra "o m go"
          refine c_freplace (ex := _ :: ex) (CC.mono (by decide)) F' ⟨_, N', Nd, V⟩ (by k_extra "o m oz") hin ?_
          intro h' tk F' W'
          k_extra "o m open"
          have hsl := V.si.length
          k_extra "o m go"
          · rw [if_pos ‹last = b›, ← e] at J1
            refine c_append (ex := _ :: ex) (S := putCopy S nd' (p + 1 + todo.length)) (CC.mono (by decide)) F' ⟨_, N', Nd, (by rw [hpc]; exact { V with si := ints_set V.si _ })⟩ I1 ?_
            intro h' tk F' W'
            k_extra "o m open"
            k_extra "o m go"
            refine ih todo.length _ (by simp) fun G kk => kk _ _ _ _ _ _ _ _ todo _ _ _ _ _ rfl ((lk_back3 (x := Str.ofString "fresh") (y := Str.ofString "place") (z := Str.ofString "node") (l := ilFrame a x b t u _ _ _ _ _ _ _ _) rfl rfl rfl rfl rfl rfl) ▸ F') ⟨_, News.tl N', nd_tl Nd, V⟩ rfl ?_ ?_ J1
            · rw [hi]; simp; k_extra "o m oz"
            · rw [hrr]; rfl
          · rw [if_neg ‹last ≠ b›] at J1
            refine c_append (ex := _ :: ex) (S := putCopy S nd' (p + 1 + todo.length)) (CC.mono (by decide)) F' ⟨_, N', Nd, (by rw [hpc]; exact { V with si := ints_set V.si _ })⟩ I1 ?_
            intro h' tk F' W'
            k_extra "o m open"
            k_extra "o m go"
            refine ih todo.length _ (by simp) fun G kk => kk _ _ _ _ _ _ _ _ todo _ _ _ _ _ rfl ((lk_back3 (x := Str.ofString "fresh") (y := Str.ofString "place") (z := Str.ofString "node") (l := ilFrame a x b t u _ _ _ _ _ _ _ _) rfl rfl rfl rfl rfl rfl) ▸ F') ⟨_, News.tl N', nd_tl Nd, V⟩ rfl ?_ ?_ J1
            · rw [hi]; simp; k_extra "o m oz"
            · rw [hrr]; rfl
      · rw [if_neg hin] at e
        subst e
        have J1 := I.off hin
        k_extra "o m go"
        refine c_kremove (ex := ex) (S := S) (CC.mono (by decide)) F' ⟨_, N', Nd, V⟩ (by k_extra "o m oz") ?_
        intro h' tk F' W'
        k_extra "o m open"
        k_extra "o m go"
        refine ih todo.length _ (by simp) fun G kk => kk _ _ _ _ _ _ _ _ todo _ _ _ _ _ rfl ((lk_back2 (x := Str.ofString "place") (y := Str.ofString "node") (l := ilFrame a x b t u _ _ _ _ _ _ _ _) rfl rfl rfl) ▸ F') ⟨_, N', Nd, V⟩ rfl ?_ ?_ J1
        · rw [hi]; simp; k_extra "o m oz"
        · rw [hrr]; rfl
theorem all (v : CV × Int × Int × Tok × Tok × Nat × (List Int) × (List Int → St → Int → Int → Nat → Prop)) : St_ v.1.prog v.1.w v.1.A v.1.h₀ v.1.L v.1.m v.1.sh v.1.sg v.1.sd v.1.stk v.1.so v.1.ex v.1.a v.1.S v.1.Q v.1.E v.2.1 v.2.2.1 v.2.2.2.1 v.2.2.2.2.1 v.2.2.2.2.2.1 v.2.2.2.2.2.2.1 v.2.2.2.2.2.2.2 := eps_all ⟨v⟩ (P := fun v => St_ v.1.prog v.1.w v.1.A v.1.h₀ v.1.L v.1.m v.1.sh v.1.sg v.1.sd v.1.stk v.1.so v.1.ex v.1.a v.1.S v.1.Q v.1.E v.2.1 v.2.2.1 v.2.2.2.1 v.2.2.2.2.1 v.2.2.2.2.2.1 v.2.2.2.2.2.2.1 v.2.2.2.2.2.2.2) (by with_unfolding_all exact core) v
end E_c_inner
section
variable {prog : Program} {w : World} {A : Around} {h₀ : Heap} {L : Addr} {m : Str → Option Value} {sh : Heap} {sg : Array GenState} {sd : Drawn} {stk : Nat} {so : OsState} {ex : List (Addr × Obj)} {a : BA} {S : St} {Q : Value → Shared → Prop} {E : Value → Shared → Prop}
theorem c_inner {x b : Int} {t u : Tok} {p : Nat} {todo0 : List Int} (J : List Int → St → Int → Int → Nat → Prop) (C : Cx w h₀ A L 4) (F : Fr h₀ L sh m) (W : Bw prog w h₀ L sh ex a S)
    (hsz : ∀ todo S last mark r, J todo S last mark r → ∃ n, Sized S n ∧ p + todo.length < S.stack.length ∧ S.stack.getD (p + todo.length) 0 = todo.headD x ∧
      ∀ nd td, todo = nd :: td → IStep J b x p nd td S last mark r n)
    (hx : x ∈ S.fmt) (hb : b ∈ S.stack) (hbi : S.stack.idxOf b = p + 1 + todo0.length)
    (hJ : J todo0 S b (S.fmt.idxOf x : Int) 0)
    (k : ∀ h' tk D v1 v2 c S' last mark r, Fr h₀ L h' m → J [] S' last mark r → Bw prog w h₀ L h' ((D, ({ cls := .type "tuple", data := .seq #[.int last v1, .int mark v2] c } : Obj)) :: ex) a S' → Q (.ref D) (Shared.mk h' sg sd tk so)) :
    wpAny (model prog w) A (call (.ref 72) [.ref a.b, .int x t, .int b u]) Q E (Shared.mk sh sg sd stk so) :=
  E_c_inner.all (⟨prog, w, A, h₀, L, m, sh, sg, sd, stk, so, ex, cv0.news, a, S, Q, E⟩, x, b, t, u, p, todo0, J) C F W hsz hx hb hbi hJ k
end

section
variable {prog : Program} {w : World} {A : Around} {h₀ : Heap} {L : Addr} {m : Str → Option Value} {sh : Heap} {sg : Array GenState} {sd : Drawn} {stk : Nat} {so : OsState} {ex : List (Addr × Obj)} {a : BA} {S : St} {Q : Value → Shared → Prop} {E : Value → Shared → Prop}
noncomputable def insertAt (S : St) (p x b : Int) : St := if b = -1 then insertE S p x else insertB S p x b
theorem c_insert4 {p x b : Int} {t u tb : Tok} {l : List Int} (C : Cx w h₀ A L 2) (F : Fr h₀ L sh m) (W : Bw prog w h₀ L sh ex a S) (I : InsOk S p x l) (hb : b ≠ -1 → b ≠ x ∧ b ∈ kidsOf S p ∧ b ∈ kidsOf (unlink S x) p)
    (k : ∀ h' tk, Fr h₀ L h' m → Bw prog w h₀ L h' ex a (insertAt S p x b) → Q .none (Shared.mk h' sg sd tk so)) :
    wpAny (model prog w) A (call (.ref 368) [.ref a.t, .int p t, .int x u, .int b tb]) Q E (Shared.mk sh sg sd stk so) := by
  by_cases hb0 : b = -1
  · subst hb0
    refine c_insertG (t := t) (u := u) (tb := tb) C F W I.h0 I.h1 I.hz I.hc I.hx I.hp0 I.hp1 I.hp2 I.hu I.hl I.hne I.hnl I.hkz ?_ k
    k_extra "o m fd"
  · obtain ⟨h1, h2, h3⟩ := hb hb0
    refine c_insertB (ex := ex) (l := l) C F W I.h0 I.h1 I.hz I.hc I.hx I.hp0 I.hp1 I.hp2 I.hu I.hl I.hne I.hnl I.hkz hb0 h1 h2 h3 ?_
    have e : insertAt S p x b = insertB S p x b := if_neg hb0
    rw [e] at k
    exact k
noncomputable def afterIns (S1 : St) (last common : Int) : St := insertAt S1 (placeFor S1 common).1 last (placeFor S1 common).2
noncomputable def afterWrap (S1 : St) (last x b common : Int) : St :=
  let S3 := copyS (afterIns S1 last common) x
  insertE (moveKids S3 (afterIns S1 last common).kinds.length (kidsOf S3 b)) b (afterIns S1 last common).kinds.length
noncomputable def finalS (S1 : St) (last mark x b common : Int) : St :=
  let S5 := afterWrap S1 last x b common
  let fresh : Int := (afterIns S1 last common).kinds.length
  let mk := if (S5.fmt.idxOf x : Int) < mark then mark - 1 else mark
  { S5 with fmt := putIn (S5.fmt.erase x) mk.toNat fresh, stack := putIn (S5.stack.erase x) ((S5.stack.erase x).idxOf b + 1) fresh }
structure MoveOk (S1 : St) (last mark x b common : Int) : Prop where
  z1 : ∃ n, Sized S1 n ∧ 0 ≤ common ∧ common < n ∧ ∀ y ∈ S1.stack, 0 ≤ y ∧ y < n
  z0 : 0 < S1.stack.length
  hp : ∀ y ∈ S1.stack, htmlIs S1 y sTable = true → par S1 y ≠ -1
  ins : ∃ l, InsOk S1 (placeFor S1 common).1 last l
  bef : (placeFor S1 common).2 ≠ -1 → (placeFor S1 common).2 ≠ last ∧ (placeFor S1 common).2 ∈ kidsOf S1 (placeFor S1 common).1 ∧ (placeFor S1 common).2 ∈ kidsOf (unlink S1 last) (placeFor S1 common).1
  z2 : ∃ n, Sized (afterIns S1 last common) n ∧ 0 ≤ x ∧ x < n ∧ 0 ≤ b ∧ b < n
  up : Up (copyS (afterIns S1 last common) x) (afterIns S1 last common).kinds.length []
  z3 : ∃ n, Ln (copyS (afterIns S1 last common) x) n ∧ ((afterIns S1 last common).kinds.length : Int) < n ∧ b < n
  kz : (kidsOf (copyS (afterIns S1 last common) x) b).length ≤ 100000
  mv : ∀ pre c post, kidsOf (copyS (afterIns S1 last common) x) b = pre ++ c :: post → ∃ l, InsOk (moveKids (copyS (afterIns S1 last common) x) (afterIns S1 last common).kinds.length pre) (afterIns S1 last common).kinds.length c l
  app : ∃ l, InsOk (moveKids (copyS (afterIns S1 last common) x) (afterIns S1 last common).kinds.length (kidsOf (copyS (afterIns S1 last common) x) b)) b (afterIns S1 last common).kinds.length l
  fx : x ∈ (afterWrap S1 last x b common).fmt
  fz : (afterWrap S1 last x b common).fmt.length ≤ 100000
  m0 : 0 ≤ mark
  m1 : (if ((afterWrap S1 last x b common).fmt.idxOf x : Int) < mark then mark - 1 else mark) < (afterWrap S1 last x b common).fmt.length
  sx : x ∈ (afterWrap S1 last x b common).stack
  sz : (afterWrap S1 last x b common).stack.length ≤ 100000
  sb : b ∈ (afterWrap S1 last x b common).stack.erase x

end
namespace E_c_move
noncomputable def St_ (prog : Program) (w : World) (A : Around) (h₀ : Heap) (L : Addr) (m : Str → Option Value) (sh : Heap) (sg : Array GenState) (sd : Drawn) (stk : Nat) (so : OsState) (ex : List (Addr × Obj)) (a : BA) (S : St) (Q : Value → Shared → Prop) (E : Value → Shared → Prop) (x : Int) (b : Int) (common : Int) (t : Tok) (u : Tok) (p : Nat) (todo0 : List Int) (J : List Int → St → Int → Int → Nat → Prop) : Prop :=
  ∀ (C : Cx w h₀ A L 5) (F : Fr h₀ L sh m) (W : Bw prog w h₀ L sh ex a S) (hsz : ∀ todo S last mark r, J todo S last mark r → ∃ n, Sized S n ∧ p + todo.length < S.stack.length ∧ S.stack.getD (p + todo.length) 0 = todo.headD x ∧
      ∀ nd td, todo = nd :: td → IStep J b x p nd td S last mark r n) (hx : x ∈ S.fmt) (hb : b ∈ S.stack) (hbi : S.stack.idxOf b = p + 1 + todo0.length) (hJ : J todo0 S b (S.fmt.idxOf x : Int) 0) (hxs : x ∈ S.stack) (hx1 : 1 ≤ S.stack.idxOf x) (hcm : S.stack.getD (S.stack.idxOf x - 1) 0 = common) (hmv : ∀ S1 last mark r, J [] S1 last mark r → MoveOk S1 last mark x b common) (k : ∀ h' tk ex' S1 last mark r, Fr h₀ L h' m → J [] S1 last mark r → Bw prog w h₀ L h' (ex' ++ ex) a (finalS S1 last mark x b common) → Q .none (Shared.mk h' sg sd tk so)), wpAny (model prog w) A (call (.ref 79) [.ref a.b, .int x t, .int b u]) Q E (Shared.mk sh sg sd stk so)
noncomputable def v : CV × Int × Int × Int × Tok × Tok × Nat × (List Int) × (List Int → St → Int → Int → Nat → Prop) := @Classical.epsilon _ ⟨(cv0, default, default, default, default, default, default, default, fun _ _ _ _ _ => True)⟩ fun v => ¬ St_ v.1.prog v.1.w v.1.A v.1.h₀ v.1.L v.1.m v.1.sh v.1.sg v.1.sd v.1.stk v.1.so v.1.ex v.1.a v.1.S v.1.Q v.1.E v.2.1 v.2.2.1 v.2.2.2.1 v.2.2.2.2.1 v.2.2.2.2.2.1 v.2.2.2.2.2.2.1 v.2.2.2.2.2.2.2.1 v.2.2.2.2.2.2.2.2
@[irreducible] noncomputable def prog : Program := v.1.prog
@[irreducible] noncomputable def w : World := v.1.w
@[irreducible] noncomputable def A : Around := v.1.A
@[irreducible] noncomputable def h₀ : Heap := v.1.h₀
@[irreducible] noncomputable def L : Addr := v.1.L
@[irreducible] noncomputable def m : Str → Option Value := v.1.m
@[irreducible] noncomputable def sh : Heap := v.1.sh
@[irreducible] noncomputable def sg : Array GenState := v.1.sg
@[irreducible] noncomputable def sd : Drawn := v.1.sd
@[irreducible] noncomputable def stk : Nat := v.1.stk
@[irreducible] noncomputable def so : OsState := v.1.so
@[irreducible] noncomputable def ex : List (Addr × Obj) := v.1.ex
@[irreducible] noncomputable def a : BA := v.1.a
@[irreducible] noncomputable def S : St := v.1.S
@[irreducible] noncomputable def Q : Value → Shared → Prop := v.1.Q
@[irreducible] noncomputable def E : Value → Shared → Prop := v.1.E
@[irreducible] noncomputable def x : Int := v.2.1
@[irreducible] noncomputable def b : Int := v.2.2.1
@[irreducible] noncomputable def common : Int := v.2.2.2.1
@[irreducible] noncomputable def t : Tok := v.2.2.2.2.1
@[irreducible] noncomputable def u : Tok := v.2.2.2.2.2.1
@[irreducible] noncomputable def p : Nat := v.2.2.2.2.2.2.1
@[irreducible] noncomputable def todo0 : List Int := v.2.2.2.2.2.2.2.1
@[irreducible] noncomputable def J : List Int → St → Int → Int → Nat → Prop := v.2.2.2.2.2.2.2.2
theorem core : St_ prog w A h₀ L m sh sg sd stk so ex a S Q E x b common t u p todo0 J := by
  intro C F W hsz hx hb hbi hJ hxs hx1 hcm hmv k
  obtain ⟨g, N, Nd, V⟩ := W
  refine' call_fn (binds := [bd "builder" (.ref a.b), bd "subject" (.int x t), bd "block" (.int b u)]) C F N ?h1 ?h2 ?h3 ?h4 ?h5 ?h6 ?h7 ?h8 ?_
  k_extra "o m side"
  obtain ⟨n, H0, -, -, -⟩ := hsz _ _ _ _ _ hJ
  have hz1 := H0.st
  have hz2 := H0.fm
  have hxl : S.stack.idxOf x < S.stack.length := List.idxOf_lt_length_iff.mpr hxs
  k_extra "o m go"
  refine c_kplace (ex := ex) (S := S) (CC.mono (by decide)) F' ⟨_, N', Nd, V⟩ (by k_extra "o m oz") ?_
  intro h' tk u1 v1 F' W' e
  rw [if_pos hxs] at e
  have e0 : (v1 - 1).toNat = S.stack.idxOf x - 1 := by k_extra "o m oz"
  have hv0 : 0 ≤ v1 - 1 := by k_extra "o m oz"
  have hv1 : v1 - 1 < S.stack.length := by k_extra "o m oz"
  k_extra "o m open"
  k_extra "o m go"
  simp only [e0, hcm] at F'
  refine c_inner (ex := ex) (S := S) (p := p) (todo0 := todo0) J (CC.mono (by decide)) F' ⟨_, N', Nd, V⟩ hsz hx hb hbi hJ ?_
  clear hJ hbi hb hx hz1 hz2 H0 hxl e0 hv0 hv1 V Nd N' F'
  intro h' tk D1 w1 w2 cc S1 last mark r F' hJ W'
  have M := hmv _ _ _ _ hJ
  replace k := fun h' tk ex' H0 => k h' tk ex' S1 last mark r H0 hJ
  k_extra "o m open"
  k_extra "o m go"
  obtain ⟨n1, Z1, c0, c1, r1⟩ := M.z1
  refine c_placefor (ex := _ :: ex) (S := S1) (CC.mono (by decide)) F' ⟨_, N', Nd, V⟩ Z1.ln Z1.st M.z0 c0 c1 r1 M.hp ?_
  clear V Nd N' F'
  intro h' tk D2 w3 w4 cc2 ex2 F' W'
  k_extra "o m open"
  k_extra "o m go"
  obtain ⟨l1, I1⟩ := M.ins
  refine c_insert4 (ex := _ :: (ex2 ++ _ :: ex)) (S := S1) (l := l1) (CC.mono (by decide)) F' ⟨_, N', Nd, V⟩ I1 M.bef ?_
  clear V Nd Nd1 N' F'
  intro h' tk F' W'
  replace W' : Bw prog w hG L' h' _ a (afterIns S1 last common) := W'
  k_extra "o m open"
  obtain ⟨n2, Z2, x0, x1, b0, b1⟩ := M.z2
  obtain ⟨ca, vsa, ma, ha1, ha2, ha3⟩ := attr_at V Z2.ln x0 x1
  have haz := Z2.az x
  have hal := ha3.length
  have q1 := Z2.ln.na
  have q2 := Z2.ln.ar
  have q3 := Z2.n2
  have q4 := V.ar.length
  k_extra "o m go"
  refine c_make (ex := _ :: _ :: (ex2 ++ _ :: ex)) (ps := attrOf (afterIns S1 last common) x) (CC.mono (by decide)) F' ⟨_, N', Nd, V, ha3⟩ Z2.ln Z2.n2 (.tup (.head _)) (by k_extra "o m oz") Z2.co Z2.nk ?_
  clear ha1 ha2 ha3 V Nd N' F' q4
  intro h' tk uf vf F' W' e2
  rw [← Z2.ln.ki] at e2
  subst e2
  replace W' : Bw prog w hG L' h' _ a (copyS (afterIns S1 last common) x) := W'
  k_extra "o m open"
  k_extra "o m go"
  obtain ⟨n3, Z3, f3, b3⟩ := M.z3
  refine c_movekids (ex := _ :: _ :: (ex2 ++ _ :: ex)) (l := []) (CC.mono (by decide)) F' ⟨_, N', Nd, V⟩ (by rw [Z3.pa]; have := Z3.hn; k_extra "o m oz") b0 (by rw [Z3.ch]; exact b3) M.kz (by k_extra "o m oz") (by rw [Z3.pa]; exact f3) M.up (by simp) (by simp) (by rw [Z3.ch]; have := Z3.hn; k_extra "o m oz") M.mv ?_
  clear V Nd N' F'
  intro h' tk F' W'
  k_extra "o m open"
  k_extra "o m go"
  obtain ⟨l4, I4⟩ := M.app
  refine c_append (ex := _ :: _ :: (ex2 ++ _ :: ex)) (CC.mono (by decide)) F' ⟨_, N', Nd, V⟩ I4 ?_
  clear V Nd N' F'
  intro h' tk F' W'
  replace W' : Bw prog w hG L' h' _ a (afterWrap S1 last x b common) := W'
  have fx := M.fx
  have fz := M.fz
  have m0 := M.m0
  have m1 := M.m1
  have sx := M.sx
  have sz := M.sz
  have sb := M.sb
  have hfin : finalS S1 last mark x b common = (let S5 := afterWrap S1 last x b common; let fresh : Int := (afterIns S1 last common).kinds.length; let mk := if (S5.fmt.idxOf x : Int) < mark then mark - 1 else mark; { S5 with fmt := putIn (S5.fmt.erase x) mk.toNat fresh, stack := putIn (S5.stack.erase x) ((S5.stack.erase x).idxOf b + 1) fresh }) := rfl
  clear M I1 I4
  generalize afterWrap S1 last x b common = S5 at W' fx fz m1 sx sz sb hfin
  generalize hfr : ((afterIns S1 last common).kinds.length : Int) = fr at F' hfin
  have l1 : (S5.fmt.erase x).length = S5.fmt.length - 1 := List.length_erase_of_mem fx
  have l2 : (S5.stack.erase x).length = S5.stack.length - 1 := List.length_erase_of_mem sx
  have l3 := List.idxOf_lt_length_iff.mpr sb
  have l5 : 0 < S5.fmt.length := List.length_pos_of_mem fx
  k_extra "o m open"
  k_extra "o m go"
  refine c_fplace (ex := _ :: _ :: (ex2 ++ _ :: ex)) (CC.mono (by decide)) F' ⟨_, N', Nd, V⟩ (by k_extra "o m oz") ?_
  clear V Nd N' F'
  intro h' tk u1 v1 F' W' e
  rw [if_pos fx] at e
  k_extra "o m open"
  by_cases hlt : v1 < mark
  · rw [if_pos (by k_extra "o m oz")] at m1
    replace hfin : finalS S1 last mark x b common = { S5 with fmt := putIn (S5.fmt.erase x) (mark - 1).toNat fr, stack := putIn (S5.stack.erase x) ((S5.stack.erase x).idxOf b + 1) fr } := by rw [hfin]; simp only [← e, if_pos hlt]
    k_extra "o m go"
    refine c_fremove (ex := _ :: _ :: (ex2 ++ _ :: ex)) (CC.mono (by decide)) F' ⟨_, N', Nd, V⟩ (by k_extra "o m oz") ?_
    clear V Nd N' F'
    intro h' tk F' W'
    k_extra "o m open"
    k_extra "o m go"
    refine c_fput (ex := _ :: _ :: (ex2 ++ _ :: ex)) (CC.mono (by decide)) F' ⟨_, N', Nd, V⟩ (by show (S5.fmt.erase x).length ≤ _; k_extra "o m oz") (by k_extra "o m oz") (by show _ ≤ ((S5.fmt.erase x).length : Int); k_extra "o m oz") ?_
    clear V Nd N' F'
    intro h' tk F' W'
    k_extra "o m open"
    k_extra "o m go"
    refine c_kremove (ex := _ :: _ :: (ex2 ++ _ :: ex)) (CC.mono (by decide)) F' ⟨_, N', Nd, V⟩ (by show S5.stack.length ≤ _; k_extra "o m oz") ?_
    clear V Nd N' F'
    intro h' tk F' W'
    k_extra "o m open"
    k_extra "o m go"
    refine c_kplace (ex := _ :: _ :: (ex2 ++ _ :: ex)) (CC.mono (by decide)) F' ⟨_, N', Nd, V⟩ (by show (S5.stack.erase x).length ≤ _; k_extra "o m oz") ?_
    clear V Nd N' F'
    intro h' tk u2 v2 F' W' e2
    replace e2 : v2 = if b ∈ S5.stack.erase x then ((S5.stack.erase x).idxOf b : Int) else -1 := e2
    rw [if_pos sb] at e2
    k_extra "o m open"
    k_extra "o m go"
    refine c_kput (ex := _ :: _ :: (ex2 ++ _ :: ex)) (CC.mono (by decide)) F' ⟨_, N', Nd, V⟩ (by show (S5.stack.erase x).length ≤ _; k_extra "o m oz") (by k_extra "o m oz") (by show _ ≤ ((S5.stack.erase x).length : Int); k_extra "o m oz") ?_
    clear V Nd N' F'
    intro h' tk F' W'
    k_extra "o m open"
    k_extra "o m go"
    refine k _ _ (_ :: _ :: (ex2 ++ [_])) kF ⟨_, (by simpa using kN), (by simpa using Nd), ?_⟩
    rw [hfin]
    rw [show (v2 + 1).toNat = (S5.stack.erase x).idxOf b + 1 by k_extra "o m oz"] at V
    exact V
  · rw [if_neg (by k_extra "o m oz")] at m1
    replace hfin : finalS S1 last mark x b common = { S5 with fmt := putIn (S5.fmt.erase x) mark.toNat fr, stack := putIn (S5.stack.erase x) ((S5.stack.erase x).idxOf b + 1) fr } := by rw [hfin]; simp only [← e, if_neg hlt]
    k_extra "o m go"
    refine c_fremove (ex := _ :: _ :: (ex2 ++ _ :: ex)) (CC.mono (by decide)) F' ⟨_, N', Nd, V⟩ (by k_extra "o m oz") ?_
    clear V Nd N' F'
    intro h' tk F' W'
    k_extra "o m open"
    k_extra "o m go"
    refine c_fput (ex := _ :: _ :: (ex2 ++ _ :: ex)) (CC.mono (by decide)) F' ⟨_, N', Nd, V⟩ (by show (S5.fmt.erase x).length ≤ _; k_extra "o m oz") (by k_extra "o m oz") (by show _ ≤ ((S5.fmt.erase x).length : Int); k_extra "o m oz") ?_
    clear V Nd N' F'
    intro h' tk F' W'
    k_extra "o m open"
    k_extra "o m go"
    refine c_kremove (ex := _ :: _ :: (ex2 ++ _ :: ex)) (CC.mono (by decide)) F' ⟨_, N', Nd, V⟩ (by show S5.stack.length ≤ _; k_extra "o m oz") ?_
    clear V Nd N' F'
    intro h' tk F' W'
    k_extra "o m open"
    k_extra "o m go"
    refine c_kplace (ex := _ :: _ :: (ex2 ++ _ :: ex)) (CC.mono (by decide)) F' ⟨_, N', Nd, V⟩ (by show (S5.stack.erase x).length ≤ _; k_extra "o m oz") ?_
    clear V Nd N' F'
    intro h' tk u2 v2 F' W' e2
    replace e2 : v2 = if b ∈ S5.stack.erase x then ((S5.stack.erase x).idxOf b : Int) else -1 := e2
    rw [if_pos sb] at e2
    k_extra "o m open"
    k_extra "o m go"
    refine c_kput (ex := _ :: _ :: (ex2 ++ _ :: ex)) (CC.mono (by decide)) F' ⟨_, N', Nd, V⟩ (by show (S5.stack.erase x).length ≤ _; k_extra "o m oz") (by k_extra "o m oz") (by show _ ≤ ((S5.stack.erase x).length : Int); k_extra "o m oz") ?_
    clear V Nd N' F'
    intro h' tk F' W'
    k_extra "o m open"
    k_extra "o m go"
    refine k _ _ (_ :: _ :: (ex2 ++ [_])) kF ⟨_, (by simpa using kN), (by simpa using Nd), ?_⟩
    rw [hfin]
    rw [show (v2 + 1).toNat = (S5.stack.erase x).idxOf b + 1 by k_extra "o m oz"] at V
    exact V
theorem all (v : CV × Int × Int × Int × Tok × Tok × Nat × (List Int) × (List Int → St → Int → Int → Nat → Prop)) : St_ v.1.prog v.1.w v.1.A v.1.h₀ v.1.L v.1.m v.1.sh v.1.sg v.1.sd v.1.stk v.1.so v.1.ex v.1.a v.1.S v.1.Q v.1.E v.2.1 v.2.2.1 v.2.2.2.1 v.2.2.2.2.1 v.2.2.2.2.2.1 v.2.2.2.2.2.2.1 v.2.2.2.2.2.2.2.1 v.2.2.2.2.2.2.2.2 := eps_all ⟨v⟩ (P := fun v => St_ v.1.prog v.1.w v.1.A v.1.h₀ v.1.L v.1.m v.1.sh v.1.sg v.1.sd v.1.stk v.1.so v.1.ex v.1.a v.1.S v.1.Q v.1.E v.2.1 v.2.2.1 v.2.2.2.1 v.2.2.2.2.1 v.2.2.2.2.2.1 v.2.2.2.2.2.2.1 v.2.2.2.2.2.2.2.1 v.2.2.2.2.2.2.2.2) (by with_unfolding_all exact core) v
end E_c_move
section
variable {prog : Program} {w : World} {A : Around} {h₀ : Heap} {L : Addr} {m : Str → Option Value} {sh : Heap} {sg : Array GenState} {sd : Drawn} {stk : Nat} {so : OsState} {ex : List (Addr × Obj)} {a : BA} {S : St} {Q : Value → Shared → Prop} {E : Value → Shared → Prop}
theorem c_move {x b common : Int} {t u : Tok} {p : Nat} {todo0 : List Int} (J : List Int → St → Int → Int → Nat → Prop) (C : Cx w h₀ A L 5) (F : Fr h₀ L sh m) (W : Bw prog w h₀ L sh ex a S)
    (hsz : ∀ todo S last mark r, J todo S last mark r → ∃ n, Sized S n ∧ p + todo.length < S.stack.length ∧ S.stack.getD (p + todo.length) 0 = todo.headD x ∧
      ∀ nd td, todo = nd :: td → IStep J b x p nd td S last mark r n)
    (hx : x ∈ S.fmt) (hb : b ∈ S.stack) (hbi : S.stack.idxOf b = p + 1 + todo0.length)
    (hJ : J todo0 S b (S.fmt.idxOf x : Int) 0)
    (hxs : x ∈ S.stack) (hx1 : 1 ≤ S.stack.idxOf x) (hcm : S.stack.getD (S.stack.idxOf x - 1) 0 = common)
    (hmv : ∀ S1 last mark r, J [] S1 last mark r → MoveOk S1 last mark x b common)
    (k : ∀ h' tk ex' S1 last mark r, Fr h₀ L h' m → J [] S1 last mark r → Bw prog w h₀ L h' (ex' ++ ex) a (finalS S1 last mark x b common) → Q .none (Shared.mk h' sg sd tk so)) :
    wpAny (model prog w) A (call (.ref 79) [.ref a.b, .int x t, .int b u]) Q E (Shared.mk sh sg sd stk so) :=
  E_c_move.all (⟨prog, w, A, h₀, L, m, sh, sg, sd, stk, so, ex, cv0.news, a, S, Q, E⟩, x, b, common, t, u, p, todo0, J) C F W hsz hx hb hbi hJ hxs hx1 hcm hmv k
end

section
variable {prog : Program} {w : World} {A : Around} {h₀ : Heap} {L : Addr} {m : Str → Option Value} {sh : Heap} {sg : Array GenState} {sd : Drawn} {stk : Nat} {so : OsState} {news ex : List (Addr × Obj)} {a : BA} {S : St} {Q : Value → Shared → Prop} {E : Value → Shared → Prop}
noncomputable def digit (ns : List Int) (p : Int) : Int := ns.getD p.toNat 0
theorem c_digit {sc : Addr} {items : Array Value} {ns : List Int} {p : Int} {t : Tok} (C : Cx w h₀ A L 1) (F : Fr h₀ L sh m) (N : News h₀ L sh news) (hs : h₀.IsList sc items) (hi : IntsAre items.toList ns) (hz : ns.length ≤ 63) (h0 : 0 ≤ p) (h1 : p ≤ 1000)
    (k : ∀ h' tk v u, Fr h₀ L h' m → News h₀ L h' news → v = digit ns p → Q (.int v u) (Shared.mk h' sg sd tk so)) :
    wpAny (model prog w) A (call (.ref 509) [.ref sc, .int p t]) Q E (Shared.mk sh sg sd stk so) := by
  refine' call_fn (binds := [bd "script" (.ref sc), bd "place" (.int p t)]) C F N ?h1 ?h2 ?h3 ?h4 ?h5 ?h6 ?h7 ?h8 ?_
  k_extra "o m side"
  replace hs : hG.IsList sc items := by obtain ⟨o, ho, hc⟩ := hs; exact ⟨o, st _ _ ho, hc⟩
  have hl := hi.length
  have hsz : items.size = ns.length := by rw [← hl]; simp
  k_extra "o m go"
  all_goals refine k _ _ _ _ kF kN ?_
  · rfl
  · unfold digit; rw [List.getD_eq_getElem?_getD, List.getElem?_eq_none (by (first | lia | omega))]; rfl
noncomputable def IntTup (l : List (Addr × Obj)) (v : Value) (r : List Int) : Prop := ∃ c vs n, v = .ref c ∧ (c, ({ cls := .type "tuple", data := .seq (List.toArray vs) n } : Obj)) ∈ l ∧ IntsAre vs r
noncomputable def IntTab (l : List (Addr × Obj)) (v : Value) (r : List (List Int)) : Prop := ∃ c vs n, v = .ref c ∧ (c, ({ cls := .type "tuple", data := .seq (List.toArray vs) n } : Obj)) ∈ l ∧ All2 (IntTup l) vs r
noncomputable def headTab : List (List Int) := [[0, 4, 0, 0], [2, 6, 2, 1], [1, 2, 1, 0], [2, 5, 0, 0]]
noncomputable def baseTab : List (List (List Int)) := [
  [[0, 0, 0, 0], [1, 0, 1, 0], [2, 0, 1, 0], [3, 0, 2, 0], [1, 0, 3, 0], [4, 3, 0, 0], [5, 0, 0, 0], [0, 0, 2, 1], [1, 0, 0, 2], [4, 3, 0, 0], [2, 0, 1, 0], [3, 0, 0, 0]],
  [[1, 3, 0, 0], [2, 3, 0, 1], [1, 0, 1, 0], [0, 0, 0, 0], [6, 3, 0, 0], [2, 0, 2, 2], [0, 0, 3, 0], [3, 3, 0, 0], [1, 0, 1, 0], [4, 3, 0, 0], [0, 0, 5, 0], [7, 3, 0, 1]],
  [[3, 3, 0, 0], [2, 0, 0, 2], [6, 3, 0, 0], [7, 3, 0, 1], [5, 3, 0, 0], [0, 0, 1, 0], [1, 0, 0, 0], [3, 0, 2, 0], [0, 0, 0, 0], [4, 3, 0, 0], [2, 0, 0, 2], [6, 0, 1, 0]],
  [[0, 0, 0, 0], [1, 3, 0, 0], [0, 0, 0, 0], [1, 0, 0, 0], [2, 0, 0, 0], [3, 0, 0, 0], [0, 0, 0, 0], [1, 0, 0, 0], [4, 0, 0, 0], [5, 3, 0, 0], [2, 0, 3, 1], [3, 0, 0, 0]]]
end
noncomputable def EvR (prog : Program) (w : World) (A : Around) (env : Env) {α : Type} (R : List (Addr × Obj) → Value → α → Prop) (e : PySem.Expr) (x : α) : Prop :=
  ∀ h₀ L h m news g d tk o (Q : Value → Shared → Prop) (E : Value → Shared → Prop), Fr h₀ L h m → News h₀ L h news → (news.map (·.1)).Nodup →
    (∀ h' tk' v ex', Fr h₀ L h' m → News h₀ L h' (ex' ++ news) → ((ex' ++ news).map (·.1)).Nodup → R ex' v x → Q v (Shared.mk h' g d tk' o)) → wpAny (model prog w) A (eval e env) Q E (Shared.mk h g d tk o)
noncomputable def EvL (prog : Program) (w : World) (A : Around) (env : Env) {α : Type} (R : List (Addr × Obj) → Value → α → Prop) (es : List PySem.Expr) (xs : List α) : Prop :=
  ∀ h₀ L h m news g d tk o pos (Q : List Value → Shared → Prop) (E : Value → Shared → Prop), Fr h₀ L h m → News h₀ L h news → (news.map (·.1)).Nodup →
    (∀ h' tk' vs ex', Fr h₀ L h' m → News h₀ L h' (ex' ++ news) → ((ex' ++ news).map (·.1)).Nodup → All2 (R ex') vs xs → Q vs (Shared.mk h' g d tk' o)) → wpAny (model prog w) A (spliced (backTo pos (starEach es env))) Q E (Shared.mk h g d tk o)
noncomputable def TupR {α : Type} (R : List (Addr × Obj) → Value → α → Prop) (ex : List (Addr × Obj)) (v : Value) (xs : List α) : Prop :=
  ∃ c vs n, v = .ref c ∧ (c, ({ cls := .type "tuple", data := .seq (List.toArray vs) n } : Obj)) ∈ ex ∧ All2 (R ex) vs xs
noncomputable def MonR {α : Type} (R : List (Addr × Obj) → Value → α → Prop) : Prop := ∀ ex ex2, (∀ p ∈ ex, p ∈ ex2) → ∀ v x, R ex v x → R ex2 v x
theorem MonR.tup {α : Type} {R : List (Addr × Obj) → Value → α → Prop} (hR : MonR R) : MonR (TupR R) := by
  rintro ex ex2 hs v xs ⟨c, vs, n, e, hm, h⟩
  exact ⟨c, vs, n, e, hs _ hm, h.mono fun _ _ => hR _ _ hs _ _⟩
section
variable {prog : Program} {w : World} {A : Around} {env : Env} {α : Type} {R : List (Addr × Obj) → Value → α → Prop} {e : PySem.Expr} {es : List PySem.Expr} {x : α} {xs : List α}
theorem EvL.nil : EvL prog w A env R [] [] := fun h₀ L h m news g d tk o pos Q E F N Nd k => args_nil (k _ _ [] [] F N Nd trivial)
theorem EvL.cons (hR : MonR R) (he : EvR prog w A env R e x) (hr : EvL prog w A env R es xs) (hs : starEach (e :: es) env = (false, eval e env) :: starEach es env) : EvL prog w A env R (e :: es) (x :: xs) := fun h₀ L h m news g d tk o pos Q E F N Nd k =>
  args_cons (he _ _ _ _ _ _ _ _ _ _ _ F N Nd fun h' tk' v ex' F N Nd hv => hr _ _ _ _ _ _ _ _ _ _ _ _ F N Nd fun h'' tk'' vs ex'' F N Nd hvs =>
    k h'' tk'' (v :: vs) (ex'' ++ ex') F (by rw [List.append_assoc]; exact N) (by rw [List.append_assoc]; exact Nd) ⟨hR _ _ (fun _ hp => List.mem_append_right _ hp) _ _ hv, hvs.mono fun _ _ hq => hR _ _ (fun _ hp => List.mem_append_left _ hp) _ _ hq⟩) hs
theorem EvR.tup {k : Nat} {pos : Pos} (hR : MonR R) (h : EvL prog w A env R es xs) (hz : xs.length ≤ 1000) : EvR prog w A env (TupR R) (.Tuple es k pos) xs := fun h₀ L h1 m news g d tk o Q E F N Nd kk =>
  Tuple_ (h _ _ _ _ _ _ _ _ _ _ _ _ F N Nd fun h' tk' vs ex' F N Nd hvs => kup_newTuple F N (fun D h'' F' N' lt => kk h'' tk' (.ref D) ((D, { cls := .type "tuple", data := .seq vs.toArray }) :: ex') F' N'
    (nodup_push (ne_all lt) Nd) ⟨D, vs, _, rfl, .head _, hvs.mono fun _ _ hq => hR _ _ (fun _ hp => .tail _ hp) _ _ hq⟩) (by rw [hvs.length, sizeLine_eq]; (first | lia | omega)))
theorem EvR.use {h₀ h : Heap} {L : Addr} {m : Str → Option Value} {news : List (Addr × Obj)} {g : Array GenState} {d : Drawn} {tk : Nat} {o : OsState} {Q : Value → Shared → Prop} {E : Value → Shared → Prop} (he : EvR prog w A env R e x) (F : Fr h₀ L h m) (N : News h₀ L h news) (Nd : (news.map (·.1)).Nodup)
    (k : ∀ h' tk' v ex', Fr h₀ L h' m → News h₀ L h' (ex' ++ news) → ((ex' ++ news).map (·.1)).Nodup → R ex' v x → Q v (Shared.mk h' g d tk' o)) : wpAny (model prog w) A (eval e env) Q E (Shared.mk h g d tk o) := he _ _ _ _ _ _ _ _ _ _ _ F N Nd k
noncomputable def IntR (_ : List (Addr × Obj)) (v : Value) (n : Int) : Prop := ∃ t, v = .int n t
theorem EvR.int {i : Int} {k : Nat} {pos : Pos} : EvR prog w A env IntR (.Constant (.int i) k pos) i := fun h₀ L h1 m news g d tk o Q E F N Nd kk => wpAny_Constant_int (kk h1 _ _ [] F N Nd ⟨_, rfl⟩)
theorem monInt : MonR IntR := fun _ _ _ _ _ h => h
theorem EvR.row {a b c d : Int} {ka kb kc kd k : Nat} {pa pb pc pd p : Pos} : EvR prog w A env (TupR IntR) (.Tuple [.Constant (.int a) ka pa, .Constant (.int b) kb pb, .Constant (.int c) kc pc, .Constant (.int d) kd pd] k p) [a, b, c, d] :=
  EvR.tup monInt (EvL.cons monInt EvR.int (EvL.cons monInt EvR.int (EvL.cons monInt EvR.int (EvL.cons monInt EvR.int EvL.nil (by rfl)) (by rfl)) (by rfl)) (by rfl)) (by show 4 ≤ 1000; decide)
theorem ints_of {ex : List (Addr × Obj)} {vs : List Value} {ns : List Int} (h : All2 (IntR ex) vs ns) : IntsAre vs ns := by
  refine All2.ind (P := IntsAre) .nil (fun x y xs ys q _ ih => ?_) h
  obtain ⟨t, e⟩ := q
  subst e; exact .cons _ _ ih
theorem tup_int {ex : List (Addr × Obj)} {v : Value} {r : List Int} (h : TupR IntR ex v r) : IntTup ex v r := by
  obtain ⟨c, vs, n, e, hm, h⟩ := h
  exact ⟨c, vs, n, e, hm, ints_of h⟩
theorem tup_tab {ex : List (Addr × Obj)} {v : Value} {r : List (List Int)} (h : TupR (TupR IntR) ex v r) : IntTab ex v r := by
  obtain ⟨c, vs, n, e, hm, h⟩ := h
  exact ⟨c, vs, n, e, hm, h.mono fun _ _ => tup_int⟩
end
section
variable {prog : Program} {w : World} {A : Around} {h₀ : Heap} {L : Addr} {m : Str → Option Value} {sh : Heap} {sg : Array GenState} {sd : Drawn} {stk : Nat} {so : OsState} {news : List (Addr × Obj)} {Q : Value → Shared → Prop} {E : Value → Shared → Prop}
theorem c_heads (C : Cx w h₀ A L 1) (F : Fr h₀ L sh m) (N : News h₀ L sh news) (Nd : (news.map (·.1)).Nodup)
    (k : ∀ h' tk D ex', Fr h₀ L h' m → News h₀ L h' (ex' ++ news) → ((ex' ++ news).map (·.1)).Nodup → IntTab ex' (.ref D) headTab → Q (.ref D) (Shared.mk h' sg sd tk so)) :
    wpAny (model prog w) A (call (.ref 516) []) Q E (Shared.mk sh sg sd stk so) := by
  refine' call_fn (binds := []) C F N ?h1 ?h2 ?h3 ?h4 ?h5 ?h6 ?h7 ?h8 ?_
  k_extra "o m side"
  walk1
  walk1
  with_reducible refine' EvR.use (R := TupR (TupR IntR)) (x := headTab) ?hh F' N' Nd ?_
  case hh =>
    with_reducible refine' EvR.tup monInt.tup ?hb ?hz
    case hz => decide
    unfold headTab
    repeat' (first | with_reducible exact EvL.nil | with_reducible exact EvR.row | ((with_reducible refine' EvL.cons ?hm ?_ ?_ ?hs); (case hs => rfl); (case hm => first | with_reducible exact monInt.tup | with_reducible exact monInt.tup.tup)))
  intro h' tk v ex' F' N' Nd' hv
  have hw := tup_tab hv
  clear hv
  obtain ⟨c, vs, n, e, hm, hv⟩ := hw
  subst e
  k_extra "o m un"
  k_extra "o m un"
  exact k _ _ _ _ kF kN Nd' ⟨_, _, _, rfl, hm, hv⟩
theorem c_bases (C : Cx w h₀ A L 1) (F : Fr h₀ L sh m) (N : News h₀ L sh news) (Nd : (news.map (·.1)).Nodup)
    (k : ∀ h' tk D ex' vs n, Fr h₀ L h' m → News h₀ L h' (ex' ++ news) → ((ex' ++ news).map (·.1)).Nodup → (D, ({ cls := .type "tuple", data := .seq (List.toArray vs) n } : Obj)) ∈ ex' → All2 (IntTab ex') vs baseTab → Q (.ref D) (Shared.mk h' sg sd tk so)) :
    wpAny (model prog w) A (call (.ref 523) []) Q E (Shared.mk sh sg sd stk so) := by
  refine' call_fn (binds := []) C F N ?h1 ?h2 ?h3 ?h4 ?h5 ?h6 ?h7 ?h8 ?_
  k_extra "o m side"
  walk1
  walk1
  with_reducible refine' EvR.use (R := TupR (TupR (TupR IntR))) (x := baseTab) ?hh F' N' Nd ?_
  case hh =>
    with_reducible refine' EvR.tup monInt.tup.tup ?hb ?hz
    case hz => decide
    unfold baseTab
    repeat' (first | with_reducible exact EvL.nil | with_reducible exact EvR.row | ((with_reducible refine' EvL.cons ?hm ?_ ?_ ?hs); (case hs => rfl); (case hm => first | with_reducible exact monInt.tup | with_reducible exact monInt.tup.tup)) | ((with_reducible refine' EvR.tup monInt.tup ?_ ?hz); (case hz => decide)))
  intro h' tk v ex' F' N' Nd' hv
  obtain ⟨c, vs, n, e, hm, hv⟩ := hv
  subst e
  k_extra "o m un"
  k_extra "o m un"
  exact k _ _ _ _ _ _ kF kN Nd' hm (hv.mono fun _ _ => tup_tab)
end

noncomputable def S00 : St := { kinds := [Str.ofString "document"], spaces := [Str.empty], names := [Str.empty], attrs := [[]], texts := [Str.empty], parents := [-1], children := [[]] }
noncomputable def listIn (S : St) (d r1 r2 : Int) (told : Bool) : St :=
  if (told || ((d.fdiv 8 + r1).fmod 4 != 3)) = true then { S with fmt := putIn S.fmt ((d.fdiv 32 + r2).fmod ((S.fmt.length : Int) + 1)).toNat (cur S) } else S
noncomputable def listEx (S : St) (d kk r3 : Int) : St :=
  if ((d.fdiv 384 + r3).fmod 4 == 1) = true then { S with fmt := putIn S.fmt ((d.fdiv 1536 + kk).fmod ((S.fmt.length : Int) + 1)).toNat (-1) }
  else if ((d.fdiv 384 + r3).fmod 4 == 2) = true then
    { elemS S (Str.ofString "b") sHtml [(Str.ofString "n", Str.ofString "z")] with fmt := putIn S.fmt ((d.fdiv 1536 + kk).fmod ((S.fmt.length : Int) + 1)).toNat (S.kinds.length : Int) }
  else S
noncomputable def hrow (i : Nat) (j : Nat) : Int := (headTab.getD i []).getD j 0
noncomputable def brow (i k j : Nat) : Int := ((baseTab.getD i []).getD k []).getD j 0
noncomputable def headOf (ns : List Int) (i : Nat) : Int := digit ns (13 * (i : Int))
noncomputable def aboveOf (ns : List Int) (i : Nat) : Nat := ((headOf ns i + hrow i 0).fmod 3).toNat
noncomputable def betwOf (ns : List Int) (i : Nat) : Nat := (((headOf ns i).fdiv 3 + hrow i 1).fmod 7).toNat
noncomputable def belowOf (ns : List Int) (i : Nat) : Nat := (((headOf ns i).fdiv 21 + hrow i 2).fmod 3).toNat
noncomputable def fosOf (ns : List Int) (i : Nat) : Bool := ((headOf ns i).fdiv 63 + hrow i 3).fmod 2 == 1
noncomputable def tot (ns : List Int) (i : Nat) : Nat := aboveOf ns i + betwOf ns i + belowOf ns i + 2
noncomputable def digK (ns : List Int) (i k : Nat) : Int := digit ns (13 * (i : Int) + (k : Int) + 1)
noncomputable def S0f (fo : Bool) : St := { S00 with foster := fo }
noncomputable def S0e (fo : Bool) : St := elemS (S0f fo) sHtml sHtml []
noncomputable def S01 (fo : Bool) : St := { insertE (S0e fo) 0 1 with stack := [1] }
noncomputable def growK (ns : List Int) (i k : Nat) (S : St) : St := growS S (digK ns i k) (brow i k 0) k (decide (k < aboveOf ns i))
noncomputable def stepK (ns : List Int) (i k : Nat) (S : St) : St :=
  listEx (listIn (growK ns i k S) (digK ns i k) (brow i k 1) (brow i k 2) (decide (k = aboveOf ns i))) (digK ns i k) k (brow i k 3)
noncomputable def loopS (ns : List Int) (i : Nat) : Nat → St
  | 0 => S01 (fosOf ns i)
  | k + 1 => stepK ns i k (loopS ns i k)
noncomputable def endS (S : St) : St := addN S sText Str.empty Str.empty [] (Str.ofString ".")
noncomputable def builtS (ns : List Int) (i : Nat) : St := insertE (endS (loopS ns i (tot ns i))) (cur (loopS ns i (tot ns i))) ((loopS ns i (tot ns i)).kinds.length : Int)
noncomputable def subjOf (ns : List Int) (i : Nat) : Int := (builtS ns i).stack.getD (aboveOf ns i + 1) 0
noncomputable def blkOf (ns : List Int) (i : Nat) : Int := (builtS ns i).stack.getD (aboveOf ns i + betwOf ns i + 2) 0

theorem ints4 {vs : List Value} {a b c d : Int} (h : IntsAre vs [a, b, c, d]) : ∃ ta tb tc td, vs = [.int a ta, .int b tb, .int c tc, .int d td] := by
  cases h with | cons _ ta h => cases h with | cons _ tb h => cases h with | cons _ tc h => cases h with | cons _ td h => cases h; exact ⟨ta, tb, tc, td, rfl⟩
theorem absorb2 {P : Params} {ex : List (Addr × Obj)} {a : BA} {g : Sg} {h₀ h : Heap} {L : Addr} {p q : Addr × Obj} (N : News h₀ L h (q :: p :: (ex ++ obs P a g))) (Nd : (q.1 :: p.1 :: (ex ++ obs P a g).map (·.1)).Nodup) :
    News h₀ L h (q :: (ex ++ obs P a { g with inn := g.inn ++ [p] })) ∧ (q.1 :: (ex ++ obs P a { g with inn := g.inn ++ [p] }).map (·.1)).Nodup :=
  absorb (ex := q :: ex) (p := p) (News.sub N fun x hx => by
    rcases List.mem_cons.mp hx with rfl | hx
    · exact .tail _ (.head _)
    · rcases List.mem_cons.mp hx with rfl | hx
      · exact .head _
      · exact .tail _ (.tail _ hx)) ((List.Perm.swap q.1 p.1 _).nodup_iff.mpr Nd)
example : True := by
  k_with "o subscriptTail Name Constant ref int" => ((k_here; (with_reducible show wpAny _ _ (subscriptTail _ _ (Value.ref rw) (Value.int _ _)) _ _ _); k_dflt (refine' item_tupleT ?zt_120 ?za_120 ?zb_120 ?zc_120 ?zd_120 ?_; (case zt_120 => exact News.isTup (by k_asm) (by kd_lift)); (case za_120 => decide); (case zb_120 => decide); (case zc_120 => rfl); (case zd_120 => rfl); k_whole)))
  k_with "o k_mem" => (((first | with_reducible refine' in_appM ?_ | with_reducible refine' in_app ?_); (with_reducible refine' List.mem_append_left _ ?_); with_reducible assumption))
  k_with "o m wi" => (((fail_if_success (with_reducible show wpAny _ _ (exec (Stmt.If _ _ _ _) _) _ _ _)); k_extra "o m w"))
  k_with "o m gi" => (repeat' (first | k_extra "o m wi" | (dsimp only; k_extra "o m wi")))
  k_with "o binaryOp FloorDiv int int" => ((k_here; (with_reducible refine floordiv_int ?kfb_124 ?_ (Or.inl (PyProof.noPylong_of_log2 ?kfp_124))); (case kfb_124 => decide); (case kfp_124 => decide)))
  k_with "o binaryOp Mod int int" => ((k_here; (with_reducible refine mod_int' ?kfb_125 ?_); (case kfb_125 => first | omega | decide | omega)))
  trivial
theorem toks_any {M : Model} {A : Around} {α : Type} {t : Sem α} {Q : α → Shared → Prop} {E : Value → Shared → Prop} {h : Heap} {g d tk o} (H : ∀ tk', wpAny M A t Q E ⟨h, g, d, tk', o⟩) : wpAny M A t Q E ⟨h, g, d, tk, o⟩ := H tk
example : True := by
  k_with "o execs cons" => ((k_here; (with_reducible show wpAny _ _ _ _ _ (Shared.mk _ _ _ (_ + 1) _)); refine toks_any ?_; intro tk'))
  k_with "o execs nil" => ((k_here; (with_reducible show wpAny _ _ _ _ _ (Shared.mk _ _ _ (_ + 1) _)); refine toks_any ?_; intro tk'))
  trivial

section
variable {prog : Program} {w : World} {A : Around} {h₀ : Heap} {L : Addr} {m : Str → Option Value} {sh : Heap} {sg : Array GenState} {sd : Drawn} {stk : Nat} {so : OsState} {news ex : List (Addr × Obj)} {a : BA} {S : St} {Q : Value → Shared → Prop} {E : Value → Shared → Prop}
end
namespace E_c_list
noncomputable def St_ (prog : Program) (w : World) (A : Around) (h₀ : Heap) (L : Addr) (m : Str → Option Value) (sh : Heap) (sg : Array GenState) (sd : Drawn) (stk : Nat) (so : OsState) (ex : List (Addr × Obj)) (a : BA) (S : St) (Q : Value → Shared → Prop) (E : Value → Shared → Prop) (d : Int) (kk : Int) (td : Tok) (tk0 : Tok) (rw : Addr) (rn : Nat) (r0 : Int) (r1 : Int) (r2 : Int) (r3 : Int) (n : Nat) : Prop :=
  ∀ (rvs : List Value) (told : Bool) (C : Cx w h₀ A L 3) (F : Fr h₀ L sh m) (W : Bw prog w h₀ L sh ex a S) (H : Sized S n) (hz : S.fmt.length ≤ 1000) (hrw : (rw, ({ cls := .type "tuple", data := .seq (List.toArray rvs) rn } : Obj)) ∈ ex) (hri : IntsAre rvs [r0, r1, r2, r3]) (hk0 : 0 ≤ kk) (hk1 : kk ≤ 100) (k : ∀ h' tk ex', Fr h₀ L h' m → Bw prog w h₀ L h' (ex' ++ ex) a (listEx (listIn S d r1 r2 told) d kk r3) → Q .none (Shared.mk h' sg sd tk so)), wpAny (model prog w) A (call (.ref 537) [.ref a.b, .int d td, .ref rw, .int kk tk0, .bool told]) Q E (Shared.mk sh sg sd stk so)
noncomputable def v : CV × Int × Int × Tok × Tok × Addr × Nat × Int × Int × Int × Int × Nat := @Classical.epsilon _ ⟨(cv0, default, default, default, default, default, default, default, default, default, default, default)⟩ fun v => ¬ St_ v.1.prog v.1.w v.1.A v.1.h₀ v.1.L v.1.m v.1.sh v.1.sg v.1.sd v.1.stk v.1.so v.1.ex v.1.a v.1.S v.1.Q v.1.E v.2.1 v.2.2.1 v.2.2.2.1 v.2.2.2.2.1 v.2.2.2.2.2.1 v.2.2.2.2.2.2.1 v.2.2.2.2.2.2.2.1 v.2.2.2.2.2.2.2.2.1 v.2.2.2.2.2.2.2.2.2.1 v.2.2.2.2.2.2.2.2.2.2.1 v.2.2.2.2.2.2.2.2.2.2.2
@[irreducible] noncomputable def prog : Program := v.1.prog
@[irreducible] noncomputable def w : World := v.1.w
@[irreducible] noncomputable def A : Around := v.1.A
@[irreducible] noncomputable def h₀ : Heap := v.1.h₀
@[irreducible] noncomputable def L : Addr := v.1.L
@[irreducible] noncomputable def m : Str → Option Value := v.1.m
@[irreducible] noncomputable def sh : Heap := v.1.sh
@[irreducible] noncomputable def sg : Array GenState := v.1.sg
@[irreducible] noncomputable def sd : Drawn := v.1.sd
@[irreducible] noncomputable def stk : Nat := v.1.stk
@[irreducible] noncomputable def so : OsState := v.1.so
@[irreducible] noncomputable def ex : List (Addr × Obj) := v.1.ex
@[irreducible] noncomputable def a : BA := v.1.a
@[irreducible] noncomputable def S : St := v.1.S
@[irreducible] noncomputable def Q : Value → Shared → Prop := v.1.Q
@[irreducible] noncomputable def E : Value → Shared → Prop := v.1.E
@[irreducible] noncomputable def d : Int := v.2.1
@[irreducible] noncomputable def kk : Int := v.2.2.1
@[irreducible] noncomputable def td : Tok := v.2.2.2.1
@[irreducible] noncomputable def tk0 : Tok := v.2.2.2.2.1
@[irreducible] noncomputable def rw : Addr := v.2.2.2.2.2.1
@[irreducible] noncomputable def rn : Nat := v.2.2.2.2.2.2.1
@[irreducible] noncomputable def r0 : Int := v.2.2.2.2.2.2.2.1
@[irreducible] noncomputable def r1 : Int := v.2.2.2.2.2.2.2.2.1
@[irreducible] noncomputable def r2 : Int := v.2.2.2.2.2.2.2.2.2.1
@[irreducible] noncomputable def r3 : Int := v.2.2.2.2.2.2.2.2.2.2.1
@[irreducible] noncomputable def n : Nat := v.2.2.2.2.2.2.2.2.2.2.2
theorem core : St_ prog w A h₀ L m sh sg sd stk so ex a S Q E d kk td tk0 rw rn r0 r1 r2 r3 n := by
  intro rvs told C F W H hz hrw hri hk0 hk1 k
  obtain ⟨g, N, Nd, V⟩ := W
  obtain ⟨s0, s1, s2, s3, rfl⟩ := ints4 hri
  refine' call_fn (binds := [bd "builder" (.ref a.b), bd "digit" (.int d td), bd "row" (.ref rw), bd "k" (.int kk tk0), bd "is_told" (.bool told)]) C F N ?h1 ?h2 ?h3 ?h4 ?h5 ?h6 ?h7 ?h8 ?_
  k_extra "o m side"
  k_extra "o m gi"
  refine mono_cut (fun f s₂ => ∀ G : Flow → Shared → Prop, (∀ h' tk', (Fr hG L' h' (fun y => List.lookup y [bd "items" (.ref a.fi), bd "is_told" (.bool told), bd "k" (.int kk tk0), bd "row" (.ref rw), bd "digit" (.int d td), bd "builder" (.ref a.b)])) → (Bw prog w hG L' h' ex a (listIn S d r1 r2 told)) → G .next (Shared.mk h' sg sd tk' so)) → G f s₂) ?_ ?_
  · intro P hP
    have p0 := Int.fmod_nonneg_of_pos (d.fdiv 32 + r2) (b := (S.fmt.length : Int) + 1) (by k_extra "o m oz")
    have p1 := Int.fmod_lt_of_pos (d.fdiv 32 + r2) (b := (S.fmt.length : Int) + 1) (by k_extra "o m oz")
    have hfl := V.fi.length
    have hst := H.st
    by_cases hc : (d.fdiv 8 + r1).fmod 4 = 3
    · cases told
      · have e : listIn S d r1 r2 false = S := by unfold listIn; rw [if_neg (by rw [hc]; decide)]
        rw [e] at hP
        walk1
        k_extra "o m go"
        exact hP _ _ fun G kk => kk _ _ F' ⟨_, N', Nd, V⟩
      · have e : listIn S d r1 r2 true = { S with fmt := putIn S.fmt ((d.fdiv 32 + r2).fmod ((S.fmt.length : Int) + 1)).toNat (cur S) } := by unfold listIn; rw [Bool.true_or, if_pos rfl]
        rw [e] at hP
        clear e
        walk1
        k_extra "o m go"
        refine c_kcurrent (ex := ex) (S := S) (CC.mono (by decide)) F' ⟨_, N', Nd, V⟩ (by k_extra "o m oz") ?_
        clear V Nd N' F'
        intro h' tk u v F' W' hv
        replace hv : v = cur S := hv
        subst hv
        k_extra "o m open"
        have hfl := V.fi.length
        k_extra "o m go"
        exact hP _ _ fun G kk => kk _ _ F' ⟨_, N', Nd, { V with fi := ints_putIn _ V.fi }⟩
    · have e : listIn S d r1 r2 told = { S with fmt := putIn S.fmt ((d.fdiv 32 + r2).fmod ((S.fmt.length : Int) + 1)).toNat (cur S) } := by
        unfold listIn; rw [if_pos (by rw [Bool.or_eq_true]; right; simpa using hc)]
      rw [e] at hP
      clear e
      cases told
      all_goals
        walk1
        k_extra "o m go"
        refine c_kcurrent (ex := ex) (S := S) (CC.mono (by decide)) F' ⟨_, N', Nd, V⟩ (by k_extra "o m oz") ?_
        clear V Nd N' F'
        intro h' tk u v F' W' hv
        replace hv : v = cur S := hv
        subst hv
        k_extra "o m open"
        have hfl := V.fi.length
        k_extra "o m go"
        exact hP _ _ fun G kk => kk _ _ F' ⟨_, N', Nd, { V with fi := ints_putIn _ V.fi }⟩
  · intro f s₂ hX
    refine hX _ ?_
    clear hX
    intro h' tk' F' W'
    have hz1 : (listIn S d r1 r2 told).fmt.length ≤ 1001 := by unfold listIn; split <;> (try simp only [length_putIn]) <;> k_extra "o m oz"
    have H1 : Sized (listIn S d r1 r2 told) n := by
      unfold listIn
      split
      · exact ⟨⟨H.ln.ki, H.ln.sp, H.ln.na, H.ln.ar, H.ln.te, H.ln.pa, H.ln.ch, H.ln.hn⟩, H.n2, H.st, by simp only [length_putIn]; k_extra "o m oz", H.co, H.nk, H.az⟩
      · exact H
    clear V Nd N' H
    generalize listIn S d r1 r2 told = S1 at k W' hz1 H1
    k_extra "o m open"
    have p0 := Int.fmod_nonneg_of_pos (d.fdiv 1536 + kk) (b := (S1.fmt.length : Int) + 1) (by k_extra "o m oz")
    have p1 := Int.fmod_lt_of_pos (d.fdiv 1536 + kk) (b := (S1.fmt.length : Int) + 1) (by k_extra "o m oz")
    have hfl := V.fi.length
    k_extra "o m gi"
    by_cases h1 : (d.fdiv 384 + r3).fmod 4 = 1
    · have e : listEx S1 d kk r3 = { S1 with fmt := putIn S1.fmt ((d.fdiv 1536 + kk).fmod ((S1.fmt.length : Int) + 1)).toNat (-1) } := by unfold listEx; rw [if_pos (by rw [h1]; rfl)]
      rw [e] at k
      k_extra "o m go"
      exact k _ _ [] kF ⟨_, kN, Nd, { V with fi := ints_putIn _ V.fi }⟩
    · by_cases h2 : (d.fdiv 384 + r3).fmod 4 = 2
      · have e : listEx S1 d kk r3 = { elemS S1 (Str.ofString "b") sHtml [(Str.ofString "n", Str.ofString "z")] with fmt := putIn S1.fmt ((d.fdiv 1536 + kk).fmod ((S1.fmt.length : Int) + 1)).toNat (S1.kinds.length : Int) } := by unfold listEx; rw [if_neg (by simpa using h1), if_pos (by rw [h2]; rfl)]
        rw [e] at k
        k_extra "o m go"
        obtain ⟨N2, Nd2⟩ := absorb2 N' Nd
        refine c_elem (ex := _ :: ex) (vs := [_]) (ps := [(Str.ofString "n", Str.ofString "z")]) (CC.mono (by decide)) F' ⟨_, N2, Nd2, V.inn _, ⟨⟨_, _, _, _, rfl, List.mem_append_right _ (.head _)⟩, trivial⟩⟩ H1.ln H1.n2 (.tup (.head _)) (by simp) H1.co H1.nk ?_
        clear V Nd N' F' N2 Nd2
        intro h' tk u v F' W' e2
        rw [← H1.ln.ki] at e2
        subst e2
        have ef := elem_fmt S1 (Str.ofString "b") sHtml [(Str.ofString "n", Str.ofString "z")]
        simp only [← ef] at p0 p1 k hz1
        replace W' : Bw prog w hG L' h' _ a (elemS S1 (Str.ofString "b") sHtml [(Str.ofString "n", Str.ofString "z")]) := W'
        clear ef e
        generalize elemS S1 (Str.ofString "b") sHtml [(Str.ofString "n", Str.ofString "z")] = S2 at p0 p1 k hz1 W'
        k_extra "o m open"
        have hfl := V.fi.length
        k_extra "o m go"
        exact k _ _ [_] kF ⟨_, kN, Nd, { V with fi := ints_putIn _ V.fi }⟩
      · have e : listEx S1 d kk r3 = S1 := by unfold listEx; rw [if_neg (by simpa using h1), if_neg (by simpa using h2)]
        rw [e] at k
        k_extra "o m go"
        exact k _ _ [] kF ⟨_, kN, Nd, V⟩
theorem all (v : CV × Int × Int × Tok × Tok × Addr × Nat × Int × Int × Int × Int × Nat) : St_ v.1.prog v.1.w v.1.A v.1.h₀ v.1.L v.1.m v.1.sh v.1.sg v.1.sd v.1.stk v.1.so v.1.ex v.1.a v.1.S v.1.Q v.1.E v.2.1 v.2.2.1 v.2.2.2.1 v.2.2.2.2.1 v.2.2.2.2.2.1 v.2.2.2.2.2.2.1 v.2.2.2.2.2.2.2.1 v.2.2.2.2.2.2.2.2.1 v.2.2.2.2.2.2.2.2.2.1 v.2.2.2.2.2.2.2.2.2.2.1 v.2.2.2.2.2.2.2.2.2.2.2 := eps_all ⟨v⟩ (P := fun v => St_ v.1.prog v.1.w v.1.A v.1.h₀ v.1.L v.1.m v.1.sh v.1.sg v.1.sd v.1.stk v.1.so v.1.ex v.1.a v.1.S v.1.Q v.1.E v.2.1 v.2.2.1 v.2.2.2.1 v.2.2.2.2.1 v.2.2.2.2.2.1 v.2.2.2.2.2.2.1 v.2.2.2.2.2.2.2.1 v.2.2.2.2.2.2.2.2.1 v.2.2.2.2.2.2.2.2.2.1 v.2.2.2.2.2.2.2.2.2.2.1 v.2.2.2.2.2.2.2.2.2.2.2) (by with_unfolding_all exact core) v
end E_c_list
section
variable {prog : Program} {w : World} {A : Around} {h₀ : Heap} {L : Addr} {m : Str → Option Value} {sh : Heap} {sg : Array GenState} {sd : Drawn} {stk : Nat} {so : OsState} {news ex : List (Addr × Obj)} {a : BA} {S : St} {Q : Value → Shared → Prop} {E : Value → Shared → Prop}
theorem c_list {d kk : Int} {td tk0 : Tok} {rw : Addr} {rvs : List Value} {rn : Nat} {r0 r1 r2 r3 : Int} {told : Bool} {n : Nat} (C : Cx w h₀ A L 3) (F : Fr h₀ L sh m) (W : Bw prog w h₀ L sh ex a S) (H : Sized S n)
    (hz : S.fmt.length ≤ 1000) (hrw : (rw, ({ cls := .type "tuple", data := .seq (List.toArray rvs) rn } : Obj)) ∈ ex) (hri : IntsAre rvs [r0, r1, r2, r3]) (hk0 : 0 ≤ kk) (hk1 : kk ≤ 100)
    (k : ∀ h' tk ex', Fr h₀ L h' m → Bw prog w h₀ L h' (ex' ++ ex) a (listEx (listIn S d r1 r2 told) d kk r3) → Q .none (Shared.mk h' sg sd tk so)) :
    wpAny (model prog w) A (call (.ref 537) [.ref a.b, .int d td, .ref rw, .int kk tk0, .bool told]) Q E (Shared.mk sh sg sd stk so) :=
  E_c_list.all (⟨prog, w, A, h₀, L, m, sh, sg, sd, stk, so, ex, cv0.news, a, S, Q, E⟩, d, kk, td, tk0, rw, rn, r0, r1, r2, r3, n) rvs told C F W H hz hrw hri hk0 hk1 k
end

theorem absorbG {P : Params} {pre ex : List (Addr × Obj)} {a : BA} {g : Sg} {h₀ h : Heap} {L : Addr} {p : Addr × Obj} (N : News h₀ L h (pre ++ p :: (ex ++ obs P a g))) (Nd : ((pre ++ p :: (ex ++ obs P a g)).map (·.1)).Nodup) :
    News h₀ L h (pre ++ (ex ++ obs P a { g with inn := g.inn ++ [p] })) ∧ ((pre ++ (ex ++ obs P a { g with inn := g.inn ++ [p] })).map (·.1)).Nodup := by
  have pm : List.Perm (pre ++ p :: (ex ++ obs P a g)) (pre ++ (ex ++ obs P a { g with inn := g.inn ++ [p] })) :=
    (perm_inn p ex (headO P a g) (a.ch, listOf (refsOf1 g.kids).toArray g.e8) (a.co, g.co) g.kids g.inn).append_left pre
  exact ⟨News.sub N fun q hq => pm.mem_iff.mpr hq, (pm.map _).nodup_iff.mp Nd⟩

theorem call_fnC {prog : Program} {w : World} {A : Around} {h₀ : Heap} {L : Addr} {m : Str → Option Value} {d : Nat} {sh : Heap} {sg : Array GenState} {sd : Drawn} {stk : Nat} {so : OsState} {news : List (Addr × Obj)}
    {name qual : Str} {params : Arguments} {body : List Stmt} {scope : Scope} {dV kV doc pm cdv ct oc : Value} {an od : Option Addr} {osl : Array (Option Value)} {f : Addr} {pos : List Value} {kw : List (Str × Value)} {binds : List (Str × Value)}
    {Q : Value → Shared → Prop} {E : Value → Shared → Prop}
    (C : Cx w h₀ A L (d + 1)) (F : Fr h₀ L sh m) (N : News h₀ L sh news)
    (ho : (hd.heap_1_1 w.params).lookup f = some ⟨oc, od, .func (fnOf name qual params body scope dV kV doc pm an cdv ct), osl⟩)
    (hcd : codeIn (hd.heap_1_1 w.params) cdv qual = true)
    (hbind : ∀ h : Heap, (hd.heap_1_1 w.params).In h → sh = h → BindsTo (Shared.mk sh sg sd stk so) (fnOf name qual params body scope dV kV doc pm an cdv ct) ⟨pos, kw⟩ binds)
    (hkind : (binds.all fun y => scope.names.lookup y.1 == some .local || scope.names.lookup y.1 == some .cell) = true)
    (hnd : ((cellsFrom 0 scope.names []).map (·.1)).Nodup)
    (hco : scope.isCoroutine = false) (hgen : scope.isGenerator = false) (hk : scope.kind = .function)
    (h : ∀ g L' h₁ R loose mean mg mb tk cells, Rets h₀ L m g L' Q R → Cx w g (A.deeper (envOfC qual scope L' f cdv)) L' d → (hd.heap_1_1 w.params).In g → Top hd.view_1_2 loose mean mg mb g → (A.deeper (envOfC qual scope L' f cdv)).handled = none →
      Fr g L' h₁ (bindL (envOfC qual scope L' f cdv).kindOf binds fun _ => none) → News g L' h₁ (cells ++ news) →
      CellsAre (bindC (envOfC qual scope L' f cdv).kindOf binds fun _ => none) (cellsFrom (L' + 1) scope.names []) cells →
      (∀ b o, h₀.get? b = some o → g.get? b = some o) → (∀ p ∈ news, p.1 < L') →
      wpAny (model prog w) (A.deeper (envOfC qual scope L' f cdv)) (execs body (envOfC qual scope L' f cdv))
        R (fun _ _ => False) (Shared.mk h₁ sg sd tk so)) :
    wpAny (model prog w) A (call (.ref f) pos kw) Q E (Shared.mk sh sg sd stk so) := by
  obtain ⟨A₀, base, outer, env, loose, mean, mg, mb, C⟩ := C
  refine wpAny_call (callX_cells C.B F N C.T.nolimit C.hA C.hf C.hk ((C.X.keeps F.keep) _ _ ho) rfl (codeRec_of (C.X.keeps F.keep) hcd) ?_ (hbind _ (C.X.keeps F.keep) rfl) (kindsX hkind) hnd ?_ hco hgen hk)
  · have := C.room
    show A.depth < 1000
    first | lia | omega
  · intro g L' h₁ tk cells _ F' N' Y B' st lt
    refine wpAny_mono (h g L' h₁ (fun fl s' => LeaveK h₀ L m g (fun r s' => match r with | .ok (.ret v) => Q v s' | .ok _ => False | .error e => E e s') (match fl with | .ret v => v | _ => .none) s') loose mean mg mb tk cells ⟨?_, ?_⟩ ⟨A, base, _, envOfC qual scope L' f cdv, loose, mean, mg, mb, ⟨B', C.X.keeps st, C.T.keeps st, ?_, rfl, hk, ?_, ?_, ?_⟩⟩ (C.X.keeps st) (C.T.keeps st) ?_ F' N' Y st lt) (fun _ _ x => x) (fun _ _ x => x.elim)
    · exact fun v s' m' news' F₁ N₁ k => ⟨L', m', news', F₁, N₁, k⟩
    · exact fun s' m' news' F₁ N₁ k => ⟨L', m', news', F₁, N₁, k⟩
    · simp only [Around.deeper, C.hA, Option.map_some]
    · have := C.room; simp only [Around.deeper]; (first | lia | omega)
    · have := C.units; simp only [Around.deeper]; (first | lia | omega)
    · exact C.hh
    · exact C.hh

theorem News.drop2 {h₀ h : Heap} {L : Addr} {x y : Addr × Obj} {l : List (Addr × Obj)} (N : News h₀ L h (x :: y :: l)) : News h₀ L h (x :: l) := fun q hq => N q (by
  rcases List.mem_cons.mp hq with rfl | hq
  · exact .head _
  · exact .tail _ (.tail _ hq))
theorem nodup_drop2 {x y : Addr} {l : List Addr} (h : (x :: y :: l).Nodup) : (x :: l).Nodup := by
  rw [List.nodup_cons, List.nodup_cons] at h
  rw [List.nodup_cons]
  exact ⟨fun hm => h.1 (.tail _ hm), h.2.2⟩
theorem pick2_0 {x y : Value} {c : Int} (h : c = 0) : (slicePick [x, y].toArray none (some (1 + c)) none).toList = [x] := by subst h; rfl
theorem pick2_1 {x y : Value} {c : Int} (h : c = 1) : (slicePick [x, y].toArray none (some (1 + c)) none).toList = [x, y] := by subst h; rfl
example : True := by
  k_with "o subscriptTail Name Slice ref ref" => ((k_here; (with_reducible show wpAny _ _ (subscriptTail _ (PySem.Expr.Slice _ _ none _) (Value.ref _) (Value.ref _)) _ _ _); k_dflt (refine' kmk_slice_lit ?yyF_128 ?yyN_128 ?yyl_128 ?yyp_128 ?yyq_128 ?yye_128 ?_ ?yys_128 ?yyt_128 ?yyz_128; (case yyF_128 => k_asm); (case yyN_128 => k_asm); (case yyl_128 => exact News.isList (by k_asm) (by k_extra "o mem")); (case yyp_128 => kmk_part); (case yyq_128 => kmk_part); (case yye_128 => first | exact pick2_0 (by assumption) | exact pick2_1 (by assumption)); (case yys_128 => with_unfolding_all rfl); (case yyt_128 => kmk_pure); (case yyz_128 => exact Nat.le_of_ble_eq_true rfl)); intro D' h' F' N' l1; (try replace l1 := ne_all l1); k_dflt (try replace Nd := nodup_push l1 Nd); (try dsimp only [List.map] at Nd); (try k_sweep)))
  k_with "o m sl" => (first
      | ((with_reducible refine' kmk_from ?gi_129 ?gx_129); (case gi_129 => l_ints); (case gx_129 => k_extra "o m ar"))
      | ((with_reducible refine' kmk_upto ?gi_129 ?gx_129); (case gi_129 => l_ints); (case gx_129 => k_extra "o m ar"))
      | ((with_reducible refine' kmk_run ?gi_129 ?gx_129 ?gy_129); (case gi_129 => l_ints); (case gx_129 => k_extra "o m ar"); (case gy_129 => k_extra "o m ar"))
      | ((with_reducible refine' kmk_from_neg ?gi_129 ?gx_129); (case gi_129 => l_ints); (case gx_129 => decide))
      | ((with_reducible refine' kmk_upto_neg ?gi_129 ?gx_129); (case gi_129 => l_ints); (case gx_129 => decide))
      | (refine' kmk_from ?gi_129 ?gx_129; (case gi_129 => l_ints); (case gx_129 => k_extra "o m ar"))
      | (refine' kmk_upto ?gi_129 ?gx_129; (case gi_129 => l_ints); (case gx_129 => k_extra "o m ar"))
      | (refine' kmk_run ?gi_129 ?gx_129 ?gy_129; (case gi_129 => l_ints); (case gx_129 => k_extra "o m ar"); (case gy_129 => k_extra "o m ar"))
      | (refine' kmk_from_neg ?gi_129 ?gx_129; (case gi_129 => l_ints); (case gx_129 => decide))
      | (refine' kmk_upto_neg ?gi_129 ?gx_129; (case gi_129 => l_ints); (case gx_129 => decide)))
  k_with "o l_ints" => (with_reducible assumption)
  k_with "o subscriptTail Name Slice ref ref" => ((k_here; (with_reducible show wpAny _ _ (subscriptTail _ (PySem.Expr.Slice _ _ none _) (Value.ref _) (Value.ref _)) _ _ _); k_dflt (refine' kmk_slice_ints ?yyF_131 ?yyN_131 ?yyl_131 ?yyp_131 ?yyq_131 ?yyi_131 ?yym_131 ?yyc_131 ?_ ?yys_131 ?yyt_131 ?yyz_131; (case yyF_131 => k_asm); (case yyN_131 => k_asm); (case yyl_131 => exact News.isList (by k_asm) (by k_extra "o mem")); (case yyp_131 => kmk_part); (case yyq_131 => kmk_part); (case yyi_131 => l_ints); (case yym_131 => k_extra "o m sl"); (case yyc_131 => exact rfl); (case yys_131 => with_unfolding_all rfl); (case yyt_131 => kmk_pure); (case yyz_131 => (refine kmk_sz (by l_ints) ?_; rw [sizeLine_eq]; k_extra "o m ar"))); intro D' ws' h' F' N' l1 hI' hC' hL'; (try replace l1 := ne_all l1); k_dflt (try replace Nd := nodup_push l1 Nd); (try dsimp only [List.map] at Nd); (try k_sweep)))
  trivial
inductive CTurn {σ : Type} (h₀ : Heap) (L : Addr) (m : Str → Option Value) (sg : Array GenState) (sd : Drawn) (so : OsState) (I : Addr) (oI : Obj) (C : Addr) (oC : Obj) (D : Addr) (ys : List Value) (nf : σ → List (Addr × Obj)) (K : Value → σ → Prop) (y : Value) (s₂ : Shared) : Prop
  | mk (c : σ) (h : Heap) (tk : Nat) (e : s₂ = Shared.mk h sg sd tk so) (F : Fr h₀ L h m) (N : News h₀ L h ((I, oI) :: (C, oC) :: (D, LCg.lst ys) :: nf c)) (Nd : (I :: C :: D :: (nf c).map (·.1)).Nodup) (hk : K y c) : CTurn h₀ L m sg sd so I oI C oC D ys nf K y s₂
theorem off3_of {I C D : Addr} {l : List (Addr × Obj)} (h : (I :: C :: D :: l.map (·.1)).Nodup) : LCg.Off3 I C D l := by
  refine LCg.Off3.of fun p hp => ?_
  have hm : p.1 ∈ l.map (·.1) := List.mem_map.mpr ⟨p, hp, rfl⟩
  rw [List.nodup_cons, List.nodup_cons, List.nodup_cons] at h
  refine ⟨fun e => h.1 ?_, fun e => h.2.1 ?_, fun e => h.2.2.1 ?_⟩
  · rw [← e]; exact .tail _ (.tail _ hm)
  · rw [← e]; exact .tail _ hm
  · rw [← e]; exact hm
theorem nodup_off3 {I C D : Addr} {l : List (Addr × Obj)} (h : LCg.Off3 I C D l) (ne : (@Ne Nat I C) ∧ (@Ne Nat I D) ∧ (@Ne Nat C D)) (hn : (l.map (·.1)).Nodup) : (I :: C :: D :: l.map (·.1)).Nodup := by
  have key : ∀ p ∈ l, p.1 ≠ I ∧ p.1 ≠ C ∧ p.1 ≠ D := h.mem
  have k2 : ∀ x, x ∈ l.map (·.1) → x ≠ I ∧ x ≠ C ∧ x ≠ D := fun x hx => by
    obtain ⟨p, hp, rfl⟩ := List.mem_map.mp hx
    exact key p hp
  refine List.nodup_cons.mpr ⟨fun hm => ?_, List.nodup_cons.mpr ⟨fun hm => ?_, List.nodup_cons.mpr ⟨fun hm => (k2 _ hm).2.2 rfl, hn⟩⟩⟩
  · rcases List.mem_cons.mp hm with e | hm
    · exact ne.1 e
    · rcases List.mem_cons.mp hm with e | hm
      · exact ne.2.1 e
      · exact (k2 _ hm).1 rfl
  · rcases List.mem_cons.mp hm with e | hm
    · exact ne.2.2 e
    · exact (k2 _ hm).2.1 rfl

section
variable {prog : Program} {w : World} {A : Around} {h₀ : Heap} {L : Addr} {m : Str → Option Value} {env : Env} {ct elt : PySem.Expr} {x : Str} {scope : Scope} {cl : List (Str × Addr)} {sh : Heap} {sg : Array GenState} {sd : Drawn} {stk : Nat} {so : OsState} {S : List (Addr × Obj) → Prop} {P : Nat → Value → Prop} {Fin : List Value → List (Addr × Obj) → Prop}

theorem comp_rest {σ : Type} (nf : σ → List (Addr × Obj)) (J : Nat → List Value → σ → Prop) {n : Nat}
    (hS : ∀ i ys c, J i ys c → S (nf c)) (hN : ∀ i ys c, J i ys c → ((nf c).map (·.1)).Nodup)
    (turn : ∀ i v ys c I oI C oC D m₂ h tk (E' : Value → Shared → Prop), i < n → P i v → J i ys c → LCg.NsObj oC m₂ → m₂ x = some v → Fr h₀ L h m → News h₀ L h ((I, oI) :: (C, oC) :: (D, LCg.lst ys) :: nf c) → (I :: C :: D :: (nf c).map (·.1)).Nodup →
      wpAny (model prog w) A (eval elt (compEnvC scope cl C env)) (CTurn h₀ L m sg sd so I oI C oC D ys nf fun y c' => J (i + 1) (ys ++ [y]) c') E' (Shared.mk h sg sd tk so))
    (fin : ∀ ys c, J n ys c → Fin ys (nf c)) {c₀ : σ} (hj : J 0 [] c₀) : LCg.CompRest prog w A h₀ L m env elt x scope cl (Shared.mk sh sg sd stk so) S P Fin n 0 [] (nf c₀) := by
  have key : ∀ (j i : Nat) (ys : List Value) (c : σ), i + j = n → J i ys c → LCg.CompRest prog w A h₀ L m env elt x scope cl (Shared.mk sh sg sd stk so) S P Fin j i ys (nf c) := by
    intro j
    induction j with
    | zero =>
      intro i ys c hi hy
      have e : i = n := by (first | lia | omega)
      subst e
      exact LCg.CompRest.zero (fin ys c hy)
    | succ j ih =>
      intro i ys c hi hy
      refine LCg.CompRest.succ ?_
      intro v I oI C oC D m₂ h tk E' hv hC hx F N off ne
      refine wpAny_mono (turn i v ys c I oI C oC D m₂ h tk E' (by (first | lia | omega)) hv hy hC hx F N (nodup_off3 off ne (hN _ _ _ hy))) (fun y s₂ hq => ?_) fun _ _ e => e
      obtain ⟨c', h', tk', e, F', N', nd', hj'⟩ := hq
      exact ⟨h', tk', nf c', e, F', N', off3_of nd', hS _ _ _ hj', ih (i + 1) _ c' (by (first | lia | omega)) hj'⟩
  exact key n 0 [] c₀ (by (first | lia | omega)) hj

theorem comp_restT {σ : Type} (nf : σ → List (Addr × Obj)) (J : Nat → List Value → σ → Prop) {n : Nat}
    (hS : ∀ i ys c, J i ys c → S (nf c)) (hN : ∀ i ys c, J i ys c → ((nf c).map (·.1)).Nodup)
    (turn : ∀ i v ys c I oI C oC D m₂ h tk (E' : Value → Shared → Prop), i < n → P i v → J i ys c → LCg.NsObj oC m₂ → m₂ x = some v → Fr h₀ L h m → News h₀ L h ((I, oI) :: (C, oC) :: (D, LCg.lst ys) :: nf c) → (I :: C :: D :: (nf c).map (·.1)).Nodup →
      wpAny (model prog w) A (isTrue ct (compEnvC scope cl C env) (eval ct (compEnvC scope cl C env))) (fun b s' => if b = true then
        wpAny (model prog w) A (eval elt (compEnvC scope cl C env)) (CTurn h₀ L m sg sd so I oI C oC D ys nf fun y c' => J (i + 1) (ys ++ [y]) c') E' s'
        else CTurn h₀ L m sg sd so I oI C oC D ys nf (fun _ c' => J (i + 1) ys c') Value.none s') E' (Shared.mk h sg sd tk so))
    (fin : ∀ ys c, J n ys c → Fin ys (nf c)) {c₀ : σ} (hj : J 0 [] c₀) : LCt.CompRestT prog w A h₀ L m env ct elt x scope cl (Shared.mk sh sg sd stk so) S P Fin n 0 [] (nf c₀) := by
  have key : ∀ (j i : Nat) (ys : List Value) (c : σ), i + j = n → J i ys c → LCt.CompRestT prog w A h₀ L m env ct elt x scope cl (Shared.mk sh sg sd stk so) S P Fin j i ys (nf c) := by
    intro j
    induction j with
    | zero =>
      intro i ys c hi hy
      have e : i = n := by (first | lia | omega)
      subst e
      exact LCt.CompRestT.zero (fin ys c hy)
    | succ j ih =>
      intro i ys c hi hy
      refine LCt.CompRestT.succ ?_
      intro v I oI C oC D m₂ h tk E' hv hC hx F N off ne
      refine wpAny_mono (turn i v ys c I oI C oC D m₂ h tk E' (by (first | lia | omega)) hv hy hC hx F N (nodup_off3 off ne (hN _ _ _ hy))) (fun b s₂ hq => ?_) fun _ _ e => e
      cases b with
      | true =>
        simp only [if_true] at hq ⊢
        refine wpAny_mono hq (fun y s₃ hr => ?_) fun _ _ e => e
        obtain ⟨c', h', tk', e, F', N', nd', hj'⟩ := hr
        exact ⟨h', tk', nf c', e, F', N', off3_of nd', hS _ _ _ hj', ih (i + 1) _ c' (by (first | lia | omega)) hj'⟩
      | false =>
        simp only [Bool.false_eq_true, if_false] at hq ⊢
        obtain ⟨c', h', tk', e, F', N', nd', hj'⟩ := hq
        exact ⟨h', tk', nf c', e, F', N', off3_of nd', hS _ _ _ hj', ih (i + 1) _ c' (by (first | lia | omega)) hj'⟩
  exact key n 0 [] c₀ (by (first | lia | omega)) hj
end

example : True := by
  k_with "o m wx" => (((fail_if_success (with_reducible show wpAny _ _ (exec (Stmt.Assign _ (PySem.Expr.IfExp _ _ _ _) _) _) _ _ _)); (fail_if_success (with_reducible show wpAny _ _ (exec (Stmt.Assign _ (PySem.Expr.Subscript (PySem.Expr.List _ _) _ _) _) _) _ _ _)); k_extra "o m wi"))
  k_with "o m gx" => (repeat' (first | k_extra "o m wx" | (dsimp only; k_extra "o m wx")))
  k_with "o m wz" => (((fail_if_success (with_reducible show wpAny _ _ (exec (Stmt.Assign _ _ _) _) _ _ _)); k_extra "o m wi"))
  k_with "o m wy" => (repeat' (first | k_extra "o m wz" | (dsimp only; k_extra "o m wz")))
  trivial
section
variable {prog : Program} {w : World} {A : Around} {h₀ : Heap} {L : Addr} {m : Str → Option Value} {sh : Heap} {sg : Array GenState} {sd : Drawn} {stk : Nat} {so : OsState} {news ex : List (Addr × Obj)} {a : BA} {S : St} {Q : Value → Shared → Prop} {E : Value → Shared → Prop}
end
namespace E_c_grow
noncomputable def St_ (prog : Program) (w : World) (A : Around) (h₀ : Heap) (L : Addr) (m : Str → Option Value) (sh : Heap) (sg : Array GenState) (sd : Drawn) (stk : Nat) (so : OsState) (ex : List (Addr × Obj)) (a : BA) (S : St) (Q : Value → Shared → Prop) (E : Value → Shared → Prop) (d : Int) (kk : Int) (td : Tok) (tk0 : Tok) (rw : Addr) (rn : Nat) (r0 : Int) (r1 : Int) (r2 : Int) (r3 : Int) (n : Nat) : Prop :=
  ∀ (rvs : List Value) (ab : Bool) (C : Cx w h₀ A L 4) (F : Fr h₀ L sh m) (W : Bw prog w h₀ L sh ex a S) (H : Sized S n) (hrw : (rw, ({ cls := .type "tuple", data := .seq (List.toArray rvs) rn } : Obj)) ∈ ex) (hri : IntsAre rvs [r0, r1, r2, r3]) (hk0 : 0 ≤ kk) (hk1 : kk ≤ 100) (hn : n + 10 ≤ 100000) (G : GrowOk S d r0 kk ab) (k : ∀ h' tk ex' u v, Fr h₀ L h' m → Bw prog w h₀ L h' (ex' ++ ex) a (growS S d r0 kk ab) → v = (n : Int) → Q (.int v u) (Shared.mk h' sg sd tk so)), wpAny (model prog w) A (call (.ref 530) [.ref a.b, .int d td, .ref rw, .int kk tk0, .bool ab]) Q E (Shared.mk sh sg sd stk so)
noncomputable def v : CV × Int × Int × Tok × Tok × Addr × Nat × Int × Int × Int × Int × Nat := @Classical.epsilon _ ⟨(cv0, default, default, default, default, default, default, default, default, default, default, default)⟩ fun v => ¬ St_ v.1.prog v.1.w v.1.A v.1.h₀ v.1.L v.1.m v.1.sh v.1.sg v.1.sd v.1.stk v.1.so v.1.ex v.1.a v.1.S v.1.Q v.1.E v.2.1 v.2.2.1 v.2.2.2.1 v.2.2.2.2.1 v.2.2.2.2.2.1 v.2.2.2.2.2.2.1 v.2.2.2.2.2.2.2.1 v.2.2.2.2.2.2.2.2.1 v.2.2.2.2.2.2.2.2.2.1 v.2.2.2.2.2.2.2.2.2.2.1 v.2.2.2.2.2.2.2.2.2.2.2
@[irreducible] noncomputable def prog : Program := v.1.prog
@[irreducible] noncomputable def w : World := v.1.w
@[irreducible] noncomputable def A : Around := v.1.A
@[irreducible] noncomputable def h₀ : Heap := v.1.h₀
@[irreducible] noncomputable def L : Addr := v.1.L
@[irreducible] noncomputable def m : Str → Option Value := v.1.m
@[irreducible] noncomputable def sh : Heap := v.1.sh
@[irreducible] noncomputable def sg : Array GenState := v.1.sg
@[irreducible] noncomputable def sd : Drawn := v.1.sd
@[irreducible] noncomputable def stk : Nat := v.1.stk
@[irreducible] noncomputable def so : OsState := v.1.so
@[irreducible] noncomputable def ex : List (Addr × Obj) := v.1.ex
@[irreducible] noncomputable def a : BA := v.1.a
@[irreducible] noncomputable def S : St := v.1.S
@[irreducible] noncomputable def Q : Value → Shared → Prop := v.1.Q
@[irreducible] noncomputable def E : Value → Shared → Prop := v.1.E
@[irreducible] noncomputable def d : Int := v.2.1
@[irreducible] noncomputable def kk : Int := v.2.2.1
@[irreducible] noncomputable def td : Tok := v.2.2.2.1
@[irreducible] noncomputable def tk0 : Tok := v.2.2.2.2.1
@[irreducible] noncomputable def rw : Addr := v.2.2.2.2.2.1
@[irreducible] noncomputable def rn : Nat := v.2.2.2.2.2.2.1
@[irreducible] noncomputable def r0 : Int := v.2.2.2.2.2.2.2.1
@[irreducible] noncomputable def r1 : Int := v.2.2.2.2.2.2.2.2.1
@[irreducible] noncomputable def r2 : Int := v.2.2.2.2.2.2.2.2.2.1
@[irreducible] noncomputable def r3 : Int := v.2.2.2.2.2.2.2.2.2.2.1
@[irreducible] noncomputable def n : Nat := v.2.2.2.2.2.2.2.2.2.2.2
theorem core : St_ prog w A h₀ L m sh sg sd stk so ex a S Q E d kk td tk0 rw rn r0 r1 r2 r3 n := by
  intro rvs ab C F W H hrw hri hk0 hk1 hn G k
  obtain ⟨g, N, Nd, V⟩ := W
  obtain ⟨s0, s1, s2, s3, rfl⟩ := ints4 hri
  refine' call_fn (binds := [bd "builder" (.ref a.b), bd "digit" (.int d td), bd "row" (.ref rw), bd "k" (.int kk tk0), bd "is_above" (.bool ab)]) C F N ?h1 ?h2 ?h3 ?h4 ?h5 ?h6 ?h7 ?h8 ?_
  k_extra "o m side"
  k_extra "o m gx"
  refine mono_cut (fun f s₂ => ∀ G : Flow → Shared → Prop, (∀ h' tk' Dn vs nn xs, (Fr hG L' h' (fun y => List.lookup y [bd "names" (.ref Dn), bd "tree" (.ref a.t), bd "is_above" (.bool ab), bd "k" (.int kk tk0), bd "row" (.ref rw), bd "digit" (.int d td), bd "builder" (.ref a.b)])) → (News hG L' h' ((Dn, listOf (List.toArray vs) nn) :: (ex ++ obs w.params a g))) → (StrsAre vs xs) → (6 ≤ xs.length) → (xs.length ≤ 8) → (xs.getD ((d + r0).fmod xs.length).toNat Str.empty = growName d r0 ab) → G .next (Shared.mk h' sg sd tk' so)) → G f s₂) ?_ ?_
  · intro P hP
    cases ab
    · k_extra "o m go"
      exact hP _ _ fun G kk => kk _ _ _ _ _ _ F' N' (by assumption) (by decide) (by decide) rfl
    · k_extra "o m go"
      exact hP _ _ fun G kk => kk _ _ _ _ _ _ F' N' (by assumption) (by decide) (by decide) rfl
  · intro f s₂ hX
    refine hX _ ?_
    clear hX
    intro h' tk' Dn vs nn xs F' N' hxs hx6 hx8 hnm
    have p0 := Int.fmod_nonneg_of_pos (d + r0) (b := (xs.length : Int)) (by k_extra "o m oz")
    have p1 := Int.fmod_lt_of_pos (d + r0) (b := (xs.length : Int)) (by k_extra "o m oz")
    k_extra "o m gx"
    simp only [hnm] at F'
    replace N' := News.tl N'
    clear p0 p1 hnm hx6 hx8
    k_extra "o m gx"
    refine mono_cut (fun f s₂ => ∀ G : Flow → Shared → Prop, (∀ h' tk' Dp pvs pn g t, (Fr hG L' h' (fun y => List.lookup y [bd "pairs" (.ref Dp), bd "name" (.str (growName d r0 ab) t), bd "names" (.ref Dn), bd "tree" (.ref a.t), bd "is_above" (.bool ab), bd "k" (.int kk tk0), bd "row" (.ref rw), bd "digit" (.int d td), bd "builder" (.ref a.b)])) → (News hG L' h' ((Dp, listOf (List.toArray pvs) pn) :: (ex ++ obs w.params a g))) → ((Dp :: (ex ++ obs w.params a g).map (·.1)).Nodup) → (Sv prog w a g S) → (All2 (PairAt g.inn) pvs (growPairs d kk)) → G .next (Shared.mk h' sg sd tk' so)) → G f s₂) ?_ ?_
    · intro P hP
      obtain ⟨q1, q2⟩ := And.intro (Int.fmod_nonneg_of_pos (d + kk) (b := 2) (by k_extra "o m oz")) (Int.fmod_lt_of_pos (d + kk) (b := 2) (by k_extra "o m oz"))
      have q3 : (d + kk).fmod 2 = 0 ∨ (d + kk).fmod 2 = 1 := by k_extra "o m oz"
      rcases q3 with hm | hm
      · k_extra "o m go"
        obtain ⟨N1, Nd1⟩ := absorbG (pre := [_, _, _]) N' Nd
        obtain ⟨N2, Nd2⟩ := absorbG (pre := [_, _]) N1 Nd1
        refine hP _ _ fun G kk => kk _ _ _ _ _ _ _ F' (News.drop2 N2) (nodup_drop2 Nd2) ((V.inn _).inn _) ?_
        unfold growPairs
        rw [if_pos hm]
        exact ⟨⟨_, _, _, _, rfl, List.mem_append_left _ (List.mem_append_right _ (.head _))⟩, trivial⟩
      · k_extra "o m go"
        obtain ⟨N1, Nd1⟩ := absorbG (pre := [_, _, _]) N' Nd
        obtain ⟨N2, Nd2⟩ := absorbG (pre := [_, _]) N1 Nd1
        refine hP _ _ fun G kk => kk _ _ _ _ _ _ _ F' (News.drop2 N2) (nodup_drop2 Nd2) ((V.inn _).inn _) ?_
        unfold growPairs
        rw [if_neg (by k_extra "o m oz")]
        exact ⟨⟨_, _, _, _, rfl, List.mem_append_left _ (List.mem_append_right _ (.head _))⟩, ⟨_, _, _, _, rfl, List.mem_append_right _ (.head _)⟩, trivial⟩
    · clear N' F' V Nd N
      intro f s₂ hX
      refine hX _ ?_
      clear hX
      intro h' tk' Dp pvs pn g t F' N' Nd V hp
      have hl : (growPairs d kk).length ≤ 2 := by unfold growPairs; split <;> simp
      have hpl := hp.length
      k_extra "o m wy"
      refine mono_cut (fun f s₂ => ∀ G : Flow → Shared → Prop, (∀ h' tk' u, (Fr hG L' h' (fun y => List.lookup y [bd "node" (.int (n : Int) u), bd "pairs" (.ref Dp), bd "name" (.str (growName d r0 ab) t), bd "names" (.ref Dn), bd "tree" (.ref a.t), bd "is_above" (.bool ab), bd "k" (.int kk tk0), bd "row" (.ref rw), bd "digit" (.int d td), bd "builder" (.ref a.b)])) → (Bw prog w hG L' h' ex a (g1 S d r0 kk ab)) → G .next (Shared.mk h' sg sd tk' so)) → G f s₂) ?_ ?_
      · intro P hP
        k_extra "o m go"
        all_goals
          refine c_elem (ex := _ :: ex) (ps := growPairs d kk) (CC.mono (by decide)) F' ⟨_, N', Nd, V, hp⟩ H.ln H.n2 (.list (.head _)) (by k_extra "o m oz") H.co H.nk ?_
          clear V Nd N' F'
          intro h' tk u v F' W' e
          subst e
          k_extra "o m open"
          k_extra "o m go"
          refine hP _ _ fun G kk => kk _ _ _ F' ⟨_, News.tl N', nd_tl Nd, ?_⟩
          unfold g1 growSpace
          first | (rw [if_pos (by assumption)]; exact V) | (rw [if_neg (by rw [Bool.not_eq_true]; assumption)]; exact V)
      · clear N' F' V Nd
        intro f s₂ hX
        refine hX _ ?_
        clear hX
        intro h' tk' u F' W'
        obtain ⟨n1, H1, hn1, hn2⟩ : ∃ m, Ln (g1 S d r0 kk ab) m ∧ n + 1 ≤ m ∧ m ≤ n + 2 := H.ln.elem H.n2 _ _ _
        have hst : (g1 S d r0 kk ab).stack = S.stack := elem_stack ..
        have hz := H.st
        k_extra "o m open"
        k_extra "o m gi"
        refine c_kcurrent (ex := ex) (S := g1 S d r0 kk ab) (CC.mono (by decide)) F' ⟨_, N', Nd, V⟩ (by rw [hst]; k_extra "o m oz") ?_
        clear V Nd N' F'
        intro h' tk u1 v1 F' W' e1
        rw [hst] at e1
        replace e1 : v1 = cur S := e1
        subst e1
        k_extra "o m open"
        k_extra "o m gi"
        refine c_kcurrent (ex := ex) (S := g1 S d r0 kk ab) (CC.mono (by decide)) F' ⟨_, N', Nd, V⟩ (by rw [hst]; k_extra "o m oz") ?_
        clear V Nd N' F'
        intro h' tk u2 v2 F' W' e2
        rw [hst] at e2
        replace e2 : v2 = cur S := e2
        subst e2
        k_extra "o m open"
        k_extra "o m gi"
        replace F' : Fr hG L' _ (fun y => List.lookup y (bd "up" (.int (gUp S d r0 kk ab) _) :: _)) := F'
        have hch : ∀ c : Int, (⟨#[c.toNat]⟩ : Str) = chrS c := fun _ => rfl
        refine c_text (ex := ex) (S := g1 S d r0 kk ab) (CC.mono (by decide)) F' ⟨_, N', Nd, V⟩ H1 ?_
        clear V Nd N' F'
        intro h' tk u3 v3 F' W' e3
        rw [← H1.ki] at e3
        subst e3
        replace W' : Bw prog w hG L' h' ex a (g2 S d r0 kk ab) := W'
        have H2 : Ln (g2 S d r0 kk ab) (n1 + 1) := H1.addN (by k_extra "o m oz") ..
        have H3 : Ln (g3 S d r0 kk ab) (n1 + 1) := H2.insE _ _
        have H4 : Ln (g4 S d r0 kk ab) (n1 + 1) := H3.insE _ _
        obtain ⟨l1, I1⟩ := G.i1
        obtain ⟨l2, I2⟩ := G.i2
        obtain ⟨l3, I3⟩ := G.i3
        k_extra "o m open"
        k_extra "o m gi"
        refine c_append (ex := ex) (CC.mono (by decide)) F' ⟨_, N', Nd, V⟩ I1 ?_
        clear V Nd N' F'
        intro h' tk F' W'
        replace W' : Bw prog w hG L' h' ex a (g3 S d r0 kk ab) := W'
        k_extra "o m open"
        k_extra "o m gi"
        rw [H.ln.ki] at I2
        refine c_append (ex := ex) (CC.mono (by decide)) F' ⟨_, N', Nd, V⟩ I2 ?_
        clear V Nd N' F'
        intro h' tk F' W'
        rw [← H.ln.ki] at W'
        replace W' : Bw prog w hG L' h' ex a (g4 S d r0 kk ab) := W'
        k_extra "o m open"
        k_extra "o m gi"
        refine mono_cut (fun f s₂ => ∀ G : Flow → Shared → Prop, (∀ h' tk', (Fr hG L' h' (fun y => List.lookup y [bd "up" (.int (gUp S d r0 kk ab) tu'), bd "node" (.int (n : Int) u), bd "pairs" (.ref Dp), bd "name" (.str (growName d r0 ab) t), bd "names" (.ref Dn), bd "tree" (.ref a.t), bd "is_above" (.bool ab), bd "k" (.int kk tk0), bd "row" (.ref rw), bd "digit" (.int d td), bd "builder" (.ref a.b)])) → (Bw prog w hG L' h' ex a (g7 S d r0 kk ab)) → G .next (Shared.mk h' sg sd tk' so)) → G f s₂) ?_ ?_
        · intro P hP
          by_cases hm : (d.fdiv 5 + kk).fmod 2 = 0
          · have e7 : g7 S d r0 kk ab = g6 S d r0 kk ab := if_pos hm
            rw [e7] at hP
            walk1
            k_extra "o m go"
            refine c_text (ex := ex) (S := g4 S d r0 kk ab) (CC.mono (by decide)) F' ⟨_, N', Nd, V⟩ H4 ?_
            clear V Nd N' F'
            intro h' tk u3 v3 F' W' e3
            rw [← H4.ki] at e3
            subst e3
            replace W' : Bw prog w hG L' h' ex a (g5 S d r0 kk ab) := W'
            k_extra "o m open"
            k_extra "o m gi"
            refine c_append (ex := ex) (CC.mono (by decide)) F' ⟨_, N', Nd, V⟩ I3 ?_
            clear V Nd N' F'
            intro h' tk F' W'
            replace W' : Bw prog w hG L' h' ex a (g6 S d r0 kk ab) := W'
            k_extra "o m open"
            k_extra "o m go"
            exact hP _ _ fun G kk => kk _ _ F' ⟨_, N', Nd, V⟩
          · have e7 : g7 S d r0 kk ab = g4 S d r0 kk ab := if_neg hm
            rw [e7] at hP
            walk1
            k_extra "o m go"
            exact hP _ _ fun G kk => kk _ _ F' ⟨_, N', Nd, V⟩
        · clear V Nd N' F'
          intro f s₂ hX
          refine hX _ ?_
          clear hX
          intro h' tk' F' W'
          have st7 : (g7 S d r0 kk ab).stack = S.stack := by
            have s1 : (g4 S d r0 kk ab).stack = S.stack := (((same_insE (g3 S d r0 kk ab) _ _).st).trans (same_insE (g2 S d r0 kk ab) _ _).st).trans hst
            unfold g7
            split
            · exact ((same_insE (g5 S d r0 kk ab) _ _).st).trans s1
            · exact s1
          k_extra "o m open"
          k_extra "o m go"
          refine c_kpush (ex := ex) (CC.mono (by decide)) F' ⟨_, N', Nd, V⟩ (by rw [st7]; k_extra "o m oz") ?_
          clear V Nd N' F'
          intro h' tk F' W'
          k_extra "o m open"
          k_extra "o m go"
          refine k _ _ [] _ _ kF ⟨_, kN, Nd, ?_⟩ rfl
          unfold growS
          rw [← st7, H.ln.ki]
          exact V
theorem all (v : CV × Int × Int × Tok × Tok × Addr × Nat × Int × Int × Int × Int × Nat) : St_ v.1.prog v.1.w v.1.A v.1.h₀ v.1.L v.1.m v.1.sh v.1.sg v.1.sd v.1.stk v.1.so v.1.ex v.1.a v.1.S v.1.Q v.1.E v.2.1 v.2.2.1 v.2.2.2.1 v.2.2.2.2.1 v.2.2.2.2.2.1 v.2.2.2.2.2.2.1 v.2.2.2.2.2.2.2.1 v.2.2.2.2.2.2.2.2.1 v.2.2.2.2.2.2.2.2.2.1 v.2.2.2.2.2.2.2.2.2.2.1 v.2.2.2.2.2.2.2.2.2.2.2 := eps_all ⟨v⟩ (P := fun v => St_ v.1.prog v.1.w v.1.A v.1.h₀ v.1.L v.1.m v.1.sh v.1.sg v.1.sd v.1.stk v.1.so v.1.ex v.1.a v.1.S v.1.Q v.1.E v.2.1 v.2.2.1 v.2.2.2.1 v.2.2.2.2.1 v.2.2.2.2.2.1 v.2.2.2.2.2.2.1 v.2.2.2.2.2.2.2.1 v.2.2.2.2.2.2.2.2.1 v.2.2.2.2.2.2.2.2.2.1 v.2.2.2.2.2.2.2.2.2.2.1 v.2.2.2.2.2.2.2.2.2.2.2) (by with_unfolding_all exact core) v
end E_c_grow
section
variable {prog : Program} {w : World} {A : Around} {h₀ : Heap} {L : Addr} {m : Str → Option Value} {sh : Heap} {sg : Array GenState} {sd : Drawn} {stk : Nat} {so : OsState} {news ex : List (Addr × Obj)} {a : BA} {S : St} {Q : Value → Shared → Prop} {E : Value → Shared → Prop}
theorem c_grow {d kk : Int} {td tk0 : Tok} {rw : Addr} {rvs : List Value} {rn : Nat} {r0 r1 r2 r3 : Int} {n : Nat} {ab : Bool} (C : Cx w h₀ A L 4) (F : Fr h₀ L sh m) (W : Bw prog w h₀ L sh ex a S) (H : Sized S n)
    (hrw : (rw, ({ cls := .type "tuple", data := .seq (List.toArray rvs) rn } : Obj)) ∈ ex) (hri : IntsAre rvs [r0, r1, r2, r3]) (hk0 : 0 ≤ kk) (hk1 : kk ≤ 100) (hn : n + 10 ≤ 100000)
    (G : GrowOk S d r0 kk ab)
    (k : ∀ h' tk ex' u v, Fr h₀ L h' m → Bw prog w h₀ L h' (ex' ++ ex) a (growS S d r0 kk ab) → v = (n : Int) → Q (.int v u) (Shared.mk h' sg sd tk so)) :
    wpAny (model prog w) A (call (.ref 530) [.ref a.b, .int d td, .ref rw, .int kk tk0, .bool ab]) Q E (Shared.mk sh sg sd stk so) :=
  E_c_grow.all (⟨prog, w, A, h₀, L, m, sh, sg, sd, stk, so, ex, cv0.news, a, S, Q, E⟩, d, kk, td, tk0, rw, rn, r0, r1, r2, r3, n) rvs ab C F W H hrw hri hk0 hk1 hn G k
end

noncomputable abbrev Around.mk' (A : Around) (C : Addr) (pos : List Value) : Around := A.under (.builtin "type.__call__" ⟨.ref C :: pos, []⟩)
theorem mk_depth (A : Around) (C : Addr) (pos : List Value) : (Around.mk' A C pos).depth = A.depth + 1 := rfl
theorem mk_units (A : Around) (C : Addr) (pos : List Value) : (Around.mk' A C pos).units = A.units + 1 := by first | rfl | kernel_rfl
theorem mk_frames (A : Around) (C : Addr) (pos : List Value) : (Around.mk' A C pos).frames = A.frames := by cases hA : A.frames <;> (first | exact hA ▸ rfl | (show pushEnvs _ _ = _; rw [hA]; rfl))
theorem mk_handled (A : Around) (C : Addr) (pos : List Value) : (Around.mk' A C pos).handled = A.handled := rfl
noncomputable def InitTo (x : Addr) (Q : Value → Shared → Prop) (r : Result) (s' : Shared) : Prop := match r with
  | .ok (.ret v) => v = .none ∧ Q (.ref x) s'
  | _ => False
structure RetsI (h₀ : Heap) (L : Addr) (m : Str → Option Value) (g : Heap) (L' x : Addr) (Q : Value → Shared → Prop) (R : Flow → Shared → Prop) : Prop where
  off : ∀ s' m' news', Fr g L' s'.heap m' → News g L' s'.heap news' → (Fr h₀ L s'.heap m → News h₀ L s'.heap news' → Q (.ref x) s') → R .next s'
theorem call_init {prog : Program} {w : World} {A : Around} {h₀ : Heap} {L : Addr} {m : Str → Option Value} {d : Nat} {sh : Heap} {sg : Array GenState} {sd : Drawn} {stk : Nat} {so : OsState} {news : List (Addr × Obj)}
    {name qual : Str} {params : Arguments} {body : List Stmt} {scope : Scope} {dV kV doc pm cdv ct oc : Value} {an od : Option Addr} {osl : Array (Option Value)} {C f : Addr} {pos : List Value} {binds : Addr → List (Str × Value)}
    {Q : Value → Shared → Prop} {E : Value → Shared → Prop}
    (X : Cx w h₀ A L (d + 2)) (F : Fr h₀ L sh m) (N : News h₀ L sh news) (Nd : (news.map (·.1)).Nodup)
    (hm : makesIn (hd.heap_1_1 w.params) C = true) (hi : findIn (hd.heap_1_1 w.params) (.ref C) "__init__" = some (some (.ref f))) (hf : isFn (hd.heap_1_1 w.params) (.ref f) = true)
    (ho : (hd.heap_1_1 w.params).lookup f = some ⟨oc, od, .func (fnOf name qual params body scope dV kV doc pm an cdv ct), osl⟩)
    (hcd : codeIn (hd.heap_1_1 w.params) cdv qual = true)
    (hbind : ∀ x (s' : Shared), (hd.heap_1_1 w.params).In s'.heap → BindsTo s' (fnOf name qual params body scope dV kV doc pm an cdv ct) ⟨.ref x :: pos, []⟩ (binds x)) (hloc : ∀ x, ∀ y ∈ binds x, scope.names.lookup y.1 = some .local)
    (hco : scope.isCoroutine = false) (hgen : scope.isGenerator = false) (hk : scope.kind = .function) (hcell : ∀ x ∈ scope.names, x.2 ≠ .cell)
    (h : ∀ x dx g L' h₁ R loose mean mg mb tk, RetsI h₀ L m g L' x Q R → Cx w g ((Around.mk' A C pos).deeper (envOf qual scope L' f cdv)) L' d → (hd.heap_1_1 w.params).In g → Top hd.view_1_2 loose mean mg mb g → ((Around.mk' A C pos).deeper (envOf qual scope L' f cdv)).handled = none →
      Fr g L' h₁ (fun y => (binds x).reverse.lookup y) → News g L' h₁ ((x, instObj C dx) :: (dx, dictOf [] 0) :: news) → (x :: dx :: news.map (·.1)).Nodup → (∀ b o, h₀.get? b = some o → g.get? b = some o) →
      wpAny (model prog w) ((Around.mk' A C pos).deeper (envOf qual scope L' f cdv)) (execs body (envOf qual scope L' f cdv))
        R (fun _ _ => False) (Shared.mk h₁ sg sd tk so)) :
    wpAny (model prog w) A (call (.ref C) pos []) Q E (Shared.mk sh sg sd stk so) := by
  obtain ⟨A₀, base, outer, env, loose, mean, mg, mb, Y⟩ := X
  refine call_cls F Y.X N hm hi hf fun x dx h' F' N' l1 l2 => ?_
  have Nd' : (x :: dx :: news.map (·.1)).Nodup := by
    refine List.nodup_cons.mpr ⟨fun hm => ?_, nodup_push (ne_all l1) Nd⟩
    rcases List.mem_cons.mp hm with e | hm
    · subst e; exact absurd l2 (Nat.lt_irrefl _)
    · obtain ⟨p, hp, e⟩ := List.mem_map.mp hm
      have := l1 p hp
      rw [e] at this
      exact absurd (Nat.lt_trans this l2) (Nat.lt_irrefl _)
  have C' : (Around.mk' A C pos).frames = some (env :: outer) := (mk_frames A C pos).trans Y.hA
  have e1 := mk_depth A C pos
  have e2 := mk_units A C pos
  refine callX_plain (cl := []) (A₀ := A₀) (base := base) (outer := outer) (env := env) Y.B F' N' Y.T.nolimit C' Y.hf Y.hk ((Y.X.keeps F'.keep) _ _ ho) rfl (codeRec_of (Y.X.keeps F'.keep) hcd) ?_ (hbind x _ (Y.X.keeps F'.keep)) (hloc x) ?_ hcell hco hgen hk
  · have := Y.room
    show (Around.mk' A C pos).depth < 1000
    first | lia | omega
  · intro g L' h₁ FG F'' N'' B' st _
    refine wpAny_mono (h x dx g L' h₁ (fun fl s' => LeaveK h₀ L m g (InitTo x Q) (match fl with | .ret v => v | _ => .none) s') loose mean mg mb _ ⟨?_⟩ ⟨Around.mk' A C pos, base, _, envOf qual scope L' f cdv, loose, mean, mg, mb, ⟨B', Y.X.keeps st, Y.T.keeps st, ?_, rfl, hk, ?_, ?_, ?_⟩⟩ (Y.X.keeps st) (Y.T.keeps st) ?_ F'' N'' Nd' st) (fun fl s' hl => ?_) (fun _ _ x => x.elim)
    · exact fun s' m' news' F₁ N₁ k => ⟨L', m', news', F₁, N₁, fun a b => ⟨rfl, k a b⟩⟩
    · simp only [Around.deeper, C', Option.map_some]
    · have := Y.room; simp only [Around.deeper]; (first | lia | omega)
    · have := Y.units; simp only [Around.deeper]; (first | lia | omega)
    · exact Y.hh
    · exact Y.hh
    · obtain ⟨L₁, m', news', F₁, N₁, k⟩ := hl
      refine ⟨L₁, m', news', F₁, N₁, fun a b => ?_⟩
      have z := k a b
      unfold InitTo at z
      exact z
inductive Pull {α : Type} (x : α) : List α → List α → Prop
  | here {l} : Pull x (x :: l) l
  | there {y l l'} : Pull x l l' → Pull x (y :: l) (y :: l')
theorem Pull.perm {α : Type} {x : α} {l l' : List α} (h : Pull x l l') : List.Perm l (x :: l') := by
  induction h with
  | here => exact .refl _
  | there _ ih => exact (List.Perm.cons _ ih).trans (.swap ..)
theorem perm_pull {α : Type} {x : α} {l l' r : List α} (h : Pull x l l') (p : List.Perm l' r) : List.Perm l (x :: r) := h.perm.trans (.cons _ p)
theorem perm_news {h₀ h : Heap} {L : Addr} {l l' : List (Addr × Obj)} (p : List.Perm l l') (N : News h₀ L h l) (Nd : (l.map (·.1)).Nodup) : News h₀ L h l' ∧ (l'.map (·.1)).Nodup :=
  ⟨News.sub N fun _ hq => p.mem_iff.mpr hq, (p.map _).nodup_iff.mp Nd⟩
example : True := by
  k_with "o m init" => ((
      case h0 => k_is
      case h1 => k_is
      case h2 => k_is
      case h3 => k_is
      case h4 => k_is
      case h5 => intro x s' hX; first | exact BindsTo.of_eq rfl | exact binds_K hX rfl (by k_is) rfl rfl rfl
      case h6 => intro x; exact locs rfl
      case h7 => exact rfl
      case h8 => exact rfl
      case h9 => exact rfl
      case h10 => decide
      intro x dx hG L' h₁ R _ _ _ _ tk' hR CC X T hh F' N' Nd st
      (try dsimp only [List.reverse, List.reverseAux] at F')))
  trivial
inductive LAt (d : Addr) (o o' : Obj) : List (Addr × Obj) → List (Addr × Obj) → Prop
  | here {r} : LAt d o o' ((d, o) :: r) ((d, o') :: r)
  | there {p r r'} : LAt d o o' r r' → LAt d o o' (p :: r) (p :: r')
theorem LAt.mem {d : Addr} {o o' : Obj} {l l' : List (Addr × Obj)} (h : LAt d o o' l l') : (d, o) ∈ l := by
  induction h with
  | here => exact .head _
  | there _ ih => exact .tail _ ih
theorem LAt.upd {d : Addr} {o o' : Obj} {l l' : List (Addr × Obj)} (h : LAt d o o' l l') (Nd : (l.map (·.1)).Nodup) : Upd d o o' l l' := by
  induction h with
  | here => exact upd_hd Nd
  | there h ih => exact upd_tl Nd h.mem (ih (nd_tl Nd))
inductive LAtF (d : Addr) (o : Obj) : List (Addr × Obj) → (Obj → List (Addr × Obj)) → Prop
  | here {r} : LAtF d o ((d, o) :: r) (fun o' => (d, o') :: r)
  | there {p r g} : LAtF d o r g → LAtF d o (p :: r) (fun o' => p :: g o')
theorem LAtF.mem {d : Addr} {o : Obj} {l : List (Addr × Obj)} {g : Obj → List (Addr × Obj)} (h : LAtF d o l g) : (d, o) ∈ l := by
  induction h with
  | here => exact .head _
  | there _ ih => exact .tail _ ih
theorem LAtF.upd {d : Addr} {o : Obj} {l : List (Addr × Obj)} {g : Obj → List (Addr × Obj)} (h : LAtF d o l g) (Nd : (l.map (·.1)).Nodup) : UpdF d o l g := by
  induction h with
  | here => exact uf_hd Nd
  | there h ih => exact uf_tl Nd h.mem (ih (nd_tl Nd))
example : True := by
  k_with "o m lat" => (first | with_reducible exact LAt.here | ((with_reducible refine' LAt.there ?zlat_137); (case zlat_137 => k_extra "o m lat")))
  k_with "o m latf" => (first | with_reducible exact LAtF.here | ((with_reducible refine' LAtF.there ?zlat_138); (case zlat_138 => k_extra "o m latf")))
  k_with "o k_upd" => (exact LAt.upd (by k_extra "o m lat") (by (try simp only [List.map_cons]); assumption))
  k_with "o k_updF" => (exact LAtF.upd (by k_extra "o m latf") (by (try simp only [List.map_cons]); assumption))
  k_with "o eval Dict nil nil" => ((k_here; k_dflt (refine' newDict_K ?zk1_141 ?zk2_141 (TopRead.nolimit (by k_asm)) ?_; (case zk1_141 => k_asm); (case zk2_141 => k_asm); k_whole); intro d' h' o' F' N' l1 lo' hs' fs' hi' fi'; (try replace l1 := ne_all l1); k_dflt (try replace Nd := nodup_push l1 Nd); (try dsimp only [List.map] at Nd); (try k_sweep)))
  k_with "o m pull" => (first | with_reducible exact Pull.here | ((with_reducible refine' Pull.there ?zpl_142); (case zpl_142 => k_extra "o m pull")))
  k_with "o m perm" => (first | exact List.Perm.refl _ | ((refine' perm_pull ?zpa_143 ?zpb_143); (case zpa_143 => k_extra "o m pull"); (case zpb_143 => k_extra "o m perm")))
  trivial

example : True := by
  k_with "o m len" => (with_reducible exact (rfl : List.length ([] ++ [_]) = 1))
  k_with "o m ar" => (exact Nat.le_of_ble_eq_true rfl)
  trivial
section
variable {prog : Program} {w : World} {A : Around} {h₀ : Heap} {L : Addr} {m : Str → Option Value} {sh : Heap} {sg : Array GenState} {sd : Drawn} {stk : Nat} {so : OsState} {news ex : List (Addr × Obj)} {a : BA} {S : St} {Q : Value → Shared → Prop} {E : Value → Shared → Prop}
theorem c_kinit {t : Addr} (X : Cx w h₀ A L 2) (F : Fr h₀ L sh m) (N : News h₀ L sh news) (Nd : (news.map (·.1)).Nodup)
    (k : ∀ h' tk x dx si ta tb, Fr h₀ L h' m → News h₀ L h' ((si, listOf [].toArray 0) :: (x, instObj 303 dx) :: (dx, dictOf [en w.params "tree" ta (.ref t), en w.params "items" tb (.ref si)] 2) :: news) →
      (si :: x :: dx :: news.map (·.1)).Nodup → Q (.ref x) (Shared.mk h' sg sd tk so)) :
    wpAny (model prog w) A (call (.ref 303) [.ref t]) Q E (Shared.mk sh sg sd stk so) := by
  refine' call_init (binds := fun x => [bd "self" (.ref x), bd "tree" (.ref t)]) X F N Nd ?h0 ?h1 ?h2 ?h3 ?h4 ?h5 ?h6 ?h7 ?h8 ?h9 ?h10 ?_
  k_extra "o m init"
  k_extra "o m go"
  exact k _ _ _ _ _ _ _ kF kN Nd
theorem c_finit {t : Addr} (X : Cx w h₀ A L 2) (F : Fr h₀ L sh m) (N : News h₀ L sh news) (Nd : (news.map (·.1)).Nodup)
    (k : ∀ h' tk x dx si ta tb, Fr h₀ L h' m → News h₀ L h' ((si, listOf [].toArray 0) :: (x, instObj 191 dx) :: (dx, dictOf [en w.params "tree" ta (.ref t), en w.params "items" tb (.ref si)] 2) :: news) →
      (si :: x :: dx :: news.map (·.1)).Nodup → Q (.ref x) (Shared.mk h' sg sd tk so)) :
    wpAny (model prog w) A (call (.ref 191) [.ref t]) Q E (Shared.mk sh sg sd stk so) := by
  refine' call_init (binds := fun x => [bd "self" (.ref x), bd "tree" (.ref t)]) X F N Nd ?h0 ?h1 ?h2 ?h3 ?h4 ?h5 ?h6 ?h7 ?h8 ?h9 ?h10 ?_
  k_extra "o m init"
  k_extra "o m go"
  exact k _ _ _ _ _ _ _ kF kN Nd
end
namespace E_c_adddoc
noncomputable def St_ (prog : Program) (w : World) (A : Around) (h₀ : Heap) (L : Addr) (m : Str → Option Value) (sh : Heap) (sg : Array GenState) (sd : Drawn) (stk : Nat) (so : OsState) (news : List (Addr × Obj)) (Q : Value → Shared → Prop) (E : Value → Shared → Prop) (x : Addr) (dx : Addr) (ki : Addr) (sp : Addr) (na : Addr) (ar : Addr) (te : Addr) (pa : Addr) (ch : Addr) (co : Addr) (oc : Obj) (t0 : Tok) (t1 : Tok) (t2 : Tok) (t3 : Tok) (t4 : Tok) (t5 : Tok) (t6 : Tok) (t7 : Tok) (t8 : Tok) : Prop :=
  ∀ (C : Cx w h₀ A L 1) (F : Fr h₀ L sh m) (N : News h₀ L sh ((co, oc) :: (ch, listOf [].toArray 0) :: (pa, listOf [].toArray 0) :: (te, listOf [].toArray 0) :: (ar, listOf [].toArray 0) :: (na, listOf [].toArray 0) :: (sp, listOf [].toArray 0) :: (ki, listOf [].toArray 0) :: (x, instObj 420 dx) ::
      (dx, dictOf [en w.params "kinds" t0 (.ref ki), en w.params "spaces" t1 (.ref sp), en w.params "names" t2 (.ref na), en w.params "attrs" t3 (.ref ar), en w.params "texts" t4 (.ref te), en w.params "parents" t5 (.ref pa), en w.params "children" t6 (.ref ch), en w.params "contents" t7 (.ref co)] 8) :: news)) (Nd : (co :: ch :: pa :: te :: ar :: na :: sp :: ki :: x :: dx :: news.map (·.1)).Nodup) (k : ∀ h' tk u v kd at' c t9, Fr h₀ L h' m → News h₀ L h' ((kd, listOf [].toArray 0) :: (at', listOf [].toArray c) :: (co, oc) :: (ch, listOf [.ref kd].toArray 1) :: (pa, listOf [.int (-1) t9].toArray 1) :: (te, listOf [.str Str.empty 612].toArray 1) :: (ar, listOf [.ref at'].toArray 1) :: (na, listOf [.str Str.empty 611].toArray 1) :: (sp, listOf [.str Str.empty 610].toArray 1) :: (ki, listOf [.str (Str.ofString "document") t8].toArray 1) :: (x, instObj 420 dx) ::
      (dx, dictOf [en w.params "kinds" t0 (.ref ki), en w.params "spaces" t1 (.ref sp), en w.params "names" t2 (.ref na), en w.params "attrs" t3 (.ref ar), en w.params "texts" t4 (.ref te), en w.params "parents" t5 (.ref pa), en w.params "children" t6 (.ref ch), en w.params "contents" t7 (.ref co)] 8) :: news) →
      (kd :: at' :: co :: ch :: pa :: te :: ar :: na :: sp :: ki :: x :: dx :: news.map (·.1)).Nodup → Q (.int v u) (Shared.mk h' sg sd tk so)), wpAny (model prog w) A (call (.ref 330) [.ref x, .str (Str.ofString "document") t8]) Q E (Shared.mk sh sg sd stk so)
noncomputable def v : CV × Addr × Addr × Addr × Addr × Addr × Addr × Addr × Addr × Addr × Addr × Obj × Tok × Tok × Tok × Tok × Tok × Tok × Tok × Tok × Tok := @Classical.epsilon _ ⟨(cv0, default, default, default, default, default, default, default, default, default, default, default, default, default, default, default, default, default, default, default, default)⟩ fun v => ¬ St_ v.1.prog v.1.w v.1.A v.1.h₀ v.1.L v.1.m v.1.sh v.1.sg v.1.sd v.1.stk v.1.so v.1.news v.1.Q v.1.E v.2.1 v.2.2.1 v.2.2.2.1 v.2.2.2.2.1 v.2.2.2.2.2.1 v.2.2.2.2.2.2.1 v.2.2.2.2.2.2.2.1 v.2.2.2.2.2.2.2.2.1 v.2.2.2.2.2.2.2.2.2.1 v.2.2.2.2.2.2.2.2.2.2.1 v.2.2.2.2.2.2.2.2.2.2.2.1 v.2.2.2.2.2.2.2.2.2.2.2.2.1 v.2.2.2.2.2.2.2.2.2.2.2.2.2.1 v.2.2.2.2.2.2.2.2.2.2.2.2.2.2.1 v.2.2.2.2.2.2.2.2.2.2.2.2.2.2.2.1 v.2.2.2.2.2.2.2.2.2.2.2.2.2.2.2.2.1 v.2.2.2.2.2.2.2.2.2.2.2.2.2.2.2.2.2.1 v.2.2.2.2.2.2.2.2.2.2.2.2.2.2.2.2.2.2.1 v.2.2.2.2.2.2.2.2.2.2.2.2.2.2.2.2.2.2.2.1 v.2.2.2.2.2.2.2.2.2.2.2.2.2.2.2.2.2.2.2.2
@[irreducible] noncomputable def prog : Program := v.1.prog
@[irreducible] noncomputable def w : World := v.1.w
@[irreducible] noncomputable def A : Around := v.1.A
@[irreducible] noncomputable def h₀ : Heap := v.1.h₀
@[irreducible] noncomputable def L : Addr := v.1.L
@[irreducible] noncomputable def m : Str → Option Value := v.1.m
@[irreducible] noncomputable def sh : Heap := v.1.sh
@[irreducible] noncomputable def sg : Array GenState := v.1.sg
@[irreducible] noncomputable def sd : Drawn := v.1.sd
@[irreducible] noncomputable def stk : Nat := v.1.stk
@[irreducible] noncomputable def so : OsState := v.1.so
@[irreducible] noncomputable def news : List (Addr × Obj) := v.1.news
@[irreducible] noncomputable def Q : Value → Shared → Prop := v.1.Q
@[irreducible] noncomputable def E : Value → Shared → Prop := v.1.E
@[irreducible] noncomputable def x : Addr := v.2.1
@[irreducible] noncomputable def dx : Addr := v.2.2.1
@[irreducible] noncomputable def ki : Addr := v.2.2.2.1
@[irreducible] noncomputable def sp : Addr := v.2.2.2.2.1
@[irreducible] noncomputable def na : Addr := v.2.2.2.2.2.1
@[irreducible] noncomputable def ar : Addr := v.2.2.2.2.2.2.1
@[irreducible] noncomputable def te : Addr := v.2.2.2.2.2.2.2.1
@[irreducible] noncomputable def pa : Addr := v.2.2.2.2.2.2.2.2.1
@[irreducible] noncomputable def ch : Addr := v.2.2.2.2.2.2.2.2.2.1
@[irreducible] noncomputable def co : Addr := v.2.2.2.2.2.2.2.2.2.2.1
@[irreducible] noncomputable def oc : Obj := v.2.2.2.2.2.2.2.2.2.2.2.1
@[irreducible] noncomputable def t0 : Tok := v.2.2.2.2.2.2.2.2.2.2.2.2.1
@[irreducible] noncomputable def t1 : Tok := v.2.2.2.2.2.2.2.2.2.2.2.2.2.1
@[irreducible] noncomputable def t2 : Tok := v.2.2.2.2.2.2.2.2.2.2.2.2.2.2.1
@[irreducible] noncomputable def t3 : Tok := v.2.2.2.2.2.2.2.2.2.2.2.2.2.2.2.1
@[irreducible] noncomputable def t4 : Tok := v.2.2.2.2.2.2.2.2.2.2.2.2.2.2.2.2.1
@[irreducible] noncomputable def t5 : Tok := v.2.2.2.2.2.2.2.2.2.2.2.2.2.2.2.2.2.1
@[irreducible] noncomputable def t6 : Tok := v.2.2.2.2.2.2.2.2.2.2.2.2.2.2.2.2.2.2.1
@[irreducible] noncomputable def t7 : Tok := v.2.2.2.2.2.2.2.2.2.2.2.2.2.2.2.2.2.2.2.1
@[irreducible] noncomputable def t8 : Tok := v.2.2.2.2.2.2.2.2.2.2.2.2.2.2.2.2.2.2.2.2
theorem core : St_ prog w A h₀ L m sh sg sd stk so news Q E x dx ki sp na ar te pa ch co oc t0 t1 t2 t3 t4 t5 t6 t7 t8 := by
  intro C F N Nd k
  refine' call_fn (binds := [bd "self" (.ref x), bd "kind" (.str (Str.ofString "document") t8), bd "space" (.str (Str.ofString "") 610), bd "name" (.str (Str.ofString "") 611), bd "attrs" (.ref 322), bd "text" (.str (Str.ofString "") 612)]) C F N ?h1 ?h2 ?h3 ?h4 ?h5 ?h6 ?h7 ?h8 ?_
  k_extra "o m side"
  have hb : SeqAt w.params [] 322 [] := .top (n := 0) (by k_is)
  k_extra "o m go"
  exact k _ _ _ _ _ _ _ _ kF kN Nd
theorem all (v : CV × Addr × Addr × Addr × Addr × Addr × Addr × Addr × Addr × Addr × Addr × Obj × Tok × Tok × Tok × Tok × Tok × Tok × Tok × Tok × Tok) : St_ v.1.prog v.1.w v.1.A v.1.h₀ v.1.L v.1.m v.1.sh v.1.sg v.1.sd v.1.stk v.1.so v.1.news v.1.Q v.1.E v.2.1 v.2.2.1 v.2.2.2.1 v.2.2.2.2.1 v.2.2.2.2.2.1 v.2.2.2.2.2.2.1 v.2.2.2.2.2.2.2.1 v.2.2.2.2.2.2.2.2.1 v.2.2.2.2.2.2.2.2.2.1 v.2.2.2.2.2.2.2.2.2.2.1 v.2.2.2.2.2.2.2.2.2.2.2.1 v.2.2.2.2.2.2.2.2.2.2.2.2.1 v.2.2.2.2.2.2.2.2.2.2.2.2.2.1 v.2.2.2.2.2.2.2.2.2.2.2.2.2.2.1 v.2.2.2.2.2.2.2.2.2.2.2.2.2.2.2.1 v.2.2.2.2.2.2.2.2.2.2.2.2.2.2.2.2.1 v.2.2.2.2.2.2.2.2.2.2.2.2.2.2.2.2.2.1 v.2.2.2.2.2.2.2.2.2.2.2.2.2.2.2.2.2.2.1 v.2.2.2.2.2.2.2.2.2.2.2.2.2.2.2.2.2.2.2.1 v.2.2.2.2.2.2.2.2.2.2.2.2.2.2.2.2.2.2.2.2 := eps_all ⟨v⟩ (P := fun v => St_ v.1.prog v.1.w v.1.A v.1.h₀ v.1.L v.1.m v.1.sh v.1.sg v.1.sd v.1.stk v.1.so v.1.news v.1.Q v.1.E v.2.1 v.2.2.1 v.2.2.2.1 v.2.2.2.2.1 v.2.2.2.2.2.1 v.2.2.2.2.2.2.1 v.2.2.2.2.2.2.2.1 v.2.2.2.2.2.2.2.2.1 v.2.2.2.2.2.2.2.2.2.1 v.2.2.2.2.2.2.2.2.2.2.1 v.2.2.2.2.2.2.2.2.2.2.2.1 v.2.2.2.2.2.2.2.2.2.2.2.2.1 v.2.2.2.2.2.2.2.2.2.2.2.2.2.1 v.2.2.2.2.2.2.2.2.2.2.2.2.2.2.1 v.2.2.2.2.2.2.2.2.2.2.2.2.2.2.2.1 v.2.2.2.2.2.2.2.2.2.2.2.2.2.2.2.2.1 v.2.2.2.2.2.2.2.2.2.2.2.2.2.2.2.2.2.1 v.2.2.2.2.2.2.2.2.2.2.2.2.2.2.2.2.2.2.1 v.2.2.2.2.2.2.2.2.2.2.2.2.2.2.2.2.2.2.2.1 v.2.2.2.2.2.2.2.2.2.2.2.2.2.2.2.2.2.2.2.2) (by with_unfolding_all exact core) v
end E_c_adddoc
section
variable {prog : Program} {w : World} {A : Around} {h₀ : Heap} {L : Addr} {m : Str → Option Value} {sh : Heap} {sg : Array GenState} {sd : Drawn} {stk : Nat} {so : OsState} {news ex : List (Addr × Obj)} {a : BA} {S : St} {Q : Value → Shared → Prop} {E : Value → Shared → Prop}
theorem c_adddoc {x dx ki sp na ar te pa ch co : Addr} {oc : Obj} {t0 t1 t2 t3 t4 t5 t6 t7 t8 : Tok} (C : Cx w h₀ A L 1) (F : Fr h₀ L sh m)
    (N : News h₀ L sh ((co, oc) :: (ch, listOf [].toArray 0) :: (pa, listOf [].toArray 0) :: (te, listOf [].toArray 0) :: (ar, listOf [].toArray 0) :: (na, listOf [].toArray 0) :: (sp, listOf [].toArray 0) :: (ki, listOf [].toArray 0) :: (x, instObj 420 dx) ::
      (dx, dictOf [en w.params "kinds" t0 (.ref ki), en w.params "spaces" t1 (.ref sp), en w.params "names" t2 (.ref na), en w.params "attrs" t3 (.ref ar), en w.params "texts" t4 (.ref te), en w.params "parents" t5 (.ref pa), en w.params "children" t6 (.ref ch), en w.params "contents" t7 (.ref co)] 8) :: news))
    (Nd : (co :: ch :: pa :: te :: ar :: na :: sp :: ki :: x :: dx :: news.map (·.1)).Nodup)
    (k : ∀ h' tk u v kd at' c t9, Fr h₀ L h' m → News h₀ L h' ((kd, listOf [].toArray 0) :: (at', listOf [].toArray c) :: (co, oc) :: (ch, listOf [.ref kd].toArray 1) :: (pa, listOf [.int (-1) t9].toArray 1) :: (te, listOf [.str Str.empty 612].toArray 1) :: (ar, listOf [.ref at'].toArray 1) :: (na, listOf [.str Str.empty 611].toArray 1) :: (sp, listOf [.str Str.empty 610].toArray 1) :: (ki, listOf [.str (Str.ofString "document") t8].toArray 1) :: (x, instObj 420 dx) ::
      (dx, dictOf [en w.params "kinds" t0 (.ref ki), en w.params "spaces" t1 (.ref sp), en w.params "names" t2 (.ref na), en w.params "attrs" t3 (.ref ar), en w.params "texts" t4 (.ref te), en w.params "parents" t5 (.ref pa), en w.params "children" t6 (.ref ch), en w.params "contents" t7 (.ref co)] 8) :: news) →
      (kd :: at' :: co :: ch :: pa :: te :: ar :: na :: sp :: ki :: x :: dx :: news.map (·.1)).Nodup → Q (.int v u) (Shared.mk h' sg sd tk so)) :
    wpAny (model prog w) A (call (.ref 330) [.ref x, .str (Str.ofString "document") t8]) Q E (Shared.mk sh sg sd stk so) :=
  E_c_adddoc.all (⟨prog, w, A, h₀, L, m, sh, sg, sd, stk, so, cv0.ex, news, cv0.a, cv0.S, Q, E⟩, x, dx, ki, sp, na, ar, te, pa, ch, co, oc, t0, t1, t2, t3, t4, t5, t6, t7, t8) C F N Nd k
end
namespace E_c_tinit
noncomputable def St_ (prog : Program) (w : World) (A : Around) (h₀ : Heap) (L : Addr) (m : Str → Option Value) (sh : Heap) (sg : Array GenState) (sd : Drawn) (stk : Nat) (so : OsState) (news : List (Addr × Obj)) (Q : Value → Shared → Prop) (E : Value → Shared → Prop) : Prop :=
  ∀ (X : Cx w h₀ A L 3) (F : Fr h₀ L sh m) (N : News h₀ L sh news) (Nd : (news.map (·.1)).Nodup) (k : ∀ h' tk kd at' co ch pa te ar na sp ki x dx oc c t8 t9 t0 t1 t2 t3 t4 t5 t6 t7, Fr h₀ L h' m → News h₀ L h' ((kd, listOf [].toArray 0) :: (at', listOf [].toArray c) :: (co, oc) :: (ch, listOf [.ref kd].toArray 1) :: (pa, listOf [.int (-1) t9].toArray 1) :: (te, listOf [.str Str.empty 612].toArray 1) :: (ar, listOf [.ref at'].toArray 1) :: (na, listOf [.str Str.empty 611].toArray 1) :: (sp, listOf [.str Str.empty 610].toArray 1) :: (ki, listOf [.str (Str.ofString "document") t8].toArray 1) :: (x, instObj 420 dx) ::
      (dx, dictOf [en w.params "kinds" t0 (.ref ki), en w.params "spaces" t1 (.ref sp), en w.params "names" t2 (.ref na), en w.params "attrs" t3 (.ref ar), en w.params "texts" t4 (.ref te), en w.params "parents" t5 (.ref pa), en w.params "children" t6 (.ref ch), en w.params "contents" t7 (.ref co)] 8) :: news) →
      (kd :: at' :: co :: ch :: pa :: te :: ar :: na :: sp :: ki :: x :: dx :: news.map (·.1)).Nodup → IDict prog w oc [] → (co == sysModules) = false → Q (.ref x) (Shared.mk h' sg sd tk so)), wpAny (model prog w) A (call (.ref 420) []) Q E (Shared.mk sh sg sd stk so)
noncomputable def v : CV := @Classical.epsilon _ ⟨(cv0)⟩ fun v => ¬ St_ v.prog v.w v.A v.h₀ v.L v.m v.sh v.sg v.sd v.stk v.so v.news v.Q v.E
@[irreducible] noncomputable def prog : Program := v.prog
@[irreducible] noncomputable def w : World := v.w
@[irreducible] noncomputable def A : Around := v.A
@[irreducible] noncomputable def h₀ : Heap := v.h₀
@[irreducible] noncomputable def L : Addr := v.L
@[irreducible] noncomputable def m : Str → Option Value := v.m
@[irreducible] noncomputable def sh : Heap := v.sh
@[irreducible] noncomputable def sg : Array GenState := v.sg
@[irreducible] noncomputable def sd : Drawn := v.sd
@[irreducible] noncomputable def stk : Nat := v.stk
@[irreducible] noncomputable def so : OsState := v.so
@[irreducible] noncomputable def news : List (Addr × Obj) := v.news
@[irreducible] noncomputable def Q : Value → Shared → Prop := v.Q
@[irreducible] noncomputable def E : Value → Shared → Prop := v.E
theorem core : St_ prog w A h₀ L m sh sg sd stk so news Q E := by
  intro X F N Nd k
  refine' call_init (binds := fun x => [bd "self" (.ref x)]) X F N Nd ?h0 ?h1 ?h2 ?h3 ?h4 ?h5 ?h6 ?h7 ?h8 ?h9 ?h10 ?_
  k_extra "o m init"
  k_extra "o m go"
  refine c_adddoc (CC.mono (by decide)) (by assumption) (by assumption) (by assumption) ?_
  intro h' tk u v kd at' c t9 F' N' Nd
  k_extra "o m go"
  exact k _ _ _ _ _ _ _ _ _ _ _ _ _ _ _ _ _ _ _ _ _ _ _ _ _ _ kF kN Nd ⟨_, ‹Obj.IsDictOf (intKind prog w) _ []›, ‹FlatPairs PyData.int [] []›⟩ (by assumption)
theorem all (v : CV) : St_ v.prog v.w v.A v.h₀ v.L v.m v.sh v.sg v.sd v.stk v.so v.news v.Q v.E := eps_all ⟨v⟩ (P := fun v => St_ v.prog v.w v.A v.h₀ v.L v.m v.sh v.sg v.sd v.stk v.so v.news v.Q v.E) (by with_unfolding_all exact core) v
end E_c_tinit
section
variable {prog : Program} {w : World} {A : Around} {h₀ : Heap} {L : Addr} {m : Str → Option Value} {sh : Heap} {sg : Array GenState} {sd : Drawn} {stk : Nat} {so : OsState} {news ex : List (Addr × Obj)} {a : BA} {S : St} {Q : Value → Shared → Prop} {E : Value → Shared → Prop}
theorem c_tinit (X : Cx w h₀ A L 3) (F : Fr h₀ L sh m) (N : News h₀ L sh news) (Nd : (news.map (·.1)).Nodup)
    (k : ∀ h' tk kd at' co ch pa te ar na sp ki x dx oc c t8 t9 t0 t1 t2 t3 t4 t5 t6 t7, Fr h₀ L h' m → News h₀ L h' ((kd, listOf [].toArray 0) :: (at', listOf [].toArray c) :: (co, oc) :: (ch, listOf [.ref kd].toArray 1) :: (pa, listOf [.int (-1) t9].toArray 1) :: (te, listOf [.str Str.empty 612].toArray 1) :: (ar, listOf [.ref at'].toArray 1) :: (na, listOf [.str Str.empty 611].toArray 1) :: (sp, listOf [.str Str.empty 610].toArray 1) :: (ki, listOf [.str (Str.ofString "document") t8].toArray 1) :: (x, instObj 420 dx) ::
      (dx, dictOf [en w.params "kinds" t0 (.ref ki), en w.params "spaces" t1 (.ref sp), en w.params "names" t2 (.ref na), en w.params "attrs" t3 (.ref ar), en w.params "texts" t4 (.ref te), en w.params "parents" t5 (.ref pa), en w.params "children" t6 (.ref ch), en w.params "contents" t7 (.ref co)] 8) :: news) →
      (kd :: at' :: co :: ch :: pa :: te :: ar :: na :: sp :: ki :: x :: dx :: news.map (·.1)).Nodup → IDict prog w oc [] → (co == sysModules) = false → Q (.ref x) (Shared.mk h' sg sd tk so)) :
    wpAny (model prog w) A (call (.ref 420) []) Q E (Shared.mk sh sg sd stk so) :=
  E_c_tinit.all (⟨prog, w, A, h₀, L, m, sh, sg, sd, stk, so, cv0.ex, news, cv0.a, cv0.S, Q, E⟩) X F N Nd k
end

theorem bw_make {prog : Program} {w : World} {h₀ h : Heap} {L : Addr} {ex : List (Addr × Obj)} {pe er ow mo fi f df si kk dk kd at' co ch pa te ar na sp ki t dt x dx : Addr} {oo oc : Obj} {c : Nat} {t8 t9 t0 t1 t2 t3 t4 t5 t6 t7 u1 u2 u3 u4 q0 q1 q2 q3 q4 q5 q6 q7 q8 q9 q10 q11 q12 q13 q14 q15 q16 q17 q18 q19 q20 q50 : Tok} {v0 v5 v6 v7 v8 v9 v10 v11 v13 v14 v16 v17 v18 v19 v20 : Value}
    (N : News h₀ L h ((pe, listOf [].toArray 0) :: (er, listOf [].toArray 0) :: (ow, oo) :: (mo, listOf [].toArray 0) :: (fi, listOf [].toArray 0) :: (f, instObj 191 df) :: (df, dictOf [en w.params "tree" u3 (.ref t), en w.params "items" u4 (.ref fi)] 2) :: (si, listOf [].toArray 0) :: (kk, instObj 303 dk) :: (dk, dictOf [en w.params "tree" u1 (.ref t), en w.params "items" u2 (.ref si)] 2) ::
      (kd, listOf [].toArray 0) :: (at', listOf [].toArray c) :: (co, oc) :: (ch, listOf [.ref kd].toArray 1) :: (pa, listOf [.int (-1) t9].toArray 1) :: (te, listOf [.str Str.empty 612].toArray 1) :: (ar, listOf [.ref at'].toArray 1) :: (na, listOf [.str Str.empty 611].toArray 1) :: (sp, listOf [.str Str.empty 610].toArray 1) :: (ki, listOf [.str (Str.ofString "document") t8].toArray 1) :: (t, instObj 420 dt) ::
      (dt, dictOf [en w.params "kinds" t0 (.ref ki), en w.params "spaces" t1 (.ref sp), en w.params "names" t2 (.ref na), en w.params "attrs" t3 (.ref ar), en w.params "texts" t4 (.ref te), en w.params "parents" t5 (.ref pa), en w.params "children" t6 (.ref ch), en w.params "contents" t7 (.ref co)] 8) :: (x, instObj 498 dx) :: (dx, dictOf [en w.params "rules" q0 (v0), en w.params "tree" q1 (.ref t), en w.params "stack" q2 (.ref kk), en w.params "formatting" q3 (.ref f), en w.params "mode" q4 (.str (Str.ofString "initial") q50), en w.params "original" q5 (v5), en w.params "modes" q6 (v6), en w.params "head" q7 (v7), en w.params "form" q8 (v8), en w.params "owners" q9 (v9), en w.params "is_frameset_ok" q10 (v10), en w.params "is_scripting" q11 (v11), en w.params "is_foster" q12 (.bool false), en w.params "context" q13 (v13), en w.params "quirks" q14 (v14), en w.params "errors" q15 (.ref er), en w.params "pending" q16 (v16), en w.params "wish" q17 (v17), en w.params "is_skipping" q18 (v18), en w.params "is_acknowledged" q19 (v19), en w.params "is_done" q20 (v20)] 21) :: ex))
    (Nd : (pe :: er :: ow :: mo :: fi :: f :: df :: si :: kk :: dk :: kd :: at' :: co :: ch :: pa :: te :: ar :: na :: sp :: ki :: t :: dt :: x :: dx :: ex.map (·.1)).Nodup) (hco : IDict prog w oc []) (hsys : (co == sysModules) = false) :
    ∃ a ex', a.b = x ∧ Bw prog w h₀ L h (ex' ++ ex) a S00 := by
  let a : BA := ⟨x, dx, t, dt, kk, dk, f, df, er, si, fi, ki, sp, na, ar, te, pa, ch, co, fun i => [q0, q1, q2, q3, q4, q5, q6, q7, q8, q9, q10, q11, q12, q13, q14, q15, q16, q17, q18, q19, q20, t0, t1, t2, t3, t4, t5, t6, t7, u1, u2, u3, u4].getD i q50, fun i => [v0, .none, .none, .none, .none, v5, v6, v7, v8, v9, v10, v11, .none, v13, v14, .none, v16, v17, v18, v19, v20].getD i .none⟩
  let g : Sg := { fo := false, si := [], fi := [], ki := [.str (Str.ofString "document") t8], sp := [.str Str.empty 610], na := [.str Str.empty 611], ar := [.ref at'], te := [.str Str.empty 612], pa := [.int (-1) t9], e0 := 0, e1 := 0, e2 := 1, e3 := 1, e4 := 1, e5 := 1, e6 := 1, e7 := 1, e8 := 1, co := oc, kids := [(kd, listOf [].toArray 0)], inn := [(at', listOf [].toArray c)] }
  have pm : List.Perm ((pe, listOf [].toArray 0) :: (er, listOf [].toArray 0) :: (ow, oo) :: (mo, listOf [].toArray 0) :: (fi, listOf [].toArray 0) :: (f, instObj 191 df) :: (df, dictOf [en w.params "tree" u3 (.ref t), en w.params "items" u4 (.ref fi)] 2) :: (si, listOf [].toArray 0) :: (kk, instObj 303 dk) :: (dk, dictOf [en w.params "tree" u1 (.ref t), en w.params "items" u2 (.ref si)] 2) ::
      (kd, listOf [].toArray 0) :: (at', listOf [].toArray c) :: (co, oc) :: (ch, listOf [.ref kd].toArray 1) :: (pa, listOf [.int (-1) t9].toArray 1) :: (te, listOf [.str Str.empty 612].toArray 1) :: (ar, listOf [.ref at'].toArray 1) :: (na, listOf [.str Str.empty 611].toArray 1) :: (sp, listOf [.str Str.empty 610].toArray 1) :: (ki, listOf [.str (Str.ofString "document") t8].toArray 1) :: (t, instObj 420 dt) ::
      (dt, dictOf [en w.params "kinds" t0 (.ref ki), en w.params "spaces" t1 (.ref sp), en w.params "names" t2 (.ref na), en w.params "attrs" t3 (.ref ar), en w.params "texts" t4 (.ref te), en w.params "parents" t5 (.ref pa), en w.params "children" t6 (.ref ch), en w.params "contents" t7 (.ref co)] 8) :: (x, instObj 498 dx) :: (dx, dictOf [en w.params "rules" q0 (v0), en w.params "tree" q1 (.ref t), en w.params "stack" q2 (.ref kk), en w.params "formatting" q3 (.ref f), en w.params "mode" q4 (.str (Str.ofString "initial") q50), en w.params "original" q5 (v5), en w.params "modes" q6 (v6), en w.params "head" q7 (v7), en w.params "form" q8 (v8), en w.params "owners" q9 (v9), en w.params "is_frameset_ok" q10 (v10), en w.params "is_scripting" q11 (v11), en w.params "is_foster" q12 (.bool false), en w.params "context" q13 (v13), en w.params "quirks" q14 (v14), en w.params "errors" q15 (.ref er), en w.params "pending" q16 (v16), en w.params "wish" q17 (v17), en w.params "is_skipping" q18 (v18), en w.params "is_acknowledged" q19 (v19), en w.params "is_done" q20 (v20)] 21) :: ex) (obs w.params a g ++ ([(pe, listOf [].toArray 0), (ow, oo), (mo, listOf [].toArray 0)] ++ ex)) := by
    show List.Perm _ ((x, instObj 498 dx) :: (dx, dictOf [en w.params "rules" q0 (v0), en w.params "tree" q1 (.ref t), en w.params "stack" q2 (.ref kk), en w.params "formatting" q3 (.ref f), en w.params "mode" q4 (.str (Str.ofString "initial") q50), en w.params "original" q5 (v5), en w.params "modes" q6 (v6), en w.params "head" q7 (v7), en w.params "form" q8 (v8), en w.params "owners" q9 (v9), en w.params "is_frameset_ok" q10 (v10), en w.params "is_scripting" q11 (v11), en w.params "is_foster" q12 (.bool false), en w.params "context" q13 (v13), en w.params "quirks" q14 (v14), en w.params "errors" q15 (.ref er), en w.params "pending" q16 (v16), en w.params "wish" q17 (v17), en w.params "is_skipping" q18 (v18), en w.params "is_acknowledged" q19 (v19), en w.params "is_done" q20 (v20)] 21) :: (t, instObj 420 dt) :: (dt, dictOf [en w.params "kinds" t0 (.ref ki), en w.params "spaces" t1 (.ref sp), en w.params "names" t2 (.ref na), en w.params "attrs" t3 (.ref ar), en w.params "texts" t4 (.ref te), en w.params "parents" t5 (.ref pa), en w.params "children" t6 (.ref ch), en w.params "contents" t7 (.ref co)] 8) :: (kk, instObj 303 dk) :: (dk, dictOf [en w.params "tree" u1 (.ref t), en w.params "items" u2 (.ref si)] 2) :: (f, instObj 191 df) :: (df, dictOf [en w.params "tree" u3 (.ref t), en w.params "items" u4 (.ref fi)] 2) :: (er, listOf [].toArray 0) ::
      (si, listOf [].toArray 0) :: (fi, listOf [].toArray 0) :: (ki, listOf [.str (Str.ofString "document") t8].toArray 1) :: (sp, listOf [.str Str.empty 610].toArray 1) :: (na, listOf [.str Str.empty 611].toArray 1) :: (ar, listOf [.ref at'].toArray 1) :: (te, listOf [.str Str.empty 612].toArray 1) :: (pa, listOf [.int (-1) t9].toArray 1) :: (ch, listOf [.ref kd].toArray 1) :: (co, oc) :: (kd, listOf [].toArray 0) :: (at', listOf [].toArray c) :: (pe, listOf [].toArray 0) :: (ow, oo) :: (mo, listOf [].toArray 0) :: ex)
    k_extra "o m perm"
  obtain ⟨N2, Nd2⟩ := perm_news (pm.trans List.perm_append_comm) N Nd
  refine ⟨a, [(pe, listOf [].toArray 0), (ow, oo), (mo, listOf [].toArray 0)], rfl, g, N2, Nd2, ⟨rfl, .nil, .nil, .cons _ _ .nil, .cons _ _ .nil, .cons _ _ .nil, ⟨⟨at', [], c, rfl, .head _, trivial⟩, trivial⟩, .cons _ _ .nil, .cons _ _ .nil, ⟨⟨[], 0, rfl, .nil⟩, trivial⟩, hco, hsys, fun _ hp => nomatch hp⟩⟩
section
variable {prog : Program} {w : World} {A : Around} {h₀ : Heap} {L : Addr} {m : Str → Option Value} {sh : Heap} {sg : Array GenState} {sd : Drawn} {stk : Nat} {so : OsState} {news ex : List (Addr × Obj)} {a : BA} {S : St} {Q : Value → Shared → Prop} {E : Value → Shared → Prop}
theorem tuck_perm {α : Type} {p q : α} {r : List α} : ∀ l : List α, List.Perm (l ++ p :: q :: r) (p :: q :: (l ++ r))
  | [] => .refl _
  | x :: l => ((tuck_perm l).cons x).trans ((List.Perm.swap p x _).trans ((List.Perm.swap q x _).cons p))
theorem tuck {h₀ h : Heap} {L : Addr} {G : Prop} (l : List (Addr × Obj)) {p q : Addr × Obj} {r : List (Addr × Obj)} (N : News h₀ L h (l ++ p :: q :: r)) (Nd : ((l ++ p :: q :: r).map (·.1)).Nodup)
    (k : ∀ R, R = l ++ r → News h₀ L h (p :: q :: R) → (p.1 :: q.1 :: R.map (·.1)).Nodup → G) : G :=
  k _ rfl (perm_news (tuck_perm l) N Nd).1 (perm_news (tuck_perm l) N Nd).2
theorem untuck {α : Type} {p q : α} {r : List α} (a l3 l2 l1 : List α) : List.Perm (a ++ p :: q :: (l3 ++ (l2 ++ (l1 ++ r)))) (a ++ (l3 ++ (l2 ++ (l1 ++ p :: q :: r)))) :=
  List.Perm.append_left a ((tuck_perm l3).symm.trans (List.Perm.append_left l3 ((tuck_perm l2).symm.trans (List.Perm.append_left l2 (tuck_perm l1).symm))))
end
namespace E_c_builder
noncomputable def St_ (prog : Program) (w : World) (A : Around) (h₀ : Heap) (L : Addr) (m : Str → Option Value) (sh : Heap) (sg : Array GenState) (sd : Drawn) (stk : Nat) (so : OsState) (ex : List (Addr × Obj)) (Q : Value → Shared → Prop) (E : Value → Shared → Prop) (r : Addr) : Prop :=
  ∀ (X : Cx w h₀ A L 5) (F : Fr h₀ L sh m) (N : News h₀ L sh ex) (Nd : (ex.map (·.1)).Nodup) (k : ∀ h' tk a ex', Fr h₀ L h' m → Bw prog w h₀ L h' (ex' ++ ex) a S00 → Q (.ref a.b) (Shared.mk h' sg sd tk so)), wpAny (model prog w) A (call (.ref 498) [.ref r]) Q E (Shared.mk sh sg sd stk so)
noncomputable def v : CV × Addr := @Classical.epsilon _ ⟨(cv0, default)⟩ fun v => ¬ St_ v.1.prog v.1.w v.1.A v.1.h₀ v.1.L v.1.m v.1.sh v.1.sg v.1.sd v.1.stk v.1.so v.1.ex v.1.Q v.1.E v.2
@[irreducible] noncomputable def prog : Program := v.1.prog
@[irreducible] noncomputable def w : World := v.1.w
@[irreducible] noncomputable def A : Around := v.1.A
@[irreducible] noncomputable def h₀ : Heap := v.1.h₀
@[irreducible] noncomputable def L : Addr := v.1.L
@[irreducible] noncomputable def m : Str → Option Value := v.1.m
@[irreducible] noncomputable def sh : Heap := v.1.sh
@[irreducible] noncomputable def sg : Array GenState := v.1.sg
@[irreducible] noncomputable def sd : Drawn := v.1.sd
@[irreducible] noncomputable def stk : Nat := v.1.stk
@[irreducible] noncomputable def so : OsState := v.1.so
@[irreducible] noncomputable def ex : List (Addr × Obj) := v.1.ex
@[irreducible] noncomputable def Q : Value → Shared → Prop := v.1.Q
@[irreducible] noncomputable def E : Value → Shared → Prop := v.1.E
@[irreducible] noncomputable def r : Addr := v.2
theorem core : St_ prog w A h₀ L m sh sg sd stk so ex Q E r := by
  intro X F N Nd k
  refine' call_init (binds := fun x => [bd "self" (.ref x), bd "rules" (.ref r), bd "is_scripting" (.bool false)]) X F N Nd ?h0 ?h1 ?h2 ?h3 ?h4 ?h5 ?h6 ?h7 ?h8 ?h9 ?h10 ?_
  k_extra "o m init"
  k_extra "o m go"
  refine c_tinit (CC.mono (by decide)) (by assumption) (by assumption) (by assumption) ?_
  intro h' tk kd at' co ch pa te ar na sp ki t dt oc c t8 t9 t0 t1 t2 t3 t4 t5 t6 t7 F' N' Nd hco hsys
  refine tuck [_, _, _, _, _, _, _, _, _, _, _, _] N' Nd ?_
  clear N' Nd
  intro R1 eR1 N' Nd
  k_extra "o m go"
  refine c_kinit (CC.mono (by decide)) (by assumption) (by assumption) (by assumption) ?_
  intro h' tk kk dk si u1 u2 F' N' Nd
  refine tuck [_, _, _] N' Nd ?_
  clear N' Nd
  intro R2 eR2 N' Nd
  k_extra "o m go"
  refine c_finit (CC.mono (by decide)) (by assumption) (by assumption) (by assumption) ?_
  intro h' tk f df fi u3 u4 F' N' Nd
  refine tuck [_, _, _] N' Nd ?_
  clear N' Nd
  intro R3 eR3 N' Nd
  k_extra "o m go"
  subst eR1
  subst eR2
  subst eR3
  obtain ⟨kN, Nd⟩ := perm_news (untuck [_, _, _, _] [_, _, _] [_, _, _] [_, _, _, _, _, _, _, _, _, _, _, _]) kN Nd
  obtain ⟨a, ex', rfl, W⟩ := bw_make kN Nd hco hsys
  exact k _ _ a ex' kF W
theorem all (v : CV × Addr) : St_ v.1.prog v.1.w v.1.A v.1.h₀ v.1.L v.1.m v.1.sh v.1.sg v.1.sd v.1.stk v.1.so v.1.ex v.1.Q v.1.E v.2 := eps_all ⟨v⟩ (P := fun v => St_ v.1.prog v.1.w v.1.A v.1.h₀ v.1.L v.1.m v.1.sh v.1.sg v.1.sd v.1.stk v.1.so v.1.ex v.1.Q v.1.E v.2) (by with_unfolding_all exact core) v
end E_c_builder
section
variable {prog : Program} {w : World} {A : Around} {h₀ : Heap} {L : Addr} {m : Str → Option Value} {sh : Heap} {sg : Array GenState} {sd : Drawn} {stk : Nat} {so : OsState} {news ex : List (Addr × Obj)} {a : BA} {S : St} {Q : Value → Shared → Prop} {E : Value → Shared → Prop}
theorem c_builder {r : Addr} (X : Cx w h₀ A L 5) (F : Fr h₀ L sh m) (N : News h₀ L sh ex) (Nd : (ex.map (·.1)).Nodup)
    (k : ∀ h' tk a ex', Fr h₀ L h' m → Bw prog w h₀ L h' (ex' ++ ex) a S00 → Q (.ref a.b) (Shared.mk h' sg sd tk so)) :
    wpAny (model prog w) A (call (.ref 498) [.ref r]) Q E (Shared.mk sh sg sd stk so) :=
  E_c_builder.all (⟨prog, w, A, h₀, L, m, sh, sg, sd, stk, so, ex, cv0.news, cv0.a, cv0.S, Q, E⟩, r) X F N Nd k
end

section
local macro_rules | `(tactic| walk_at $s:str) => do
  let t := Lean.Syntax.mkStrLit ("d6 " ++ s.getString)
  `(tactic| k_extra $t)
local macro_rules | `(tactic| k_upd) => `(tactic| first | k_extra "d6 k_upd" | k_extra "o k_upd")
structure BuildOk (ns : List Int) (i : Nat) : Prop where
  root : ∃ l, InsOk (S0e (fosOf ns i)) 0 1 l
  sz : ∀ k, k < tot ns i → ∃ n, Sized (loopS ns i k) n ∧ n + 10 ≤ 100000
  gr : ∀ k, k < tot ns i → GrowOk (loopS ns i k) (digK ns i k) (brow i k 0) k (decide (k < aboveOf ns i))
  sz2 : ∀ k, k < tot ns i → ∃ n, Sized (growK ns i k (loopS ns i k)) n ∧ (growK ns i k (loopS ns i k)).fmt.length ≤ 1000
  fin : ∃ n l, Ln (loopS ns i (tot ns i)) n ∧ n + 10 ≤ 100000 ∧ InsOk (endS (loopS ns i (tot ns i))) (cur (loopS ns i (tot ns i))) ((loopS ns i (tot ns i)).kinds.length : Int) l
  stk : (loopS ns i (tot ns i)).stack.length = tot ns i + 1
theorem u_db {P : Params} {ex : List (Addr × Obj)} {a : BA} {g : Sg} {fo' : Bool} (h : ((ex ++ obs P a g).map (·.1)).Nodup) : Upd a.db (dictOf (bEnt P a g.fo) 21) (dictOf (bEnt P a fo') 21) (ex ++ obs P a g) (ex ++ obs P a { g with fo := fo' }) :=
  upd_in ex [(a.b, instObj 498 a.db)] _ h
example : True := by
  k_with "d6 k_upd" => (exact u_db (by k_extra "o m nd"))
  trivial
theorem hrow4 {i : Nat} (h : i < 4) : headTab.getD i [] = [hrow i 0, hrow i 1, hrow i 2, hrow i 3] := by
  rcases i with _ | _ | _ | _ | i <;> first | rfl | k_extra "o m oz"
theorem brow4 {i k : Nat} (h : i < 4) (hk : k < 12) : (baseTab.getD i []).getD k [] = [brow i k 0, brow i k 1, brow i k 2, brow i k 3] := by
  rcases i with _ | _ | _ | _ | i <;> first | (rcases k with _ | _ | _ | _ | _ | _ | _ | _ | _ | _ | _ | _ | k <;> first | rfl | k_extra "o m oz") | k_extra "o m oz"
theorem base_len {i : Nat} (h : i < 4) : (baseTab.getD i []).length = 12 := by rcases i with _ | _ | _ | _ | i <;> first | rfl | k_extra "o m oz"
theorem fmodN (x : Int) (m : Nat) (hm : 0 < m) : x.fmod m = (((x.fmod m).toNat : Nat) : Int) := (Int.toNat_of_nonneg (Int.fmod_nonneg_of_pos x (by k_extra "o m oz"))).symm
theorem above_eq (ns : List Int) (i : Nat) : (digit ns (13 * (i : Int)) + hrow i 0).fmod 3 = (aboveOf ns i : Int) := fmodN _ 3 (by decide)
theorem betw_eq (ns : List Int) (i : Nat) : ((digit ns (13 * (i : Int))).fdiv 3 + hrow i 1).fmod 7 = (betwOf ns i : Int) := fmodN _ 7 (by decide)
theorem below_eq (ns : List Int) (i : Nat) : ((digit ns (13 * (i : Int))).fdiv 21 + hrow i 2).fmod 3 = (belowOf ns i : Int) := fmodN _ 3 (by decide)
theorem fmod_lt (x : Int) (m : Nat) (hm : 0 < m) : (x.fmod m).toNat < m := by
  have := Int.fmod_lt_of_pos x (b := (m : Int)) (by k_extra "o m oz")
  k_extra "o m oz"
theorem above_lt (ns : List Int) (i : Nat) : aboveOf ns i < 3 := fmod_lt _ 3 (by decide)
theorem betw_lt (ns : List Int) (i : Nat) : betwOf ns i < 7 := fmod_lt _ 7 (by decide)
theorem below_lt (ns : List Int) (i : Nat) : belowOf ns i < 3 := fmod_lt _ 3 (by decide)
section
variable {prog : Program} {w : World} {A : Around} {h₀ : Heap} {L : Addr} {m : Str → Option Value} {sh : Heap} {sg : Array GenState} {sd : Drawn} {stk : Nat} {so : OsState} {news ex : List (Addr × Obj)} {a : BA} {S : St} {Q : Value → Shared → Prop} {E : Value → Shared → Prop}
theorem c_elem1 {t1 : Tok} {n : Nat} (C : Cx w h₀ A L 2) (F : Fr h₀ L sh m) (W : Bw prog w h₀ L sh ex a S) (H : Ln S n)
    (k : ∀ h' tk u v, Fr h₀ L h' m → Bw prog w h₀ L h' ex a (elemS S sHtml sHtml []) → v = (n : Int) → Q (.int v u) (Shared.mk h' sg sd tk so)) :
    wpAny (model prog w) A (call (.ref 339) [.ref a.t, .str sHtml t1]) Q E (Shared.mk sh sg sd stk so) := by
  obtain ⟨g, N, Nd, V, hp⟩ := W.toA
  refine' call_fn (binds := [bd "self" (.ref a.t), bd "name" (.str sHtml t1), bd "space" (.str (Str.ofString "html") 625), bd "attrs" (.ref 331)]) C F N ?h1 ?h2 ?h3 ?h4 ?h5 ?h6 ?h7 ?h8 ?_
  k_extra "o m side"
  have hb : SeqAt w.params ex 331 [] := .top (n := 0) (by k_is)
  k_extra "o m go"
  refine c_add5 (ex := ex) (vs := []) (ps := []) (CC.mono (by decide)) F' ⟨_, N', Nd, V, hp⟩ H hb (by decide) ?_
  intro h' tk u v F' W' e
  subst e
  k_extra "o m open"
  k_extra "o m go"
  exact k _ _ _ _ kF ⟨_, kN, Nd, V⟩ rfl

theorem re_app {α : Type} (X Y Z : List α) (x : α) : X ++ x :: (Y ++ Z) = (X ++ x :: Y) ++ Z := by simp
theorem look_dg (dg : List Value) {x : Str} (h : (x == Str.ofString "digit") = false) : List.lookup x (dg.map fun v => (Str.ofString "digit", v)) = none := by
  induction dg with
  | nil => rfl
  | cons v dg ih => rw [List.map_cons, List.lookup_cons, h]; exact ih
theorem look_app_none {x : Str} {l o : List (Str × Value)} (h1 : List.lookup x l = none) (h2 : List.lookup x o = none) : List.lookup x (l ++ o) = none := by rw [lookup_app, h1]; exact h2
theorem mid_news {h₀ h : Heap} {L : Addr} {pre post : List (Addr × Obj)} {x : Addr × Obj} (N : News h₀ L h (pre ++ x :: post)) (Nd : ((pre ++ x :: post).map (·.1)).Nodup) : News h₀ L h (x :: (pre ++ post)) ∧ (x.1 :: (pre ++ post).map (·.1)).Nodup :=
  perm_news List.perm_middle N Nd
theorem l_subt {vs : List Value} {D : Addr} {x : Value} {k : Int} {u : Tok} {n : Nat} {value slice : PySem.Expr} {Q : Value → Shared → Prop} (N : News h₀ L sh news) (hm : (D, ({ cls := .type "tuple", data := .seq (List.toArray vs) n } : Obj)) ∈ news) (h0 : 0 ≤ k) (h1 : k < 1000000) (hx : vs[k.toNat]? = some x) (h : Q x (Shared.mk sh sg sd stk so))
    (hs : subscripted slice false (.ref D) (.int k u) = operate [.ref D, .int k u] (getItem (.ref D) (.int k u))) :
    wpAny (model prog w) A (subscriptTail value slice (.ref D) (.int k u)) Q E (Shared.mk sh sg sd stk so) := by
  have hl : k.toNat < vs.length := (List.getElem?_eq_some_iff.mp hx).1
  exact item_tupleT (l := vs) (j := k.toNat) (N.isTup hm) (by k_extra "o m oz") (by k_extra "o m oz") (seqIndex_of h0 (by k_extra "o m oz")) hx h hs
theorem l_subtN {vs : List Value} {D : Addr} {x : Value} {i : Nat} {u : Tok} {n : Nat} {value slice : PySem.Expr} {Q : Value → Shared → Prop} (hx : vs[i]? = some x) (hi : i < 1000) (hm : (D, ({ cls := .type "tuple", data := .seq (List.toArray vs) n } : Obj)) ∈ news) (N : News h₀ L sh news) (h : Q x (Shared.mk sh sg sd stk so))
    (hs : subscripted slice false (.ref D) (.int (i : Int) u) = operate [.ref D, .int (i : Int) u] (getItem (.ref D) (.int (i : Int) u))) :
    wpAny (model prog w) A (subscriptTail value slice (.ref D) (.int (i : Int) u)) Q E (Shared.mk sh sg sd stk so) := l_subt N hm (by k_extra "o m oz") (by k_extra "o m oz") hx h hs
example : True := by
  k_with "d6 subscriptTail" => ((k_here; (with_reducible show wpAny _ _ (subscriptTail _ _ (Value.ref _) (Value.int (Int.ofNat _) _)) _ _ _); k_dflt (refine' l_subtN ?xa_147 ?xb_147 ?xc_147 ?xd_147 ?_ ?xe_147; (case xa_147 => with_reducible assumption); (case xb_147 => k_extra "o m oz"); (case xd_147 => k_asm); (case xc_147 => (refine' List.mem_append_left _ ?_; assumption)); (case xe_147 => with_unfolding_all rfl); k_whole)))
  k_with "d6 subscriptTail" => ((k_here; (with_reducible show wpAny _ _ (subscriptTail _ _ (Value.ref _) (Value.int _ _)) _ _ _); k_dflt (refine' l_subtN ?xa_148 ?xb_148 ?xc_148 ?xd_148 ?_ ?xe_148; (case xa_148 => with_reducible assumption); (case xb_148 => k_extra "o m oz"); (case xd_148 => k_asm); (case xc_148 => (refine' List.mem_append_left _ ?_; assumption)); (case xe_148 => with_unfolding_all rfl); k_whole)))
  k_with "d6 subscriptTail Name Name ref int" => ((first | k_extra "d6 subscriptTail" | (k_here; (with_reducible show wpAny _ _ (subscriptTail _ _ (Value.ref _) (Value.int _ _)) _ _ _); k_dflt (refine' topTup_K ?zF_149 ?zX_149 ?zl_149 ?za_149 ?zb_149 ?zc_149 ?zd_149 ?_; (case zF_149 => k_asm); (case zX_149 => k_asm); (case zl_149 => k_is); (case za_149 => decide); (case zb_149 => decide); (case zc_149 => rfl); (case zd_149 => rfl); k_whole))))
  k_with "d6 subscriptTail Name BinOp ref int" => ((first | k_extra "d6 subscriptTail" | (k_here; (with_reducible show wpAny _ _ (subscriptTail _ _ (Value.ref _) (Value.int _ _)) _ _ _); k_dflt (refine' topTup_K ?zF_150 ?zX_150 ?zl_150 ?za_150 ?zb_150 ?zc_150 ?zd_150 ?_; (case zF_150 => k_asm); (case zX_150 => k_asm); (case zl_150 => k_is); (case za_150 => decide); (case zb_150 => decide); (case zc_150 => rfl); (case zd_150 => rfl); k_whole))))
  k_with "d6 subscriptTail Name Constant ref int" => ((first | k_extra "d6 subscriptTail" | (k_here; (with_reducible show wpAny _ _ (subscriptTail _ _ (Value.ref _) (Value.int _ _)) _ _ _); k_dflt (refine' topTup_K ?zF_151 ?zX_151 ?zl_151 ?za_151 ?zb_151 ?zc_151 ?zd_151 ?_; (case zF_151 => k_asm); (case zX_151 => k_asm); (case zl_151 => k_is); (case za_151 => decide); (case zb_151 => decide); (case zc_151 => rfl); (case zd_151 => rfl); k_whole))))
  trivial
end
namespace E_c_built
noncomputable def St_ (prog : Program) (w : World) (A : Around) (h₀ : Heap) (L : Addr) (m : Str → Option Value) (sh : Heap) (sg : Array GenState) (sd : Drawn) (stk : Nat) (so : OsState) (ex : List (Addr × Obj)) (Q : Value → Shared → Prop) (E : Value → Shared → Prop) (sc : Addr) (items : Array Value) (ns : List Int) (i : Nat) (t : Tok) : Prop :=
  ∀ (C : Cx w h₀ A L 6) (F : Fr h₀ L sh m) (N : News h₀ L sh ex) (Nd : (ex.map (·.1)).Nodup) (hs : h₀.IsList sc items) (hi : IntsAre items.toList ns) (hz : ns.length ≤ 63) (hi4 : i < 4) (B : BuildOk ns i) (k : ∀ h' tk D a ex' u v c, Fr h₀ L h' m → Bw prog w h₀ L h' ((D, ({ cls := .type "tuple", data := .seq #[.ref a.b, .int (subjOf ns i) u, .int (blkOf ns i) v] c } : Obj)) :: (ex' ++ ex)) a (builtS ns i) → Q (.ref D) (Shared.mk h' sg sd tk so)), wpAny (model prog w) A (call (.ref 544) [.ref sc, .int (i : Int) t]) Q E (Shared.mk sh sg sd stk so)
noncomputable def v : CV × Addr × (Array Value) × (List Int) × Nat × Tok := @Classical.epsilon _ ⟨(cv0, default, default, default, default, default)⟩ fun v => ¬ St_ v.1.prog v.1.w v.1.A v.1.h₀ v.1.L v.1.m v.1.sh v.1.sg v.1.sd v.1.stk v.1.so v.1.ex v.1.Q v.1.E v.2.1 v.2.2.1 v.2.2.2.1 v.2.2.2.2.1 v.2.2.2.2.2
@[irreducible] noncomputable def prog : Program := v.1.prog
@[irreducible] noncomputable def w : World := v.1.w
@[irreducible] noncomputable def A : Around := v.1.A
@[irreducible] noncomputable def h₀ : Heap := v.1.h₀
@[irreducible] noncomputable def L : Addr := v.1.L
@[irreducible] noncomputable def m : Str → Option Value := v.1.m
@[irreducible] noncomputable def sh : Heap := v.1.sh
@[irreducible] noncomputable def sg : Array GenState := v.1.sg
@[irreducible] noncomputable def sd : Drawn := v.1.sd
@[irreducible] noncomputable def stk : Nat := v.1.stk
@[irreducible] noncomputable def so : OsState := v.1.so
@[irreducible] noncomputable def ex : List (Addr × Obj) := v.1.ex
@[irreducible] noncomputable def Q : Value → Shared → Prop := v.1.Q
@[irreducible] noncomputable def E : Value → Shared → Prop := v.1.E
@[irreducible] noncomputable def sc : Addr := v.2.1
@[irreducible] noncomputable def items : Array Value := v.2.2.1
@[irreducible] noncomputable def ns : List Int := v.2.2.2.1
@[irreducible] noncomputable def i : Nat := v.2.2.2.2.1
@[irreducible] noncomputable def t : Tok := v.2.2.2.2.2
theorem core : St_ prog w A h₀ L m sh sg sd stk so ex Q E sc items ns i t := by
  intro C F N Nd hs hi hz hi4 B k
  refine' call_fn (binds := [bd "script" (.ref sc), bd "scene" (.int (i : Int) t)]) C F N ?h1 ?h2 ?h3 ?h4 ?h5 ?h6 ?h7 ?h8 ?_
  k_extra "o m side"
  replace hs : hG.IsList sc items := by obtain ⟨o, ho, hc⟩ := hs; exact ⟨o, st _ _ ho, hc⟩
  k_extra "o m go"
  refine c_digit (CC.mono (by decide)) F' N' hs hi hz (by k_extra "o m oz") (by k_extra "o m oz") ?_
  intro h' tk v u F' N' e
  subst e
  k_extra "o m go"
  refine c_heads (CC.mono (by decide)) F' N' Nd ?_
  clear N' F' Nd
  intro h' tk D ex1 F' N' Nd hT
  obtain ⟨c, vs, nn, e, hm, ha⟩ := hT
  cases e
  obtain ⟨v1, hv1, c1, vs1, n1, rfl, hm1, hi1⟩ := ha.get i (headTab.getD i []) (by rw [List.getD_eq_getElem?_getD, List.getElem?_eq_getElem (by exact hi4)]; rfl)
  rw [hrow4 hi4] at hi1
  obtain ⟨s0, s1, s2, s3, rfl⟩ := ints4 hi1
  k_extra "o m go"
  simp only [above_eq, betw_eq, below_eq] at F'
  obtain ⟨ta, tb, tc, td, F'⟩ : ∃ ta tb tc td, Fr hG L' h' (fun y => List.lookup y [bd "below" (.int (belowOf ns i : Int) ta), bd "between" (.int (betwOf ns i : Int) tb), bd "above_now" (.int (aboveOf ns i : Int) tc), bd "row" (.ref c1), bd "head" (.int (digit ns (13 * (i : Int))) td), bd "scene" (.int (i : Int) t), bd "script" (.ref sc)]) := ⟨_, _, _, _, F'⟩
  refine c_builder (CC.mono (by decide)) F' N' Nd ?_
  clear N' F' Nd lo' hs' fs' hi' fi'
  intro h' tk a ex2 F' W'
  have e := above_eq ns i
  k_extra "o m open"
  k_extra "o m go"
  have Nd2 := nodup_eq (l' := ex2 ++ (d', o') :: (ex1 ++ ex) ++ obs w.params a { g' with fo := fosOf ns i }) (by simp) Nd
  have e0 := V.ki.length
  have W' : Bw prog w hG L' _ _ a (S0f (fosOf ns i)) := ⟨_, (by assumption), Nd2, { V with fo := rfl }⟩
  refine c_elem1 (CC.mono (by decide)) (by assumption) W' (n := 1) ⟨rfl, rfl, rfl, rfl, rfl, rfl, rfl, by decide⟩ ?_
  clear V Nd Nd2 W' e0
  intro h' tk u v F' W' e1
  subst e1
  obtain ⟨l1, I1⟩ := B.root
  k_extra "o m open"
  k_extra "o m go"
  refine c_append (CC.mono (by decide)) F' ⟨_, N', Nd, V⟩ I1 ?_
  clear V Nd N' F' I1
  intro h' tk F' W'
  k_extra "o m open"
  k_extra "o m go"
  refine c_kpush (CC.mono (by decide)) F' ⟨_, N', Nd, V⟩ (by rw [(same_insE _ _ _).st, elem_stack]; show ([] : List Int).length ≤ _; decide) ?_
  clear V Nd N' F'
  intro h' tk F' W'
  replace W' : Bw prog w hG L' h' _ a (S01 (fosOf ns i)) := W'
  k_extra "o m open"
  k_extra "o m go"
  clear ha hm hv1 hm1 hi1 e
  refine For_invV hG (by rfl) (by rfl) ?_
  k_extra "o m go"
  rename IsRange _ _ _ _ _ _ _ _ => hr
  rename Fr _ _ _ _ => F'
  rename News _ _ _ _ => N'
  have e : ((aboveOf ns i : Int) + (betwOf ns i : Int) + (belowOf ns i : Int) + 2) = ((tot ns i : Nat) : Int) := by unfold tot; k_extra "o m oz"
  rw [e] at hr
  clear e
  have a3 := above_lt ns i
  have b7 := betw_lt ns i
  have c3 := below_lt ns i
  have t12 : tot ns i ≤ 12 := by unfold tot; k_extra "o m oz"
  refine for_range (σ := List (Addr × Obj) × Sg × Addr × List Value)
    (fun c => [bd "root" (.int ((1 : Nat) : Int) u), bd "builder" (.ref a.b), bd "below" (.int (belowOf ns i : Int) ta), bd "between" (.int (betwOf ns i : Int) tb), bd "above_now" (.int (aboveOf ns i : Int) tc), bd "row" (.ref c.2.2.1), bd "head" (.int (digit ns (13 * (i : Int))) td), bd "scene" (.int (i : Int) t), bd "script" (.ref sc)] ++ (c.2.2.2.map fun v => (Str.ofString "digit", v)))
    (fun c => (c.1 ++ (ex2 ++ (d', o') :: (ex1 ++ ex))) ++ obs w.params a c.2.1)
    (fun k c => Sv prog w a c.2.1 (loopS ns i k)) ([], g', c1, []) (fun c => look_app_none rfl (look_dg _ rfl)) hh hr (by k_extra "o m oz") F' N' Nd V ?_ ?_
  · clear V Nd N' F'
    rintro k tk0 ⟨exL, g, rw0, dg⟩ I it h tk hk V F' N' Nd
    dsimp only at V F' N' Nd
    dsimp only [List.cons_append, List.nil_append] at F'
    k_extra "o m go"
    refine c_digit (CC.mono (by decide)) F' N' hs hi hz (by k_extra "o m oz") (by k_extra "o m oz") ?_
    clear N' F'
    intro h' tk v u1 F' N' e1
    replace e1 : v = digK ns i k := e1
    subst e1
    k_extra "o m go"
    refine c_bases (CC.mono (by decide)) F' N' Nd ?_
    clear N' F' Nd
    intro h' tk D exb vs nb F' N' Nd hm ha
    obtain ⟨v1, hv1, c4, vs1, n1, rfl, hm1, hi1⟩ := ha.get i (baseTab.getD i []) (by rw [List.getD_eq_getElem?_getD, List.getElem?_eq_getElem (by exact hi4)]; rfl)
    have hbl : (baseTab.getD i []).length = 12 := base_len hi4
    obtain ⟨v2, hv2, c5, vs2, n2, rfl, hm2, hi2⟩ := hi1.get k ((baseTab.getD i []).getD k []) (by rw [List.getD_eq_getElem?_getD (l := baseTab.getD i []), List.getElem?_eq_getElem (l := baseTab.getD i []) (by k_extra "o m oz")]; rfl)
    rw [brow4 hi4 (by k_extra "o m oz")] at hi2
    k_extra "o m go"
    obtain ⟨n0, Z0, z0⟩ := B.sz k hk
    obtain ⟨n4, Z4, z4⟩ := B.sz2 k hk
    have G0 := B.gr k hk
    have ed : decide ((k : Int) < (aboveOf ns i : Int)) = decide (k < aboveOf ns i) := by simp
    have ee : ((k : Int) == (aboveOf ns i : Int)) = decide (k = aboveOf ns i) := by
      by_cases hq : k = aboveOf ns i
      · subst hq; simp
      · rw [decide_eq_false hq]; exact beq_eq_false_iff_ne.mpr (by k_extra "o m oz")
    rw [ed]
    have N2 : News hG L' h' ((exb ++ (I, it) :: (exL ++ (ex2 ++ (d', o') :: (ex1 ++ ex)))) ++ obs w.params a g) := by rw [← re_app]; exact N'
    have Nd2 : (((exb ++ (I, it) :: (exL ++ (ex2 ++ (d', o') :: (ex1 ++ ex)))) ++ obs w.params a g).map (·.1)).Nodup := by rw [← re_app]; exact Nd
    refine c_grow (ex := exb ++ (I, it) :: (exL ++ (ex2 ++ (d', o') :: (ex1 ++ ex)))) (CC.mono (by decide)) F' ⟨_, N2, Nd2, V⟩ Z0 (List.mem_append_left _ hm2) hi2 (by k_extra "o m oz") (by k_extra "o m oz") z0 G0 ?_
    clear V N' Nd F' N2 Nd2
    intro h' tk exg u2 v2 F' W' e2
    replace W' : Bw prog w hG L' h' _ a (growK ns i k (loopS ns i k)) := W'
    k_extra "o m open"
    k_extra "o m go"
    rw [ee]
    refine c_list (ex := exg ++ (exb ++ (I, it) :: (exL ++ (ex2 ++ (d', o') :: (ex1 ++ ex))))) (CC.mono (by decide)) F' ⟨_, N', Nd, V⟩ Z4 z4 (List.mem_append_right _ (List.mem_append_left _ hm2)) hi2 (by k_extra "o m oz") (by k_extra "o m oz") ?_
    clear V N' Nd F'
    intro h' tk exl F' W'
    replace W' : Bw prog w hG L' h' _ a (loopS ns i (k + 1)) := W'
    k_extra "o m open"
    k_extra "o m go"
    have re : ∀ (Z : List (Addr × Obj)), (exl ++ (exg ++ (exb ++ (I, it) :: (exL ++ (ex2 ++ (d', o') :: (ex1 ++ ex)))))) ++ Z = (exl ++ (exg ++ exb)) ++ (I, it) :: ((exL ++ (ex2 ++ (d', o') :: (ex1 ++ ex))) ++ Z) := fun Z => by simp only [List.append_assoc, List.cons_append]
    rw [re] at N' Nd
    obtain ⟨N2, Nd2⟩ := mid_news N' Nd
    have re2 : ∀ (Z : List (Addr × Obj)), (exl ++ (exg ++ exb)) ++ ((exL ++ (ex2 ++ (d', o') :: (ex1 ++ ex))) ++ Z) = ((exl ++ (exg ++ exb)) ++ exL ++ (ex2 ++ (d', o') :: (ex1 ++ ex))) ++ Z := fun Z => by simp only [List.append_assoc, List.cons_append]
    rw [re2] at N2 Nd2
    have e3 := lk_back (x := Str.ofString "digit") (v := .int (digK ns i k) u1) (l := [bd "k" (.int (k : Int) tk0), bd "root" (.int ((1 : Nat) : Int) u), bd "builder" (.ref a.b), bd "below" (.int (belowOf ns i : Int) ta), bd "between" (.int (betwOf ns i : Int) tb), bd "above_now" (.int (aboveOf ns i : Int) tc), bd "row" (.ref c5), bd "head" (.int (digit ns (13 * (i : Int))) td), bd "scene" (.int (i : Int) t), bd "script" (.ref sc)]) (o := dg.map fun v => (Str.ofString "digit", v)) rfl
    exact ⟨((exl ++ (exg ++ exb)) ++ exL, g', c5, .int (digK ns i k) u1 :: dg), _, _, rfl, e3 ▸ F', N2, Nd2, V⟩
  · rintro ⟨exL, g, rw0, dg⟩ h tk o V ho F' N' Nd
    dsimp only at V F' N' Nd
    dsimp only [List.cons_append, List.nil_append] at F'
    obtain ⟨nf, lf, H1, h2, I1⟩ := B.fin
    have hstk := B.stk
    k_extra "o m go"
    refine c_kcurrent (ex := exL ++ (ex2 ++ (d', o') :: (ex1 ++ ex))) (S := loopS ns i (tot ns i)) (CC.mono (by decide)) F' ⟨_, N', Nd, V⟩ (by k_extra "o m oz") ?_
    clear V N' Nd F'
    intro h' tk u5 v5 F' W' e5
    replace e5 : v5 = cur (loopS ns i (tot ns i)) := e5
    subst e5
    k_extra "o m open"
    k_extra "o m go"
    refine c_text (ex := exL ++ (ex2 ++ (d', o') :: (ex1 ++ ex))) (S := loopS ns i (tot ns i)) (CC.mono (by decide)) F' ⟨_, N', Nd, V⟩ H1 ?_
    clear V N' Nd F'
    intro h' tk u6 v6 F' W' e6
    rw [← H1.ki] at e6
    subst e6
    replace W' : Bw prog w hG L' h' _ a (endS (loopS ns i (tot ns i))) := W'
    k_extra "o m open"
    k_extra "o m go"
    refine c_append (ex := exL ++ (ex2 ++ (d', o') :: (ex1 ++ ex))) (CC.mono (by decide)) F' ⟨_, N', Nd, V⟩ I1 ?_
    clear V N' Nd F'
    intro h' tk F' W'
    replace W' : Bw prog w hG L' h' _ a (builtS ns i) := W'
    have hstk2 : (builtS ns i).stack.length = tot ns i + 1 := by rw [← hstk]; exact congrArg List.length (same_insE _ _ _).st
    have et : tot ns i = aboveOf ns i + betwOf ns i + belowOf ns i + 2 := rfl
    have ea : (((aboveOf ns i : Int) + 1).toNat) = aboveOf ns i + 1 := by k_extra "o m oz"
    have eb : (((aboveOf ns i : Int) + (betwOf ns i : Int) + 2).toNat) = aboveOf ns i + betwOf ns i + 2 := by k_extra "o m oz"
    k_extra "o m open"
    k_extra "o m go"
    simp only [ea, eb] at kN
    have re : exL ++ (ex2 ++ (d', o') :: (ex1 ++ ex)) = (exL ++ (ex2 ++ (d', o') :: ex1)) ++ ex := by simp only [List.append_assoc, List.cons_append]
    rw [re] at kN Nd
    exact k _ _ _ a _ _ _ _ kF ⟨_, kN, Nd, V⟩
theorem all (v : CV × Addr × (Array Value) × (List Int) × Nat × Tok) : St_ v.1.prog v.1.w v.1.A v.1.h₀ v.1.L v.1.m v.1.sh v.1.sg v.1.sd v.1.stk v.1.so v.1.ex v.1.Q v.1.E v.2.1 v.2.2.1 v.2.2.2.1 v.2.2.2.2.1 v.2.2.2.2.2 := eps_all ⟨v⟩ (P := fun v => St_ v.1.prog v.1.w v.1.A v.1.h₀ v.1.L v.1.m v.1.sh v.1.sg v.1.sd v.1.stk v.1.so v.1.ex v.1.Q v.1.E v.2.1 v.2.2.1 v.2.2.2.1 v.2.2.2.2.1 v.2.2.2.2.2) (by with_unfolding_all exact core) v
end E_c_built
section
variable {prog : Program} {w : World} {A : Around} {h₀ : Heap} {L : Addr} {m : Str → Option Value} {sh : Heap} {sg : Array GenState} {sd : Drawn} {stk : Nat} {so : OsState} {news ex : List (Addr × Obj)} {a : BA} {S : St} {Q : Value → Shared → Prop} {E : Value → Shared → Prop}
theorem c_built {sc : Addr} {items : Array Value} {ns : List Int} {i : Nat} {t : Tok} (C : Cx w h₀ A L 6) (F : Fr h₀ L sh m) (N : News h₀ L sh ex) (Nd : (ex.map (·.1)).Nodup)
    (hs : h₀.IsList sc items) (hi : IntsAre items.toList ns) (hz : ns.length ≤ 63) (hi4 : i < 4) (B : BuildOk ns i)
    (k : ∀ h' tk D a ex' u v c, Fr h₀ L h' m → Bw prog w h₀ L h' ((D, ({ cls := .type "tuple", data := .seq #[.ref a.b, .int (subjOf ns i) u, .int (blkOf ns i) v] c } : Obj)) :: (ex' ++ ex)) a (builtS ns i) → Q (.ref D) (Shared.mk h' sg sd tk so)) :
    wpAny (model prog w) A (call (.ref 544) [.ref sc, .int (i : Int) t]) Q E (Shared.mk sh sg sd stk so) :=
  E_c_built.all (⟨prog, w, A, h₀, L, m, sh, sg, sd, stk, so, ex, cv0.news, cv0.a, cv0.S, Q, E⟩, sc, items, ns, i, t) C F N Nd hs hi hz hi4 B k
end

end
theorem bindL_eq (K : Str → Option NameKind) : ∀ (binds l : List (Str × Value)), bindL K binds (fun y => List.lookup y l) = fun y => List.lookup y ((binds.filter fun b => decide (K b.1 = some .local)).reverse ++ l)
  | [], _ => rfl
  | (n, v) :: r, l => by
    unfold bindL
    by_cases h : K n = some .local
    · have e : (fun y => if y = n then some v else List.lookup y l) = fun y => List.lookup y ((n, v) :: l) := by
        funext y
        by_cases e : y = n
        · subst e; simp [List.lookup]
        · have : (y == n) = false := by simpa using e
          simp [List.lookup, e, this]
      rw [if_pos h, e, bindL_eq K r, List.filter_cons, if_pos (by simpa using h), List.reverse_cons, List.append_assoc]
      rfl
    · rw [if_neg h, bindL_eq K r, List.filter_cons, if_neg (by simpa using h)]
theorem fr_bindL {g h : Heap} {L : Addr} {K : Str → Option NameKind} {binds lb : List (Str × Value)} (F : Fr g L h (bindL K binds fun _ => none)) (e : (binds.filter fun b => decide (K b.1 = some .local)).reverse = lb) : Fr g L h (fun y => List.lookup y lb) := by
  have q := bindL_eq K binds []
  rw [e, List.append_nil] at q
  have q2 : (bindL K binds fun _ => none) = fun y => List.lookup y lb := q
  rw [q2] at F; exact F
theorem nodup_up {l : List Addr} {d : Addr} (h : ∀ a ∈ l, a < d) (hn : l.Nodup) : (d :: l).Nodup ∧ ∀ a ∈ d :: l, a < d + 1 := by
  refine ⟨List.nodup_cons.mpr ⟨fun hm => absurd (h d hm) (Nat.lt_irrefl _), hn⟩, fun a ha => ?_⟩
  rcases List.mem_cons.mp ha with rfl | ha
  · exact Nat.lt_succ_self _
  · exact Nat.lt_succ_of_lt (h a ha)
theorem at_bool {P : Bool → Shared → Prop} {b c : Bool} {s : Shared} (h : P b s) (e : c = b) : P c s := e ▸ h
theorem nodup_up5 {l : List Addr} {d : Addr} (h : ∀ a ∈ l, a < d) (hn : l.Nodup) : ((d + 1 + 1 + 1 + 1) :: (d + 1 + 1 + 1) :: (d + 1 + 1) :: (d + 1) :: d :: l).Nodup :=
  have a1 := nodup_up h hn
  have a2 := nodup_up a1.2 a1.1
  have a3 := nodup_up a2.2 a2.1
  have a4 := nodup_up a3.2 a3.1
  (nodup_up a4.2 a4.1).1
theorem lt_map {l : List (Addr × Obj)} {d : Addr} (h : ∀ p ∈ l, p.1 < d) : ∀ a ∈ l.map (·.1), a < d + 1 := fun a ha => by
  obtain ⟨p, hp, rfl⟩ := List.mem_map.mp ha
  exact Nat.lt_succ_of_lt (h p hp)
example : True := by
  k_with "o m sideC" => ((
      case h1 => k_is
      case h2 => k_is
      case h3 => intro hp hX he; first | exact BindsTo.of_eq rfl | exact binds_K (by rw [he]; exact hX) rfl (by k_is) rfl rfl rfl
      case h4 => exact rfl
      case h5 => decide +kernel
      case h6 => exact rfl
      case h7 => exact rfl
      case h8 => exact rfl
      intro hG L' h₁ R _ _ _ _ tk' cells' hR CC X T hh F' N' Y' st lt'
      replace lt' := lt_map lt'))
  trivial
section
variable {prog : Program} {w : World} {A : Around} {sh : Heap} {sg : Array GenState} {sd : Drawn} {stk : Nat} {so : OsState} {env : Env} {h₀ : Heap} {x : Str} {body : List Stmt} {Q : Flow → Shared → Prop}
theorem for_listO {σ : Type} (lf : σ → List (Str × Value)) (nf : σ → List (Addr × Obj)) (J : List Value → σ → Prop) (c₀ : σ) {o₀ : List (Str × Value)} {D : Addr} {vs : List Value} {n : Nat}
    (hlx : ∀ c, List.lookup x (lf c) = none) (ho₀ : Only x o₀) (hh : A.handled = none) (F : Fr h₀ env.locals sh (fun y => List.lookup y (lf c₀ ++ o₀))) (N : News h₀ env.locals sh (nf c₀)) (hm : ∀ r c, J r c → (D, listOf vs.toArray n) ∈ nf c)
    (Nd : ((nf c₀).map (·.1)).Nodup) (hj : J vs c₀)
    (turn : ∀ v r c I it h tk, J (v :: r) c → Fr h₀ env.locals h (fun y => List.lookup y ((x, v) :: lf c)) → News h₀ env.locals h ((I, it) :: nf c) → (I :: (nf c).map (·.1)).Nodup →
      wpAny (model prog w) A (execs body env) (ForPost h₀ env.locals sg sd so x I it v lf nf (J r) Q) (fun _ _ => False) (Shared.mk h sg sd tk so))
    (done : ∀ c h tk o, J [] c → Only x o → Fr h₀ env.locals h (fun y => List.lookup y (lf c ++ o)) → News h₀ env.locals h (nf c) → ((nf c).map (·.1)).Nodup → Q .next (Shared.mk h sg sd tk so)) :
    wpAny (model prog w) A (pyIter (.ref D)) (fun it s₂ => LoopAtV prog w A h₀ env x body Q (fun _ _ => False) it s₂) (fun _ _ => False) (Shared.mk sh sg sd stk so) := by
  refine iter_listUnr (lo := listOf vs.toArray n) hh F N (hm _ _ hj) rfl rfl fun I hI => ?_
  have hIn : ∀ p ∈ nf c₀, p.1 ≠ I := fun p hp e => absurd (hI p hp) (e ▸ Nat.lt_irrefl _)
  have key : ∀ (r : List Value) (c : σ) (o : List (Str × Value)), J r c → Only x o → (I :: (nf c).map (·.1)).Nodup → ListRest prog w A (fun _ _ => False) h₀ env x body Q (Shared.mk sh sg sd stk so) I (D, listOf vs.toArray n) r (fun y => List.lookup y (lf c ++ o)) (nf c) := by
    intro r
    induction r with
    | nil => exact fun c o hj ho hn => ListRest.zero fun h tk F N => done c h tk o hj ho F N (nd_tl hn)
    | cons v r ih =>
      intro c o hj ho hn
      refine ListRest.succ fun it h tk _ F N => ?_
      rw [for_in ho] at F
      refine wpAny_mono (turn v r c I it h tk hj F N hn) (fun f s₂ p => ?_) fun _ _ e => e
      have fin : ForPost h₀ env.locals sg sd so x I it v lf nf (J r) Q .next s₂ → UnrEnd h₀ env.locals (Shared.mk h sg sd tk so) I it (fun m' n' => (D, listOf vs.toArray n) ∈ n' ∧ ListRest prog w A (fun _ _ => False) h₀ env x body Q (Shared.mk sh sg sd stk so) I (D, listOf vs.toArray n) r m' n') s₂ := by
        rintro ⟨c', h', tk', e, F', N', hn', hj'⟩
        rw [for_out (hlx c')] at F'
        exact ⟨h', tk', _, nf c', e, F', N', ne_hd (p := (I, it)) hn', hm _ _ hj', ih c' [(x, v)] hj' (only_one x v) hn'⟩
      cases f with
      | ret v => exact p
      | brk => exact p
      | next => exact fin p
      | cont => exact fin p
  exact key vs c₀ o₀ hj ho₀ (nodup_push hIn Nd)

theorem for_rangeO {σ : Type} (lf : σ → List (Str × Value)) (nf : σ → List (Addr × Obj)) (J : Nat → σ → Prop) (c₀ : σ) {o₀ : List (Str × Value)} {r : Addr} {t₀ u₀ v₀ : Tok} {n : Nat}
    (hlx : ∀ c, List.lookup x (lf c) = none) (ho₀ : Only x o₀) (hh : A.handled = none) (hr : IsRange sh r 0 n 1 t₀ u₀ v₀) (hsm : n ≤ 1000000) (F : Fr h₀ env.locals sh (fun y => List.lookup y (lf c₀ ++ o₀))) (N : News h₀ env.locals sh (nf c₀))
    (Nd : ((nf c₀).map (·.1)).Nodup) (hj : J 0 c₀)
    (turn : ∀ i t c I it h tk, i < n → J i c → Fr h₀ env.locals h (fun y => List.lookup y ((x, .int (i : Int) t) :: lf c)) → News h₀ env.locals h ((I, it) :: nf c) → (I :: (nf c).map (·.1)).Nodup →
      wpAny (model prog w) A (execs body env) (ForPost h₀ env.locals sg sd so x I it (.int (i : Int) t) lf nf (J (i + 1)) Q) (fun _ _ => False) (Shared.mk h sg sd tk so))
    (done : ∀ c h tk o, J n c → Only x o → Fr h₀ env.locals h (fun y => List.lookup y (lf c ++ o)) → News h₀ env.locals h (nf c) → ((nf c).map (·.1)).Nodup → Q .next (Shared.mk h sg sd tk so)) :
    wpAny (model prog w) A (pyIter (.ref r)) (fun it s₂ => LoopAtV prog w A h₀ env x body Q (fun _ _ => False) it s₂) (fun _ _ => False) (Shared.mk sh sg sd stk so) := by
  refine iter_rangeUnr (n := n) hh hr ?_ ?_ F N fun I hI => ?_
  · exact small_one (by (first | lia | omega)) (by (first | lia | omega)) (by (first | lia | omega)) (by (first | lia | omega))
  · exact rangeSize_nat _ _
  have hIn : ∀ p ∈ nf c₀, p.1 ≠ I := fun p hp e => absurd (hI p hp) (e ▸ Nat.lt_irrefl _)
  have key : ∀ (k i : Nat) (c : σ) (o : List (Str × Value)), i + k = n → J i c → Only x o → (I :: (nf c).map (·.1)).Nodup → RangeRest prog w A (fun _ _ => False) h₀ env x body Q (Shared.mk sh sg sd stk so) I 0 n k i (fun y => List.lookup y (lf c ++ o)) (nf c) := by
    intro k
    induction k with
    | zero => exact fun i c o hi hj ho hn => RangeRest.zero fun h tk F N => done c h tk o (by have : i = n := by (first | lia | omega)
                                                                                              exact this ▸ hj) ho F N (nd_tl hn)
    | succ k ih =>
      intro i c o hi hj ho hn
      refine RangeRest.succ fun t h tk F N => ?_
      rw [for_in ho, Int.zero_add] at F
      refine wpAny_mono (turn i t c I _ h tk (by (first | lia | omega)) hj F N hn) (fun f s₂ p => ?_) fun _ _ e => e
      have fin : ForPost h₀ env.locals sg sd so x I (itR (0 + ((i + 1 : Nat) : Int)) ((n : Int) - ((i + 1 : Nat) : Int))) (.int (i : Int) t) lf nf (J (i + 1)) Q .next s₂ → UnrEnd h₀ env.locals (Shared.mk h sg sd tk so) I (itR (0 + ((i + 1 : Nat) : Int)) ((n : Int) - ((i + 1 : Nat) : Int))) (RangeRest prog w A (fun _ _ => False) h₀ env x body Q (Shared.mk sh sg sd stk so) I 0 n k (i + 1)) s₂ := by
        rintro ⟨c', h', tk', e, F', N', hn', hj'⟩
        rw [for_out (hlx c')] at F'
        exact ⟨h', tk', _, nf c', e, F', N', ne_hd (p := (I, default)) hn', ih (i + 1) c' _ (by (first | lia | omega)) hj' (only_one x _) hn'⟩
      cases f with
      | ret v => exact p
      | brk => exact p
      | next => exact fin p
      | cont => exact fin p
  exact key n 0 c₀ o₀ (by (first | lia | omega)) hj ho₀ (nodup_push hIn Nd)
end
section
variable {M : Model} {A : Around} {E : Value → Shared → Prop} {sh : Heap} {sg : Array GenState} {sd : Drawn} {stk : Nat} {so : OsState} {h₀ : Heap} {L a : Addr} {news : List (Addr × Obj)} {cn : Str} {cs : Scope} {ccd : Value} {cl : List (Str × Addr)} {x : Str} {v : Value} {l l' : List (Str × Value)} {m : Str → Option Value}
theorem st_mX {Q : Unit → Shared → Prop} (F : Fr h₀ L sh (fun y => List.lookup y l)) (N : News h₀ L sh news) (U : UpL x v l l')
    (h : ∀ h', Fr h₀ L h' (fun y => List.lookup y l') → News h₀ L h' news → Q () (Shared.mk h' sg sd (stk + 1) so))
    (hk : cs.kind = .function) (hx : (envX cn cs L a ccd cl).kindOf x = some .local) : wpAny M A (storeName (envX cn cs L a ccd cl) x v) Q E (Shared.mk sh sg sd stk so) :=
  storeX_L F N (fun h' F' N' => h h' (U.eq ▸ F') N') hk hx
end
example : True := by
  k_with "o storeName" => ((k_here; (with_reducible show wpAny _ _ (storeName (envOfC _ _ _ _ _) _ _) _ _ _); k_dflt (refine' st_mX ?zF_153 ?zN_153 ?zU_153 ?_ ?za_153 ?zb_153; (case zF_153 => k_asm); (case zN_153 => k_asm); (case za_153 => rfl); (case zb_153 => rfl); (case zU_153 => k_extra "o m upl"); k_whole); intro h' F' N'; (try k_sweep)))
  k_with "o storeName" => ((k_here; (with_reducible show wpAny _ _ (storeName (envOfC _ _ _ _ _) _ _) _ _ _); k_dflt (refine' storeX_C ?zF_154 ?zN_154 ?zc_154 ?zU_154 ?zd_154 ?_ ?za_154 ?zb_154; (case za_154 => rfl); (case zb_154 => rfl); (case zF_154 => k_asm); (case zN_154 => k_asm); (case zc_154 => rfl); (case zU_154 => k_updF); (case zd_154 => k_asm); k_whole); intro h' oc' F' N' dc'; (try dsimp only at N'); (try k_sweep)))
  trivial
noncomputable def ListAt (l : List (Addr × Obj)) (v : Value) (ns : List Int) : Prop := ∃ c us n, v = .ref c ∧ (c, listOf (List.toArray us) n) ∈ l ∧ IntsAre us ns
section
variable {prog : Program} {w : World} {A : Around} {E : Value → Shared → Prop} {sh : Heap} {sg : Array GenState} {sd : Drawn} {stk : Nat} {so : OsState} {h₀ : Heap} {L D b : Addr} {m : Str → Option Value} {news : List (Addr × Obj)} {vs ws : List Value} {ns ms : List Int} {n n2 : Nat} {k : Int} {u : Tok} {value slice : PySem.Expr} {Q : Value → Shared → Prop}
theorem l_neg (N : News h₀ L sh news) (hm : (D, listOf vs.toArray n) ∈ news) (hi : IntsAre vs ns) (h0 : 0 < ns.length) (h : ∀ t, Q (.int (ns.getD (ns.length - 1) 0) t) (Shared.mk sh sg sd stk so))
    (hs : subscripted slice false (.ref D) (.int (-1) u) = operate [.ref D, .int (-1) u] (getItem (.ref D) (.int (-1) u))) :
    wpAny (model prog w) A (subscriptTail value slice (.ref D) (.int (-1) u)) Q E (Shared.mk sh sg sd stk so) := by
  have e : ((-1 : Int) + (ns.length : Int)).toNat = ns.length - 1 := by (first | lia | omega)
  exact item_list_ints_negR (N.isList hm) hi (by decide) (by (first | lia | omega)) (by decide) (fun t => by rw [e]; exact h t) hs
theorem l_catI (F : Fr h₀ L sh m) (N : News h₀ L sh news) (ha : (D, listOf vs.toArray n) ∈ news) (hb : (b, listOf ws.toArray n2) ∈ news) (hi : IntsAre vs ns) (hj : IntsAre ws ms) (hz : ns.length + ms.length ≤ 1000000)
    (h : ∀ D us h', Fr h₀ L h' m → News h₀ L h' ((D, listOf (List.toArray us) 0) :: news) → (∀ p ∈ news, p.1 < D) → IntsAre us (ns ++ ms) → Q (.ref D) (Shared.mk h' sg sd stk so)) : wpAny (model prog w) A (binaryOp .Add (.ref D) (.ref b)) Q E (Shared.mk sh sg sd stk so) :=
  kmk_add_ints F N (N.isList ha) (N.isList hb) hi hj h (by rw [sizeLine_eq]; (first | lia | omega))
theorem l_catV (F : Fr h₀ L sh m) (N : News h₀ L sh news) (ha : (D, listOf vs.toArray n) ∈ news) (hb : (b, listOf ws.toArray n2) ∈ news) (hz : vs.length + ws.length ≤ 1000000)
    (h : ∀ D h', Fr h₀ L h' m → News h₀ L h' ((D, listOf (vs ++ ws).toArray 0) :: news) → (∀ p ∈ news, p.1 < D) → Q (.ref D) (Shared.mk h' sg sd stk so)) : wpAny (model prog w) A (binaryOp .Add (.ref D) (.ref b)) Q E (Shared.mk sh sg sd stk so) :=
  kmk_add_lit F N (N.isList ha) (N.isList hb) rfl h (by rw [sizeLine_eq]; simpa using by (first | lia | omega))
theorem l_mul (F : Fr h₀ L sh m) (N : News h₀ L sh news) (ha : (D, listOf vs.toArray n) ∈ news) (h1 : vs.length = 1) (h0 : 0 ≤ k) (hz : k ≤ 250)
    (h : ∀ D h', Fr h₀ L h' m → News h₀ L h' ((D, listOf (List.replicate k.toNat vs).flatten.toArray 0) :: news) → (∀ p ∈ news, p.1 < D) → Q (.ref D) (Shared.mk h' sg sd stk so)) : wpAny (model prog w) A (binaryOp .Mult (.ref D) (.int k u)) Q E (Shared.mk sh sg sd stk so) :=
  KMa.mul F N (N.isList ha) (by (first | lia | omega)) (by (first | lia | omega)) (by rw [h1]; (first | lia | omega)) rfl h
end
theorem rep_ints (k : Nat) (x : Int) (t : Tok) : IntsAre (List.replicate k [Value.int x t]).flatten (List.replicate k x) := by
  induction k with
  | zero => exact .nil
  | succ k ih => rw [List.replicate_succ, List.flatten_cons, List.replicate_succ]; exact .cons _ _ ih
theorem rep_strs (k : Nat) (x : Str) (t : Tok) : StrsAre (List.replicate k [Value.str x t]).flatten (List.replicate k x) := by
  induction k with
  | zero => exact .nil
  | succ k ih => rw [List.replicate_succ, List.flatten_cons, List.replicate_succ]; exact .cons _ _ ih
example : True := by
  k_with "o l_ints" => (with_reducible exact rep_ints _ _ _)
  k_with "o subscriptTail" => ((k_here; (with_reducible show wpAny _ _ (subscriptTail _ _ (Value.ref _) (Value.int (-1) _)) _ _ _); k_dflt (refine' l_neg ?zk1_156 ?zk2_156 ?zk3_156 ?zk4_156 ?_ ?zk7_156; (case zk1_156 => k_asm); (case zk2_156 => k_extra "o mem"); (case zk3_156 => l_ints); (case zk4_156 => k_extra "o m ar"); (case zk7_156 => with_unfolding_all rfl); k_whole); intro _))
  k_with "o binaryOp Add ref ref" => ((k_here; k_dflt (refine' l_catV ?zk1_157 ?zk2_157 ?zk3_157 ?zk4_157 ?zk5_157 ?_; (case zk1_157 => k_asm); (case zk2_157 => k_asm); (case zk3_157 => k_extra "o mem"); (case zk4_157 => k_extra "o mem"); (case zk5_157 => k_extra "o m ar"); k_whole); intro D' h' F' N' l1; (try replace l1 := ne_all l1); k_dflt (try replace Nd := nodup_push l1 Nd); (try dsimp only [List.map] at Nd); (try k_sweep)))
  k_with "o binaryOp Add ref ref" => ((k_here; k_dflt (refine' l_catI ?zk1_158 ?zk2_158 ?zk3_158 ?zk4_158 ?zk5_158 ?zk6_158 ?zk7_158 ?_; (case zk1_158 => k_asm); (case zk2_158 => k_asm); (case zk3_158 => k_extra "o mem"); (case zk4_158 => k_extra "o mem"); (case zk5_158 => l_ints); (case zk6_158 => l_ints); (case zk7_158 => k_extra "o m ar"); k_whole); intro D' us' h' F' N' l1 hI'; (try replace l1 := ne_all l1); k_dflt (try replace Nd := nodup_push l1 Nd); (try dsimp only [List.map] at Nd); (try k_sweep)))
  k_with "o binaryOp Mult ref int" => ((k_here; k_dflt (refine' l_mul ?zk1_159 ?zk2_159 ?zk3_159 ?zk4_159 ?zk5_159 ?zk6_159 ?_; (case zk1_159 => k_asm); (case zk2_159 => k_asm); (case zk3_159 => k_extra "o mem"); (case zk4_159 => exact rfl); (case zk5_159 => k_extra "o m ar"); (case zk6_159 => k_extra "o m ar"); k_whole); intro D' h' F' N' l1; (try replace l1 := ne_all l1); k_dflt (try replace Nd := nodup_push l1 Nd); (try dsimp only [List.map] at Nd); (try k_sweep)))
  k_with "o call type:dict" => ((k_here; (with_reducible show wpAny _ _ (call (Value.type "dict") [Value.ref _]) _ _ _); k_dflt (refine kt_dict_K (knd := PySem.intKind _ _) (enc := PyData.int) (by k_asm) (by k_asm) (Top.nolimit (by k_asm)) (by assumption) (by assumption) ?_; intro d' h' o' kvs' F' N' l1 lo' hd' hf'; (try replace l1 := ne_all l1); (try replace Nd := nodup_push l1 Nd); (try dsimp only [List.map] at Nd); (try k_sweep))))
  k_with "o k_mem" => (((fail_if_success (refine' List.Mem.tail _ ?_)); (try with_reducible refine' in_mem ?_); with_reducible assumption))
  k_with "o m len" => (with_reducible assumption)
  trivial
example : True := by
  k_with "o m wc" => (((fail_if_success (with_reducible show wpAny _ _ (exec (Stmt.Assign _ (PySem.Expr.ListComp _ _ _ _) _) _) _ _ _)); (fail_if_success (with_reducible show wpAny _ _ (eval (PySem.Expr.ListComp _ _ _ _) _) _ _ _)); (fail_if_success (with_reducible show LCg.CompSrc _ _ _ _ _ _ _ _ _ _ _ _ _ _)); (fail_if_success (with_reducible show LCt.CompSrcT _ _ _ _ _ _ _ _ _ _ _ _ _ _ _)); (fail_if_success (with_reducible show Whole _)); (fail_if_success (with_reducible show CTurn _ _ _ _ _ _ _ _ _ _ _ _ _ _)); k_extra "o m w"))
  k_with "o m gc" => (repeat' (first | k_extra "o m wc" | (dsimp only; k_extra "o m wc")))
  k_with "o m wci" => (((fail_if_success (with_reducible show wpAny _ _ (exec (Stmt.If _ _ _ _) _) _ _ _)); k_extra "o m wc"))
  k_with "o m gci" => (repeat' (first | k_extra "o m wci" | (dsimp only; k_extra "o m wci")))
  trivial
section
variable {prog : Program} {w : World} {A : Around} {h₀ : Heap} {L ax : Addr} {m : Str → Option Value} {env : Env} {ct elt : PySem.Expr} {x : Str} {scope : Scope} {cl : List (Str × Addr)} {sh : Heap} {sg : Array GenState} {sd : Drawn} {stk : Nat} {so : OsState} {Fin : Shared → List Value → List (Addr × Obj) → Prop} {news : List (Addr × Obj)} {vs : List Value} {ns : List Int} {k : Nat} {pe : Pos}
theorem comp_filter (hh : A.handled = none) (F : Fr h₀ L sh m) (N : News h₀ L sh news) (Nd : (news.map (·.1)).Nodup) (hm : (ax, listOf vs.toArray k) ∈ news) (hi : IntsAre vs ns) (hz : ns.length ≤ 100000) (p : Int → Bool)
    (turn : ∀ y t I oI C oC D ys m₂ h tk (E' : Value → Shared → Prop) (P' : Bool → Shared → Prop), y ∈ ns → LCg.NsObj oC m₂ → m₂ x = some (.int y t) → Fr h₀ L h m → News h₀ L h ((I, oI) :: (C, oC) :: (D, LCg.lst ys) :: news) → (I :: C :: D :: news.map (·.1)).Nodup →
      (∀ h' tk', Fr h₀ L h' m → News h₀ L h' ((I, oI) :: (C, oC) :: (D, LCg.lst ys) :: news) → P' (p y) (Shared.mk h' sg sd tk' so)) →
      wpAny (model prog w) A (isTrue ct (compEnvC scope cl C env) (eval ct (compEnvC scope cl C env))) P' E' (Shared.mk h sg sd tk so))
    (fin : ∀ g ys, IntsAre ys (ns.filter p) → Fin (Shared.mk g sg sd stk so) ys news)
    (hk : ∀ C, (compEnvC scope cl C env).scope.kind = .function) (hl : ∀ C, (compEnvC scope cl C env).kindOf x = some .local) (hd : (x == ("__debug__" : Str)) = false) :
    LCt.CompSrcT prog w A h₀ L m env ct (.Name x pe) x scope cl Fin (.ref ax) (Shared.mk sh sg sd stk so) := by
  refine LCt.CompSrcT.ledger hh F N hm (by rw [List.size_toArray, hi.length, sizeLine_eq]; (first | lia | omega)) fun g => ?_
  refine comp_restT (σ := Unit) (fun _ => news) (fun i ys _ => IntsAre ys ((ns.take i).filter p)) (c₀ := ()) (fun _ _ _ _ => .inr ⟨_, hm, rfl, _, rfl⟩) (fun _ _ _ _ => Nd) ?_ ?_ (by simpa using IntsAre.nil)
  · intro i v ys _ I oI C oC D m₂ h tk E' hlt hv hy hC hx F N Nd'
    obtain ⟨y, t, hvy, hny⟩ := IntsAre.at hi i v (by simpa using hv)
    subst hvy
    refine wpAny_mono (turn y t I oI C oC D ys m₂ h tk E' (fun b s' => b = p y ∧ ∃ h' tk', s' = (Shared.mk h' sg sd tk' so) ∧ Fr h₀ L h' m ∧ News h₀ L h' ((I, oI) :: (C, oC) :: (D, LCg.lst ys) :: news)) (List.mem_of_getElem? hny) hC hx F N Nd' fun h' tk' F' N' => ⟨rfl, h', tk', rfl, F', N'⟩) ?_ fun _ _ e => e
    rintro b s' ⟨rfl, h', tk', rfl, F', N'⟩
    have e : (ns.take (i + 1)).filter p = (ns.take i).filter p ++ (if p y = true then [y] else []) := by
      rw [List.take_add_one, hny, List.filter_append]
      congr 1
      simp only [Option.toList_some, List.filter_cons, List.filter_nil]
    cases hp : p y
    · rw [if_neg (by decide)]
      rw [hp, if_neg (by decide), List.append_nil] at e
      exact ⟨(), h', tk', rfl, F', N', Nd', by rw [e]; exact hy⟩
    · rw [if_pos rfl]
      rw [hp, if_pos rfl] at e
      refine LCgL.ld_own N' (.tail _ (.head _)) hC hx ⟨(), h', tk', rfl, F', N', Nd', by rw [e]; exact ints_append hy (.cons _ _ .nil)⟩ (hk C) (hl C) hd
  · intro ys _ hy
    rw [List.size_toArray, hi.length, List.take_length] at hy
    exact fin g ys hy
end
theorem off1_nodup {D : Addr} : ∀ {l : List (Addr × Obj)}, LCg.Off1 D l → (l.map (·.1)).Nodup → (D :: l.map (·.1)).Nodup := fun {l} h hn => by
  refine nodup_push ?_ hn
  clear hn
  induction l with
  | nil => exact fun p hp => nomatch hp
  | cons q l ih =>
    intro p hp
    rcases List.mem_cons.mp hp with rfl | hp
    · exact h.1
    · exact ih h.2 p hp
section
variable {prog : Program} {w : World} {A : Around} {h₀ : Heap} {L ax : Addr} {m : Str → Option Value} {env : Env} {ct elt : PySem.Expr} {x : Str} {scope : Scope} {cl : List (Str × Addr)} {sh : Heap} {sg : Array GenState} {sd : Drawn} {stk : Nat} {so : OsState} {Fin : List Value → List (Addr × Obj) → Prop} {FinS : Shared → List Value → List (Addr × Obj) → Prop} {news : List (Addr × Obj)} {vs : List Value} {ns : List Int} {k : Nat} {pe : Pos} {S : List (Addr × Obj) → Prop} {P : Nat → Value → Prop}
theorem comp_vals {β : Type} (R : Value → β → Prop) (bs : List β) {n : Nat} (hn : bs.length = n) (hS : S news) (Nd : (news.map (·.1)).Nodup)
    (turn : ∀ i v b I oI C oC D ys m₂ h tk (E' : Value → Shared → Prop) (P' : Value → Shared → Prop), bs[i]? = some b → P i v → LCg.NsObj oC m₂ → m₂ x = some v → Fr h₀ L h m → News h₀ L h ((I, oI) :: (C, oC) :: (D, LCg.lst ys) :: news) → (I :: C :: D :: news.map (·.1)).Nodup →
      (∀ y h' tk', R y b → Fr h₀ L h' m → News h₀ L h' ((I, oI) :: (C, oC) :: (D, LCg.lst ys) :: news) → P' y (Shared.mk h' sg sd tk' so)) →
      wpAny (model prog w) A (eval elt (compEnvC scope cl C env)) P' E' (Shared.mk h sg sd tk so))
    (fin : ∀ ys, All2 R ys bs → Fin ys news) : LCg.CompRest prog w A h₀ L m env elt x scope cl (Shared.mk sh sg sd stk so) S P Fin n 0 [] news := by
  refine comp_rest (σ := Unit) (fun _ => news) (fun i ys _ => All2 R ys (bs.take i)) (c₀ := ()) (fun _ _ _ _ => hS) (fun _ _ _ _ => Nd) ?_ ?_ (by simpa using (show All2 R [] [] from trivial))
  · intro i v ys _ I oI C oC D m₂ h tk E' hlt hv hy hC hx F N Nd'
    obtain ⟨b, hb⟩ : ∃ b, bs[i]? = some b := ⟨_, List.getElem?_eq_getElem (by (first | lia | omega))⟩
    refine wpAny_mono (turn i v b I oI C oC D ys m₂ h tk E' (fun y s' => R y b ∧ ∃ h' tk', s' = (Shared.mk h' sg sd tk' so) ∧ Fr h₀ L h' m ∧ News h₀ L h' ((I, oI) :: (C, oC) :: (D, LCg.lst ys) :: news)) hb hv hC hx F N Nd' fun y h' tk' hr F' N' => ⟨hr, h', tk', rfl, F', N'⟩) ?_ fun _ _ e => e
    rintro y s' ⟨hr, h', tk', rfl, F', N'⟩
    refine ⟨(), h', tk', rfl, F', N', Nd', ?_⟩
    rw [List.take_add_one, hb]
    exact All2.append hy ⟨hr, trivial⟩
  · intro ys _ hy
    rw [← hn, List.take_length] at hy
    exact fin ys hy
theorem comp_src (hh : A.handled = none) (F : Fr h₀ L sh m) (N : News h₀ L sh news) (hm : (ax, listOf vs.toArray k) ∈ news) (hz : vs.length ≤ 100000)
    (h : ∀ g, LCg.CompRest prog w A h₀ L m env elt x scope cl (Shared.mk g sg sd stk so) (LCg.SrcAt h₀ ax vs.toArray) (fun i v => vs[i]? = some v) (FinS (Shared.mk g sg sd stk so)) vs.length 0 [] news) :
    LCg.CompSrc prog w A h₀ L m env elt x scope cl FinS (.ref ax) (Shared.mk sh sg sd stk so) := by
  refine LCg.CompSrc.ledger hh F N hm (by rw [List.size_toArray, sizeLine_eq]; (first | lia | omega)) fun g => ?_
  have e : (fun (i : Nat) (v : Value) => vs.toArray[i]? = some v) = fun i v => vs[i]? = some v := by funext i v; simp
  rw [List.size_toArray, e]
  exact h g
theorem src_mem {its : Array Value} {n : Nat} (hm : (ax, listOf its n) ∈ news) (ex : List (Addr × Obj)) : LCg.SrcAt h₀ ax its (ex ++ news) := .inr ⟨_, List.mem_append_right _ hm, rfl, _, rfl⟩
end
theorem all2_ints {f : Int → Int} {ys : List Value} {ns : List Int} (h : All2 (fun v n => ∃ t, v = Value.int (f n) t) ys ns) : IntsAre ys (ns.map f) := by
  refine All2.ind (P := fun ys ns => IntsAre ys (ns.map f)) .nil (fun x y xs ys q _ ih => ?_) h
  obtain ⟨t, e⟩ := q
  subst e; exact .cons _ _ ih
theorem all2_strs {f : Int → Str} {ys : List Value} {ns : List Int} (h : All2 (fun v n => ∃ t, v = Value.str (f n) t) ys ns) : StrsAre ys (ns.map f) := by
  refine All2.ind (P := fun ys ns => StrsAre ys (ns.map f)) .nil (fun x y xs ys q _ ih => ?_) h
  obtain ⟨t, e⟩ := q
  subst e; exact .cons _ _ ih
theorem fr_up {h₀ h : Heap} {L : Addr} {x : Str} {v : Value} {l l' : List (Str × Value)} (F : Fr h₀ L h (fun z => if z = x then some v else List.lookup z l)) (U : UpL x v l l') : Fr h₀ L h (fun z => List.lookup z l') := U.eq ▸ F
theorem Cx.room {w : World} {h₀ : Heap} {A : Around} {L : Addr} {d : Nat} (C : Cx w h₀ A L d) : A.units + 64 < PySem.cLine := by
  obtain ⟨_, _, _, _, _, _, _, _, C⟩ := C
  have := C.units
  have e : PySem.cLine = 9900 := rfl
  first | lia | omega
section
variable {prog : Program} {w : World} {A : Around} {E : Value → Shared → Prop} {sh : Heap} {sg : Array GenState} {sd : Drawn} {stk : Nat} {so : OsState} {h₀ : Heap} {L D b : Addr} {m : Str → Option Value} {news : List (Addr × Obj)} {vs ws : List Value} {ns ms : List Int} {n n2 d : Nat} {Q : Value → Shared → Prop}
theorem l_neI (C : Cx w h₀ A L d) (N : News h₀ L sh news) (ha : (D, listOf vs.toArray n) ∈ news) (hb : (b, listOf ws.toArray n2) ∈ news) (hi : IntsAre vs ns) (hj : IntsAre ws ms) (h : Q (.bool (!decide (ns = ms))) (Shared.mk sh sg sd stk so)) :
    wpAny (model prog w) A (compareOp .NotEq (.ref D) (.ref b)) Q E (Shared.mk sh sg sd stk so) := ke_ne_ints (N.isList ha) (N.isList hb) hi hj C.room h
end
example : True := by
  k_with "o compareOp NotEq ref ref" => ((k_here; k_dflt (refine' l_neI ?zk1_167 ?zk2_167 ?zk3_167 ?zk4_167 ?zk5_167 ?zk6_167 ?_; (case zk1_167 => assumption); (case zk2_167 => k_asm); (case zk3_167 => k_extra "o mem"); (case zk4_167 => k_extra "o mem"); (case zk5_167 => l_ints); (case zk6_167 => first | exact IntsAre.nil | l_ints); k_whole)))
  trivial

noncomputable def parIn (ps : List Int) (up : Int) (cs : List Int) : List Int := cs.foldl (fun ps c => ps.set c.toNat up) ps
noncomputable def parentsOf (cs : List (List Int)) : List Int := (List.range cs.length).foldl (fun ps (up : Nat) => parIn ps (up : Int) (cs.getD up [])) (List.replicate cs.length (-1))
noncomputable def partNames : List Str := [Str.ofString "table", Str.ofString "tbody", Str.ofString "tr"]
noncomputable def holdNames : List Str := [Str.ofString "table", Str.ofString "template"]
noncomputable def nmIs (S : St) (l : List Str) (x : Int) : Bool := l.any fun y => y == S.names.getD x.toNat Str.empty
noncomputable def lastD (l : List Int) : Int := l.getD (l.length - 1) 0
noncomputable def spotInto (S : St) (over : List Int) : Int :=
  if over.filter (nmIs S holdNames) ≠ [] then lastD (over.filter (nmIs S holdNames)) else over.getD 0 0
noncomputable def spotEnd (S : St) (cs : List (List Int)) (into : Int) : Int × Int :=
  let i2 := (List.lookup into S.contents).getD into
  (i2, ((cs.getD i2.toNat []).length : Int))
noncomputable def spotS (S : St) (cs : List (List Int)) (over : List Int) : Int × Int :=
  if S.foster = true ∧ nmIs S partNames (lastD over) = true then
    if nmIs S [Str.ofString "table"] (spotInto S over) = true then (par S (spotInto S over), (((cs.getD (par S (spotInto S over)).toNat []).idxOf (spotInto S over) : Nat) : Int))
    else spotEnd S cs (spotInto S over)
  else spotEnd S cs (lastD over)

section
variable {prog : Program} {w : World} {A : Around} {h₀ : Heap} {L : Addr} {m : Str → Option Value} {sh : Heap} {sg : Array GenState} {sd : Drawn} {stk : Nat} {so : OsState} {news ex : List (Addr × Obj)} {a : BA} {S : St} {Q : Value → Shared → Prop} {E : Value → Shared → Prop}
theorem c_all (C : Cx w h₀ A L 1) (F : Fr h₀ L sh m) (W : Bw prog w h₀ L sh ex a S)
    (k : ∀ h' tk D, Fr h₀ L h' m → Bw prog w h₀ L h' ((D, listOf [.ref a.si, .ref a.fi, .ref a.er, .ref a.ki, .ref a.sp, .ref a.na, .ref a.ar, .ref a.te, .ref a.pa, .ref a.ch, .ref a.co].toArray 0) :: ex) a S → Q (.ref D) (Shared.mk h' sg sd tk so)) :
    wpAny (model prog w) A (call (.ref 563) [.ref a.b]) Q E (Shared.mk sh sg sd stk so) := by
  obtain ⟨g, N, Nd, V⟩ := W
  refine' call_fn (binds := [bd "builder" (.ref a.b)]) C F N ?h1 ?h2 ?h3 ?h4 ?h5 ?h6 ?h7 ?h8 ?_
  k_extra "o m side"
  k_extra "o m go"
  exact k _ _ _ kF ⟨_, kN, Nd, V⟩
theorem only_sub {x y : Str} {o : List (Str × Value)} (h : Only x o) (hn : (y == x) = false) : List.lookup y o = none := h y (fun e => by rw [e, beq_self_eq_true] at hn; cases hn)
theorem getD_mem2 {α : Type} {l : List α} {i : Nat} {d : α} (h : i < l.length) : l.getD i d ∈ l := by
  rw [List.getD_eq_getElem?_getD, List.getElem?_eq_getElem h]; exact List.getElem_mem h
theorem all2_len {l : List (Addr × Obj)} {vs : List Value} {cs : List (List Int)} (h : All2 (ListAt l) vs cs) : vs.length = cs.length := h.length
theorem parIn_len (up : Int) : ∀ (cs ps : List Int), (parIn ps up cs).length = ps.length
  | [], _ => rfl
  | c :: cs, ps => by unfold parIn; rw [List.foldl_cons]; exact (parIn_len up cs _).trans (List.length_set ..)
theorem foldP_len (cs : List (List Int)) : ∀ (l : List Nat) (ps : List Int), (l.foldl (fun ps (up : Nat) => parIn ps (up : Int) (cs.getD up [])) ps).length = ps.length
  | [], _ => rfl
  | u :: l, ps => by rw [List.foldl_cons, foldP_len cs l, parIn_len]
end
namespace E_c_parents
noncomputable def St_ (prog : Program) (w : World) (A : Around) (h₀ : Heap) (L : Addr) (m : Str → Option Value) (sh : Heap) (sg : Array GenState) (sd : Drawn) (stk : Nat) (so : OsState) (ex : List (Addr × Obj)) (Q : Value → Shared → Prop) (E : Value → Shared → Prop) (D : Addr) (vs : List Value) (n : Nat) (cs : List (List Int)) : Prop :=
  ∀ (C : Cx w h₀ A L 1) (F : Fr h₀ L sh m) (N : News h₀ L sh ex) (Nd : (ex.map (·.1)).Nodup) (hD : (D, listOf (List.toArray vs) n) ∈ ex) (hc : All2 (ListAt ex) vs cs) (hz : cs.length ≤ 200) (hr : ∀ l ∈ cs, ∀ c ∈ l, 0 ≤ c ∧ c < cs.length) (k : ∀ h' tk R us c, Fr h₀ L h' m → News h₀ L h' ((R, listOf (List.toArray us) c) :: ex) → (R :: ex.map (·.1)).Nodup → IntsAre us (parentsOf cs) → Q (.ref R) (Shared.mk h' sg sd tk so)), wpAny (model prog w) A (call (.ref 556) [.ref D]) Q E (Shared.mk sh sg sd stk so)
noncomputable def v : CV × Addr × (List Value) × Nat × (List (List Int)) := @Classical.epsilon _ ⟨(cv0, default, default, default, default)⟩ fun v => ¬ St_ v.1.prog v.1.w v.1.A v.1.h₀ v.1.L v.1.m v.1.sh v.1.sg v.1.sd v.1.stk v.1.so v.1.ex v.1.Q v.1.E v.2.1 v.2.2.1 v.2.2.2.1 v.2.2.2.2
@[irreducible] noncomputable def prog : Program := v.1.prog
@[irreducible] noncomputable def w : World := v.1.w
@[irreducible] noncomputable def A : Around := v.1.A
@[irreducible] noncomputable def h₀ : Heap := v.1.h₀
@[irreducible] noncomputable def L : Addr := v.1.L
@[irreducible] noncomputable def m : Str → Option Value := v.1.m
@[irreducible] noncomputable def sh : Heap := v.1.sh
@[irreducible] noncomputable def sg : Array GenState := v.1.sg
@[irreducible] noncomputable def sd : Drawn := v.1.sd
@[irreducible] noncomputable def stk : Nat := v.1.stk
@[irreducible] noncomputable def so : OsState := v.1.so
@[irreducible] noncomputable def ex : List (Addr × Obj) := v.1.ex
@[irreducible] noncomputable def Q : Value → Shared → Prop := v.1.Q
@[irreducible] noncomputable def E : Value → Shared → Prop := v.1.E
@[irreducible] noncomputable def D : Addr := v.2.1
@[irreducible] noncomputable def vs : List Value := v.2.2.1
@[irreducible] noncomputable def n : Nat := v.2.2.2.1
@[irreducible] noncomputable def cs : List (List Int) := v.2.2.2.2
theorem core : St_ prog w A h₀ L m sh sg sd stk so ex Q E D vs n cs := by
  intro C F N Nd hD hc hz hr k
  refine' call_fn (binds := [bd "children" (.ref D)]) C F N ?h1 ?h2 ?h3 ?h4 ?h5 ?h6 ?h7 ?h8 ?_
  k_extra "o m side"
  have hl := hc.length
  k_extra "o m go"
  refine For_invV hG (by rfl) (by rfl) ?_
  k_extra "o m go"
  rename IsRange _ _ _ _ _ _ _ _ => hr0
  rename Fr _ _ _ _ => F'
  rename News _ _ _ _ => N'
  replace N' := News.drop2 N'
  replace Nd := nodup_drop2 Nd
  refine for_range (σ := List Value × Nat × { o : List (Str × Value) // Only (Str.ofString "child") o })
    (fun c => [bd "parents" (.ref D'), bd "children" (.ref D)] ++ c.2.2.1) (fun c => (D', listOf (List.toArray c.1) c.2.1) :: ex)
    (fun j c => IntsAre c.1 ((List.range j).foldl (fun ps (up : Nat) => parIn ps (up : Int) (cs.getD up [])) (List.replicate cs.length (-1)))) (_, 0, ⟨[], only_nil _⟩)
    (fun c => look_app_none rfl (only_sub c.2.2.2 rfl)) hh hr0 (by k_extra "o m oz") F' N' Nd (rep_ints _ _ _) ?_ ?_
  · clear N' F' Nd
    rintro j t ⟨us, c, o, ho⟩ I it h tk hj hI F' N' Nd
    dsimp only at hI F' N' Nd
    have hlen : us.length = cs.length := by rw [hI.length, foldP_len, List.length_replicate]
    obtain ⟨v1, hv1, c1, us1, n1, rfl, hm1, hi1⟩ := hc.get j (cs.getD j []) (by rw [List.getD_eq_getElem?_getD, List.getElem?_eq_getElem (by exact hj)]; rfl)
    have hv2 : vs[((j : Int)).toNat]? = some (.ref c1) := by rw [Int.toNat_natCast]; exact hv1
    have hmem : ∀ y ∈ cs.getD j [], 0 ≤ y ∧ y < cs.length := hr _ (getD_mem2 hj)
    generalize hps : (List.range j).foldl (fun ps (up : Nat) => parIn ps (up : Int) (cs.getD up [])) (List.replicate cs.length (-1)) = ps0 at hI
    dsimp only [List.cons_append, List.nil_append] at F'
    k_extra "o m go"
    refine For_invV hG (by rfl) (by rfl) ?_
    k_extra "o m go"
    refine for_listO (σ := List Value × Nat) (o₀ := o) (fun _ => [bd "up" (.int (j : Int) t), bd "parents" (.ref D'), bd "children" (.ref D)]) (fun c => (I, it) :: (D', listOf (List.toArray c.1) c.2) :: ex)
      (fun r c => ∃ pre rest, cs.getD j [] = pre ++ rest ∧ IntsAre r rest ∧ IntsAre c.1 (parIn ps0 (j : Int) pre) ∧ c.1.length = cs.length) (us, c) (n := n1) (fun _ => rfl) ho hh F' N' (fun _ _ _ => .tail _ (.tail _ hm1)) Nd ⟨[], _, rfl, hi1, hI, hlen⟩ ?_ ?_
    · clear N' F' Nd hI hlen
      rintro v r ⟨us, c⟩ I2 it2 h tk ⟨pre, rest, he, hr1, hI, hlen⟩ F' N' Nd
      dsimp only at he hr1 hI hlen F' N' Nd
      cases hr1 with
      | cons y ty hr1 =>
      obtain ⟨y0, y1⟩ := hmem y (by rw [he]; exact List.mem_append_right _ (.head _))
      k_extra "o m go"
      refine ⟨(us.set y.toNat (.int (j : Int) t), c), _, _, rfl, F', N', Nd, pre ++ [y], _, by rw [he]; simp, hr1, ?_, by simpa using hlen⟩
      unfold parIn
      rw [List.foldl_append]
      exact ints_set hI _
    · clear N' F' Nd hI hlen
      rintro ⟨us, c⟩ h tk o2 ⟨pre, rest, he, hr1, hI, hlen⟩ ho2 F' N' Nd
      dsimp only at he hr1 hI hlen F' N' Nd
      cases hr1
      rw [List.append_nil] at he
      dsimp only [List.cons_append, List.nil_append] at F'
      k_extra "o m go"
      refine ⟨(us, c, ⟨o2, ho2⟩), _, _, rfl, F', N', Nd, ?_⟩
      rw [List.range_succ, List.foldl_append]
      simp only [List.foldl_cons, List.foldl_nil]
      rw [hps, he]
      exact hI
  · clear N' F' Nd
    rintro ⟨us, c, o, ho⟩ h tk o2 hI ho2 F' N' Nd
    dsimp only at hI F' N' Nd
    dsimp only [List.cons_append, List.nil_append] at F'
    k_extra "o m go"
    exact k _ _ _ _ _ kF kN Nd hI
theorem all (v : CV × Addr × (List Value) × Nat × (List (List Int))) : St_ v.1.prog v.1.w v.1.A v.1.h₀ v.1.L v.1.m v.1.sh v.1.sg v.1.sd v.1.stk v.1.so v.1.ex v.1.Q v.1.E v.2.1 v.2.2.1 v.2.2.2.1 v.2.2.2.2 := eps_all ⟨v⟩ (P := fun v => St_ v.1.prog v.1.w v.1.A v.1.h₀ v.1.L v.1.m v.1.sh v.1.sg v.1.sd v.1.stk v.1.so v.1.ex v.1.Q v.1.E v.2.1 v.2.2.1 v.2.2.2.1 v.2.2.2.2) (by with_unfolding_all exact core) v
end E_c_parents
section
variable {prog : Program} {w : World} {A : Around} {h₀ : Heap} {L : Addr} {m : Str → Option Value} {sh : Heap} {sg : Array GenState} {sd : Drawn} {stk : Nat} {so : OsState} {news ex : List (Addr × Obj)} {a : BA} {S : St} {Q : Value → Shared → Prop} {E : Value → Shared → Prop}
theorem c_parents {D : Addr} {vs : List Value} {n : Nat} {cs : List (List Int)} (C : Cx w h₀ A L 1) (F : Fr h₀ L sh m) (N : News h₀ L sh ex) (Nd : (ex.map (·.1)).Nodup)
    (hD : (D, listOf (List.toArray vs) n) ∈ ex) (hc : All2 (ListAt ex) vs cs) (hz : cs.length ≤ 200) (hr : ∀ l ∈ cs, ∀ c ∈ l, 0 ≤ c ∧ c < cs.length)
    (k : ∀ h' tk R us c, Fr h₀ L h' m → News h₀ L h' ((R, listOf (List.toArray us) c) :: ex) → (R :: ex.map (·.1)).Nodup → IntsAre us (parentsOf cs) → Q (.ref R) (Shared.mk h' sg sd tk so)) :
    wpAny (model prog w) A (call (.ref 556) [.ref D]) Q E (Shared.mk sh sg sd stk so) :=
  E_c_parents.all (⟨prog, w, A, h₀, L, m, sh, sg, sd, stk, so, ex, cv0.news, cv0.a, cv0.S, Q, E⟩, D, vs, n, cs) C F N Nd hD hc hz hr k
end

section
variable {prog : Program} {w : World} {A : Around} {h₀ : Heap} {L : Addr} {m : Str → Option Value} {sh : Heap} {sg : Array GenState} {sd : Drawn} {stk : Nat} {so : OsState} {news ex : List (Addr × Obj)} {a : BA} {S : St} {Q : Value → Shared → Prop} {E : Value → Shared → Prop}
theorem getD_mem3 {α : Type} {l : List α} {i : Nat} {d : α} (h : i < l.length) : l.getD i d ∈ l := by
  rw [List.getD_eq_getElem?_getD, List.getElem?_eq_getElem h]; exact List.getElem_mem h
inductive KidCs (l : List (Addr × Obj)) (vs : List Value) (cs : List (List Int)) (z : Int) : Prop
  | mk (c : Addr) (us : List Value) (n : Nat) : vs[z.toNat]? = some (.ref c) → (c, listOf (List.toArray us) n) ∈ l → IntsAre us (cs.getD z.toNat []) → us.length = (cs.getD z.toNat []).length → cs.getD z.toNat [] ∈ cs → KidCs l vs cs z
theorem kid_cs {l : List (Addr × Obj)} {vs : List Value} {cs : List (List Int)} {z : Int} (hc : All2 (ListAt l) vs cs) (h0 : 0 ≤ z) (h1 : z < cs.length) :
    KidCs l vs cs z := by
  obtain ⟨v, hv, c, us, n, rfl, hm, hi⟩ := hc.get z.toNat (cs.getD z.toNat []) (by rw [List.getD_eq_getElem?_getD, List.getElem?_eq_getElem (by k_extra "o m oz")]; rfl)
  exact ⟨c, us, n, hv, hm, hi, hi.length, getD_mem3 (by k_extra "o m oz")⟩
end
namespace E_c_spot
noncomputable def St_ (prog : Program) (w : World) (A : Around) (h₀ : Heap) (L : Addr) (m : Str → Option Value) (sh : Heap) (sg : Array GenState) (sd : Drawn) (stk : Nat) (so : OsState) (ex : List (Addr × Obj)) (a : BA) (S : St) (Q : Value → Shared → Prop) (E : Value → Shared → Prop) (Dc : Addr) (Do : Addr) (vs : List Value) (os : List Value) (nc : Nat) (no : Nat) (n : Nat) (cs : List (List Int)) (over : List Int) : Prop :=
  ∀ (C : Cx w h₀ A L 1) (F : Fr h₀ L sh m) (W : Bw prog w h₀ L sh ex a S) (H : Ln S n) (hDc : (Dc, listOf (List.toArray vs) nc) ∈ ex) (hc : All2 (ListAt ex) vs cs) (hDo : (Do, listOf (List.toArray os) no) ∈ ex) (ho : IntsAre os over) (h0 : 0 < over.length) (hz : over.length ≤ 1000) (hr : ∀ y ∈ over, 0 ≤ y ∧ y < n) (hi2 : ∀ y ∈ over, 0 ≤ (List.lookup y S.contents).getD y ∧ (List.lookup y S.contents).getD y < cs.length) (hcz : ∀ l ∈ cs, l.length ≤ 1000) (hcl : cs.length ≤ 1000) (htab : ∀ y ∈ over, nmIs S [Str.ofString "table"] y = true → 0 ≤ par S y ∧ par S y < cs.length ∧ y ∈ cs.getD (par S y).toNat []) (k : ∀ h' tk D u v c, Fr h₀ L h' m → Bw prog w h₀ L h' ((D, ({ cls := .type "tuple", data := .seq #[.int (spotS S cs over).1 u, .int (spotS S cs over).2 v] c } : Obj)) :: ex) a S → Q (.ref D) (Shared.mk h' sg sd tk so)), wpAny (model prog w) A (call (.ref 549) [.ref a.t, .ref Dc, .ref Do, .bool S.foster]) Q E (Shared.mk sh sg sd stk so)
noncomputable def v : CV × Addr × Addr × (List Value) × (List Value) × Nat × Nat × Nat × (List (List Int)) × (List Int) := @Classical.epsilon _ ⟨(cv0, default, default, default, default, default, default, default, default, default)⟩ fun v => ¬ St_ v.1.prog v.1.w v.1.A v.1.h₀ v.1.L v.1.m v.1.sh v.1.sg v.1.sd v.1.stk v.1.so v.1.ex v.1.a v.1.S v.1.Q v.1.E v.2.1 v.2.2.1 v.2.2.2.1 v.2.2.2.2.1 v.2.2.2.2.2.1 v.2.2.2.2.2.2.1 v.2.2.2.2.2.2.2.1 v.2.2.2.2.2.2.2.2.1 v.2.2.2.2.2.2.2.2.2
@[irreducible] noncomputable def prog : Program := v.1.prog
@[irreducible] noncomputable def w : World := v.1.w
@[irreducible] noncomputable def A : Around := v.1.A
@[irreducible] noncomputable def h₀ : Heap := v.1.h₀
@[irreducible] noncomputable def L : Addr := v.1.L
@[irreducible] noncomputable def m : Str → Option Value := v.1.m
@[irreducible] noncomputable def sh : Heap := v.1.sh
@[irreducible] noncomputable def sg : Array GenState := v.1.sg
@[irreducible] noncomputable def sd : Drawn := v.1.sd
@[irreducible] noncomputable def stk : Nat := v.1.stk
@[irreducible] noncomputable def so : OsState := v.1.so
@[irreducible] noncomputable def ex : List (Addr × Obj) := v.1.ex
@[irreducible] noncomputable def a : BA := v.1.a
@[irreducible] noncomputable def S : St := v.1.S
@[irreducible] noncomputable def Q : Value → Shared → Prop := v.1.Q
@[irreducible] noncomputable def E : Value → Shared → Prop := v.1.E
@[irreducible] noncomputable def Dc : Addr := v.2.1
@[irreducible] noncomputable def Do : Addr := v.2.2.1
@[irreducible] noncomputable def vs : List Value := v.2.2.2.1
@[irreducible] noncomputable def os : List Value := v.2.2.2.2.1
@[irreducible] noncomputable def nc : Nat := v.2.2.2.2.2.1
@[irreducible] noncomputable def no : Nat := v.2.2.2.2.2.2.1
@[irreducible] noncomputable def n : Nat := v.2.2.2.2.2.2.2.1
@[irreducible] noncomputable def cs : List (List Int) := v.2.2.2.2.2.2.2.2.1
@[irreducible] noncomputable def over : List Int := v.2.2.2.2.2.2.2.2.2
theorem core : St_ prog w A h₀ L m sh sg sd stk so ex a S Q E Dc Do vs os nc no n cs over := by
  intro C F W H hDc hc hDo ho h0 hz hr hi2 hcz hcl htab k
  obtain ⟨g, N, Nd, V⟩ := W
  refine' call_fnC (binds := [bd "tree" (.ref a.t), bd "children" (.ref Dc), bd "over" (.ref Do), bd "is_foster" (.bool S.foster)]) C F N ?h1 ?h2 ?h3 ?h4 ?h5 ?h6 ?h7 ?h8 ?_
  k_extra "o m sideC"
  obtain ⟨o1, rfl, d1⟩ := CellsAre.one Y'
  replace d1 : o1.data = .cell (some (.ref a.t)) := d1
  replace F' : Fr hG L' h₁ (fun y => List.lookup y [bd "is_foster" (.bool S.foster), bd "over" (.ref Do), bd "children" (.ref Dc)]) := fr_bindL F' rfl
  simp only [List.cons_append, List.nil_append] at N'
  obtain ⟨Nd, lt1⟩ := nodup_up lt' Nd
  obtain ⟨y, hy⟩ : ∃ y, over.getD (over.length - 1) 0 = y := ⟨_, rfl⟩
  have hym : y ∈ over := by rw [← hy]; exact getD_mem3 (by k_extra "o m oz")
  have hyr := hr y hym
  have hs2 := H.na
  have hs3 := H.hn
  have hs4 := H.pa
  have hl := hc.length
  have part : ∀ (z : Int), z ∈ over → ∃ c us n, vs[((List.lookup z S.contents).getD z).toNat]? = some (.ref c) ∧ (c, listOf (List.toArray us) n) ∈ ex ∧ us.length = (cs.getD ((List.lookup z S.contents).getD z).toNat []).length ∧ (cs.getD ((List.lookup z S.contents).getD z).toNat []).length ≤ 1000 := fun z hz => by
    obtain ⟨c, us, nn, e1, e2, e3, e4, e5⟩ := kid_cs hc (hi2 z hz).1 (hi2 z hz).2
    exact ⟨c, us, nn, e1, e2, e4, hcz _ e5⟩
  k_extra "o m gci"
  simp only [hy] at F'
  walk1
  obtain ⟨c1, us1, n1, w1, w2, w3, w4⟩ := part y hym
  obtain ⟨z0, z1⟩ := hi2 y hym
  k_extra "o m gci"
  · clear w1 w2 w3 w4 z0 z1
    refine LCt.Assign_ListComp_T (F₀ := F') rfl (by with_unfolding_all rfl) (by with_unfolding_all rfl) (by decide) rfl (by decide) rfl rfl rfl ?_
    k_extra "o m gc"
    refine comp_filter hh F' N' Nd (.tail _ (.tail _ (List.mem_append_left _ hDo))) ho (by k_extra "o m oz") (nmIs S holdNames) ?_ ?_ (fun _ => rfl) (fun _ => rfl) (by decide)
    · clear F' N' Nd
      intro y2 t2 I oI C oC D ys m₂ h tk E' P2 hym2 hC hx F' N' Nd' hP2
      have hyr2 := hr y2 hym2
      k_extra "o m gc"
      exact hP2 _ _ F' (News.tl N')
    · intro gg ys hys D3 h3 tk3 F3 N3 o3
      replace F3 := fr_up F3 .new
      replace N3 : News hG L' h3 ((D3, listOf (List.toArray ys) ys.length) :: _) := N3
      replace Nd := off1_nodup o3 Nd
      clear F' N' o3
      generalize hfl : over.filter (nmIs S holdNames) = hol at hys
      have hlen := hys.length
      have hsi : spotInto S over = if hol ≠ [] then hol.getD (hol.length - 1) 0 else over.getD 0 0 := by unfold spotInto lastD; rw [hfl]
      have hzo : ∀ z, spotInto S over = z → z ∈ over := fun z hz => by
        rw [← hz, hsi]
        split
        · rename_i hne
          have hm : hol.getD (hol.length - 1) 0 ∈ hol := getD_mem3 (by have : hol.length ≠ 0 := fun e => hne (List.length_eq_zero_iff.mp e); k_extra "o m oz")
          rw [← hfl] at hm
          rw [← hfl]
          exact (List.mem_filter.mp hm).1
        · exact getD_mem3 h0
      have hlz : hol.length ≤ 1000 := by rw [← hfl]; exact Nat.le_trans (List.length_filter_le _ _) hz
      (first | refine Then.nx ?_ | dsimp only)
      walk1
      refine mono_cut (fun f s₂ => ∀ G : Flow → Shared → Prop, (∀ h' tk' D4 t4, (Fr hG L' h' (fun y => List.lookup y [bd "holders" (.ref D3), bd "into" (.int (spotInto S over) t4), bd "is_foster" (.bool S.foster), bd "over" (.ref Do), bd "children" (.ref Dc)])) → (News hG L' h' ((D4, listOf [].toArray 0) :: (L' + 1, o1) :: (ex ++ obs w.params a g))) → ((D4 :: (L' + 1) :: (ex ++ obs w.params a g).map (·.1)).Nodup) → G .next (Shared.mk h' sg sd tk' so)) → G f s₂) ?_ ?_
      · intro P hP
        by_cases hne : hol = []
        · rw [if_neg (by simpa using hne)] at hsi
          rw [hsi] at hP
          have hdc : decide (hol = []) = true := decide_eq_true hne
          k_extra "o m gc"
          exact hP _ _ fun G kk => kk _ _ _ _ F' (News.drop2 (News.drop2 N')) (nodup_drop2 (nodup_drop2 Nd))
        · rw [if_pos hne] at hsi
          rw [hsi] at hP
          have hdc : decide (hol = []) = false := decide_eq_false hne
          have hpos : 0 < hol.length := by have : hol.length ≠ 0 := fun e => hne (List.length_eq_zero_iff.mp e); k_extra "o m oz"
          have e1 : ((-1 : Int) + (hol.length : Int)).toNat = hol.length - 1 := by k_extra "o m oz"
          k_extra "o m gc"
          (try simp only [e1] at F')
          exact hP _ _ fun G kk => kk _ _ _ _ F' (News.drop2 (News.drop2 N')) (nodup_drop2 (nodup_drop2 Nd))
      · clear F3 N3 Nd hys hlen hlz
        intro f s₂ hX
        refine hX _ ?_
        clear hX
        intro h' tk' D4 t4 F' N' Nd
        have hov := hzo _ rfl
        have hsp : spotS S cs over = if nmIs S [Str.ofString "table"] (spotInto S over) = true then (par S (spotInto S over), (((cs.getD (par S (spotInto S over)).toNat []).idxOf (spotInto S over) : Nat) : Int)) else spotEnd S cs (spotInto S over) := if_pos ⟨by assumption, by unfold lastD; rw [hy]; assumption⟩
        clear hsi hzo hfl
        generalize spotInto S over = z at F' hov hsp
        have hzr := hr z hov
        obtain ⟨c1, us1, n1, w1, w2, w3, w4⟩ := part z hov
        obtain ⟨z0, z1⟩ := hi2 z hov
        have hsb := V.sp.length
        by_cases htb : (S.names.getD z.toNat Str.empty == Str.ofString "table") = true
        · have e2 : nmIs S [Str.ofString "table"] z = true := by unfold nmIs; rw [List.any_cons, List.any_nil, Bool.or_false]; rw [beq_iff_eq] at htb ⊢; exact htb.symm
          rw [if_pos e2] at hsp
          obtain ⟨p0, p1, p2⟩ := htab z hov e2
          obtain ⟨c2, us2, n2, x1, x2, x3, x4, x5⟩ := kid_cs hc p0 p1
          have x6 := hcz _ x5
          have x7 : (cs.getD (par S z).toNat []).idxOf z < (cs.getD (par S z).toNat []).length := List.idxOf_lt_length_iff.mpr p2
          rw [hsp] at k
          unfold par at *
          k_extra "o m gc"
          exact k _ _ _ _ _ _ kF ⟨g, News.drop2 (News.drop2 kN), nodup_drop2 (nodup_drop2 Nd), V⟩
        · rw [Bool.not_eq_true] at htb
          have e2 : ¬ nmIs S [Str.ofString "table"] z = true := by unfold nmIs; rw [List.any_cons, List.any_nil, Bool.or_false]; intro q; rw [beq_iff_eq] at q; rw [q] at htb; simp at htb
          rw [if_neg e2] at hsp
          rw [hsp] at k
          k_extra "o m gc"
          exact k _ _ _ _ _ _ kF ⟨g, News.drop2 (News.drop2 kN), nodup_drop2 (nodup_drop2 Nd), V⟩
  · have hsp : spotS S cs over = spotEnd S cs y := by
      have e : ¬ (S.foster = true ∧ nmIs S partNames (lastD over) = true) := fun q => by
        have h2 := q.2
        unfold lastD at h2
        rw [hy] at h2
        have h3 : nmIs S partNames y = false := by assumption
        rw [h3] at h2; cases h2
      unfold spotS
      rw [if_neg e]
      unfold lastD; rw [hy]
    rw [hsp] at k
    k_extra "o m gc"
    exact k _ _ _ _ _ _ kF ⟨g, News.drop2 (News.drop2 kN), nodup_drop2 (nodup_drop2 Nd), V⟩
  · have hsp : spotS S cs over = spotEnd S cs y := by
      have e : ¬ (S.foster = true ∧ nmIs S partNames (lastD over) = true) := fun q => by
        have h3 : S.foster = false := by assumption
        rw [h3] at q; cases q.1
      unfold spotS
      rw [if_neg e]
      unfold lastD; rw [hy]
    rw [hsp] at k
    k_extra "o m gc"
    exact k _ _ _ _ _ _ kF ⟨g, News.drop2 kN, nodup_drop2 Nd, V⟩
theorem all (v : CV × Addr × Addr × (List Value) × (List Value) × Nat × Nat × Nat × (List (List Int)) × (List Int)) : St_ v.1.prog v.1.w v.1.A v.1.h₀ v.1.L v.1.m v.1.sh v.1.sg v.1.sd v.1.stk v.1.so v.1.ex v.1.a v.1.S v.1.Q v.1.E v.2.1 v.2.2.1 v.2.2.2.1 v.2.2.2.2.1 v.2.2.2.2.2.1 v.2.2.2.2.2.2.1 v.2.2.2.2.2.2.2.1 v.2.2.2.2.2.2.2.2.1 v.2.2.2.2.2.2.2.2.2 := eps_all ⟨v⟩ (P := fun v => St_ v.1.prog v.1.w v.1.A v.1.h₀ v.1.L v.1.m v.1.sh v.1.sg v.1.sd v.1.stk v.1.so v.1.ex v.1.a v.1.S v.1.Q v.1.E v.2.1 v.2.2.1 v.2.2.2.1 v.2.2.2.2.1 v.2.2.2.2.2.1 v.2.2.2.2.2.2.1 v.2.2.2.2.2.2.2.1 v.2.2.2.2.2.2.2.2.1 v.2.2.2.2.2.2.2.2.2) (by with_unfolding_all exact core) v
end E_c_spot
section
variable {prog : Program} {w : World} {A : Around} {h₀ : Heap} {L : Addr} {m : Str → Option Value} {sh : Heap} {sg : Array GenState} {sd : Drawn} {stk : Nat} {so : OsState} {news ex : List (Addr × Obj)} {a : BA} {S : St} {Q : Value → Shared → Prop} {E : Value → Shared → Prop}
theorem c_spot {Dc Do : Addr} {vs os : List Value} {nc no n : Nat} {cs : List (List Int)} {over : List Int} (C : Cx w h₀ A L 1) (F : Fr h₀ L sh m) (W : Bw prog w h₀ L sh ex a S) (H : Ln S n)
    (hDc : (Dc, listOf (List.toArray vs) nc) ∈ ex) (hc : All2 (ListAt ex) vs cs) (hDo : (Do, listOf (List.toArray os) no) ∈ ex) (ho : IntsAre os over) (h0 : 0 < over.length) (hz : over.length ≤ 1000)
    (hr : ∀ y ∈ over, 0 ≤ y ∧ y < n) (hi2 : ∀ y ∈ over, 0 ≤ (List.lookup y S.contents).getD y ∧ (List.lookup y S.contents).getD y < cs.length) (hcz : ∀ l ∈ cs, l.length ≤ 1000) (hcl : cs.length ≤ 1000)
    (htab : ∀ y ∈ over, nmIs S [Str.ofString "table"] y = true → 0 ≤ par S y ∧ par S y < cs.length ∧ y ∈ cs.getD (par S y).toNat [])
    (k : ∀ h' tk D u v c, Fr h₀ L h' m → Bw prog w h₀ L h' ((D, ({ cls := .type "tuple", data := .seq #[.int (spotS S cs over).1 u, .int (spotS S cs over).2 v] c } : Obj)) :: ex) a S → Q (.ref D) (Shared.mk h' sg sd tk so)) :
    wpAny (model prog w) A (call (.ref 549) [.ref a.t, .ref Dc, .ref Do, .bool S.foster]) Q E (Shared.mk sh sg sd stk so) :=
  E_c_spot.all (⟨prog, w, A, h₀, L, m, sh, sg, sd, stk, so, ex, cv0.news, a, S, Q, E⟩, Dc, Do, vs, os, nc, no, n, cs, over) C F W H hDc hc hDo ho h0 hz hr hi2 hcz hcl htab k
end

noncomputable def keptL (S : St) (btw : List Int) : List Int := (btw.drop (btw.length - 3)).filter fun y => decide (y ∈ S.fmt)
noncomputable def farL (btw : List Int) : List Int := btw.take (btw.length - 3)
noncomputable def cpL (S : St) (kept : List Int) : Nat → List (Int × Int)
  | 0 => []
  | k + 1 => cpL S kept k ++ [(kept.getD (kept.length - 1 - k) 0, (S.kinds.length : Int) + (k : Int))]
noncomputable def cpAll (S : St) (btw : List Int) : List (Int × Int) := cpL S (keptL S btw) (keptL S btw).length
noncomputable def cpOf (S : St) (btw : List Int) (y : Int) : Int := (List.lookup y (cpAll S btw)).getD y
noncomputable def leftL (S : St) (btw : List Int) : List Int := (S.fmt.filter fun y => !decide (y ∈ farL btw)).map (cpOf S btw)
noncomputable def markD (S : St) (x : Int) (btw : List Int) : Int :=
  if keptL S btw ≠ [] then ((leftL S btw).idxOf (cpOf S btw ((keptL S btw).getD ((keptL S btw).length - 1) 0)) : Int) + 1 else ((leftL S btw).idxOf x : Int)
noncomputable def rowD (S : St) (btw : List Int) (b : Int) : List Int := (keptL S btw).map (cpOf S btw) ++ [b]
noncomputable def wrapD (S : St) (btw : List Int) : Int := (S.kinds.length : Int) + ((keptL S btw).length : Int)
noncomputable def ch0 (S : St) (btw : List Int) : List (List Int) := S.children ++ List.replicate ((keptL S btw).length + 1) []
noncomputable def ch1 (S : St) (btw : List Int) (b : Int) : List (List Int) := (ch0 S btw).set (par S b).toNat (((ch0 S btw).getD (par S b).toNat []).erase b)
noncomputable def ch2 (S : St) (pre btw : List Int) (b : Int) : List (List Int) :=
  let sp := spotS S (ch1 S btw b) pre
  (ch1 S btw b).set sp.1.toNat (putIn ((ch1 S btw b).getD sp.1.toNat []) sp.2.toNat ((rowD S btw b).getD 0 0))
noncomputable def chK (S : St) (pre btw : List Int) (b : Int) : Nat → List (List Int)
  | 0 => ch2 S pre btw b
  | k + 1 => (chK S pre btw b k).set ((rowD S btw b).getD k 0).toNat ((chK S pre btw b k).getD ((rowD S btw b).getD k 0).toNat [] ++ [(rowD S btw b).getD (k + 1) 0])
noncomputable def ch3 (S : St) (pre btw : List Int) (b : Int) : List (List Int) := chK S pre btw b (keptL S btw).length
noncomputable def chD (S : St) (pre btw : List Int) (b : Int) : List (List Int) := ((ch3 S pre btw b).set (wrapD S btw).toNat ((ch3 S pre btw b).getD b.toNat [])).set b.toNat [wrapD S btw]
noncomputable def freshD (S : St) (btw : List Int) (x : Int) : List Int := (keptL S btw).reverse ++ [x]
noncomputable def itemsD (S : St) (x : Int) (btw : List Int) : List Int :=
  (((leftL S btw).take (markD S x btw).toNat ++ [wrapD S btw]) ++ (leftL S btw).drop (markD S x btw).toNat).filter fun y => !decide (y = x)
noncomputable def wholeD (S : St) (pre : List Int) (x : Int) (btw : List Int) (b : Int) (post : List Int) : St :=
  { stack := ((pre ++ rowD S btw b) ++ [wrapD S btw]) ++ post
    fmt := itemsD S x btw
    kinds := S.kinds ++ List.replicate (freshD S btw x).length sElem
    spaces := S.spaces ++ List.replicate (freshD S btw x).length sHtml
    names := S.names ++ (freshD S btw x).map (nameOf S)
    attrs := S.attrs ++ (freshD S btw x).map (attrOf S)
    texts := S.texts ++ List.replicate (freshD S btw x).length Str.empty
    parents := parentsOf (chD S pre btw b)
    children := chD S pre btw b
    contents := S.contents }
noncomputable def dI (l : List Int) : Dat := .list (l.map Dat.int)
noncomputable def dS (l : List Str) : Dat := .list (l.map Dat.str)
noncomputable def dP (p : Str × Str) : Dat := .tuple [.str p.1, .str p.2]
noncomputable def dA (l : List (List (Str × Str))) : Dat := .list (l.map fun ps => .list (ps.map dP))
noncomputable def dL (l : List (List Int)) : Dat := .list (l.map dI)
noncomputable def datsOf (T : St) : List Dat := [dI T.stack, dI T.fmt, .list [], dS T.kinds, dS T.spaces, dS T.names, dA T.attrs, dS T.texts, dI T.parents, dL T.children]

inductive Pick {α : Type} : List α → List α → Prop
  | refl {l} : Pick l l
  | take {x l l' r} : Pull x l l' → Pick l' r → Pick l (x :: r)
  | drop {y l r} : Pick l r → Pick (y :: l) r
theorem Pick.ex {α : Type} {l r : List α} (h : Pick l r) : ∃ d, List.Perm l (r ++ d) := by
  induction h with
  | refl => exact ⟨[], by simp⟩
  | take h _ ih => obtain ⟨d, q⟩ := ih; exact ⟨d, h.perm.trans (.cons _ q)⟩
  | @drop y l r _ ih => obtain ⟨d, q⟩ := ih; exact ⟨y :: d, (List.Perm.cons y q).trans List.perm_middle.symm⟩
theorem pick_news {h₀ h : Heap} {L : Addr} {l l' : List (Addr × Obj)} (p : Pick l l') (N : News h₀ L h l) (Nd : (l.map (·.1)).Nodup) : News h₀ L h l' ∧ (l'.map (·.1)).Nodup := by
  obtain ⟨d, q⟩ := p.ex
  obtain ⟨N2, Nd2⟩ := perm_news q N Nd
  refine ⟨fun x hx => N2 x (List.mem_append_left _ hx), ?_⟩
  rw [List.map_append, List.nodup_append] at Nd2
  exact Nd2.1
example : True := by
  k_with "o m pick" => (first | with_reducible exact Pick.refl | ((with_reducible refine' Pick.take ?zka_168 ?zkb_168); (case zka_168 => k_extra "o m pull"); (case zkb_168 => k_extra "o m pick")) | ((with_reducible refine' Pick.drop ?zkc_168); (case zkc_168 => k_extra "o m pick")))
  trivial
theorem lat_kid {c : Addr} {o o' : Obj} : ∀ {kl : List (Addr × Obj)} {i : Nat} (Y : List (Addr × Obj)), kl[i]? = some (c, o) → LAt c o o' (kl ++ Y) (kl.set i (c, o') ++ Y)
  | [], i, _, h => by simp at h
  | p :: kl, 0, Y, h => by
    simp only [List.getElem?_cons_zero, Option.some.injEq] at h
    subst h
    exact .here
  | p :: kl, i + 1, Y, h => by
    simp only [List.getElem?_cons_succ] at h
    exact .there (lat_kid Y h)
example : True := by
  k_with "o m lat" => (first | with_reducible exact LAt.here | with_reducible exact lat_kid _ (by assumption) | ((with_reducible refine' LAt.there ?zlat_169); (case zlat_169 => k_extra "o m lat")))
  trivial
theorem kl_mem {kl Y : List (Addr × Obj)} {i : Nat} {p : Addr × Obj} (h : kl[i]? = some p) : p ∈ kl ++ Y := List.mem_append_left _ (List.mem_of_getElem? h)
example : True := by
  k_with "o k_mem" => (((first | with_reducible refine' in_appM ?_ | with_reducible refine' in_app ?_); with_reducible exact kl_mem (by with_reducible assumption)))
  trivial
inductive KidKl (kl : List (Addr × Obj)) (cs : List (List Int)) (z : Nat) : Prop
  | mk (c : Addr) (us : List Value) (n : Nat) : kl[z]? = some (c, listOf (List.toArray us) n) → IntsAre us (cs.getD z []) → (refsOf1 kl)[z]? = some (.ref c) → us.length = (cs.getD z []).length → KidKl kl cs z
theorem kid_kl {kl : List (Addr × Obj)} {cs : List (List Int)} {z : Nat} (hc : All2 KidAt kl cs) (h1 : z < cs.length) : KidKl kl cs z := by
  obtain ⟨⟨c, o⟩, hk, us, n, ho, hi⟩ := hc.get z (cs.getD z []) (by rw [List.getD_eq_getElem?_getD, List.getElem?_eq_getElem h1]; rfl)
  simp only at ho
  subst ho
  exact ⟨c, us, n, hk, hi, by rw [List.getElem?_map, hk]; rfl, hi.length⟩
theorem kids_listAt {kl : List (Addr × Obj)} {cs : List (List Int)} : All2 KidAt kl cs → All2 (ListAt kl) (refsOf1 kl) cs := by
  have key : ∀ (kl : List (Addr × Obj)) (cs : List (List Int)) (l : List (Addr × Obj)), (∀ p ∈ kl, p ∈ l) → All2 KidAt kl cs → All2 (ListAt l) (refsOf1 kl) cs := by
    intro kl
    induction kl with
    | nil => intro cs l _ h; cases cs with | nil => trivial | cons _ _ => exact h.elim
    | cons p kl ih =>
      intro cs l hs h
      cases cs with
      | nil => exact h.elim
      | cons c cs =>
        obtain ⟨⟨vs, n, e, hi⟩, h2⟩ := h
        refine ⟨⟨p.1, vs, n, rfl, ?_, hi⟩, ih cs l (fun q hq => hs q (.tail _ hq)) h2⟩
        have := hs p (.head _)
        rw [← e]; exact this
  exact key kl cs kl fun _ h => h
section
variable {prog : Program} {w : World} {A : Around} {h₀ : Heap} {L : Addr} {m : Str → Option Value} {env : Env} {elt : PySem.Expr} {x : Str} {scope : Scope} {cl : List (Str × Addr)} {sh : Heap} {sg : Array GenState} {sd : Drawn} {stk : Nat} {so : OsState} {Fin : List Value → List (Addr × Obj) → Prop} {news : List (Addr × Obj)} {S : List (Addr × Obj) → Prop} {P : Nat → Value → Prop}
theorem comp_kids {β : Type} (R : Addr × Obj → β → Prop) (bs : List β) {n : Nat} (hn : bs.length = n) (hS : ∀ ex, S (ex ++ news)) (Nd : (news.map (·.1)).Nodup)
    (turn : ∀ i v b ex I oI C oC D ys m₂ h tk (E' : Value → Shared → Prop) (P' : Value → Shared → Prop), bs[i]? = some b → P i v → LCg.NsObj oC m₂ → m₂ x = some v → Fr h₀ L h m → News h₀ L h ((I, oI) :: (C, oC) :: (D, LCg.lst ys) :: (ex ++ news)) → (I :: C :: D :: (ex ++ news).map (·.1)).Nodup →
      (∀ h' tk' q, Fr h₀ L h' m → News h₀ L h' (q :: (I, oI) :: (C, oC) :: (D, LCg.lst ys) :: (ex ++ news)) → (q.1 :: I :: C :: D :: (ex ++ news).map (·.1)).Nodup → R q b → P' (.ref q.1) (Shared.mk h' sg sd tk' so)) →
      wpAny (model prog w) A (eval elt (compEnvC scope cl C env)) P' E' (Shared.mk h sg sd tk so))
    (fin : ∀ kl, ((kl ++ news).map (·.1)).Nodup → All2 R kl bs → Fin (refsOf1 kl) (kl.reverse ++ news)) : LCg.CompRest prog w A h₀ L m env elt x scope cl (Shared.mk sh sg sd stk so) S P Fin n 0 [] news := by
  have key := comp_rest (prog := prog) (w := w) (A := A) (h₀ := h₀) (L := L) (m := m) (env := env) (elt := elt) (x := x) (scope := scope) (cl := cl) (sh := sh) (sg := sg) (sd := sd) (stk := stk) (so := so) (S := S) (P := P) (Fin := Fin) (σ := List (Addr × Obj)) (n := n) (fun kl => kl.reverse ++ news) (fun i ys kl => ys = refsOf1 kl ∧ All2 R kl (bs.take i) ∧ ((kl.reverse ++ news).map (·.1)).Nodup) (c₀ := []) (fun _ _ ex _ => hS _) (fun _ _ _ h => h.2.2) ?_ ?_ ⟨rfl, by simpa using (show All2 R [] [] from trivial), Nd⟩
  · exact key
  · rintro i v ys kl I oI C oC D m₂ h tk E' hlt hv ⟨rfl, hy, _⟩ hC hx F N Nd'
    obtain ⟨b, hb⟩ : ∃ b, bs[i]? = some b := ⟨_, List.getElem?_eq_getElem (by (first | lia | omega))⟩
    refine wpAny_mono (turn i v b kl.reverse I oI C oC D _ m₂ h tk E' (fun y s' => ∃ h' tk' q, s' = (Shared.mk h' sg sd tk' so) ∧ y = .ref q.1 ∧ Fr h₀ L h' m ∧ News h₀ L h' (q :: (I, oI) :: (C, oC) :: (D, LCg.lst (refsOf1 kl)) :: (kl.reverse ++ news)) ∧ (q.1 :: I :: C :: D :: (kl.reverse ++ news).map (·.1)).Nodup ∧ R q b) hb hv hC hx F N Nd' fun h' tk' q F' N' Nq hr => ⟨h', tk', q, rfl, rfl, F', N', Nq, hr⟩) ?_ fun _ _ e => e
    rintro y s' ⟨h', tk', q, rfl, rfl, F', N', Nq, hr⟩
    obtain ⟨N2, Nd2⟩ := perm_news (l' := (I, oI) :: (C, oC) :: (D, LCg.lst (refsOf1 kl)) :: ((q :: kl.reverse) ++ news)) (by k_extra "o m perm") N' Nq
    have e : (kl ++ [q]).reverse = q :: kl.reverse := by simp
    refine ⟨kl ++ [q], h', tk', rfl, F', by (try dsimp only); rw [e]; exact N2, by (try dsimp only); rw [e]; exact Nd2, by simp, ?_, by rw [e]; exact nd_tl (nd_tl (nd_tl Nd2))⟩
    rw [List.take_add_one, hb]
    exact All2.append hy ⟨hr, trivial⟩
  · rintro ys kl ⟨rfl, hy, hd⟩
    rw [← hn, List.take_length] at hy
    refine fin kl ?_ hy
    rw [List.map_append] at hd ⊢
    refine (List.Perm.append_right _ ?_).nodup_iff.mp hd
    exact (List.reverse_perm kl).map _
end
theorem rev_pick {α : Type} (X kl Y : List α) : List.Perm (X ++ (kl.reverse ++ Y)) (X ++ (kl ++ Y)) := List.Perm.append_left _ (List.Perm.append_right _ (List.reverse_perm kl))
noncomputable def NN (h₀ : Heap) (L : Addr) (h : Heap) (l : List (Addr × Obj)) : Prop := News h₀ L h l ∧ (l.map (·.1)).Nodup
theorem pick_nn {h₀ h : Heap} {L : Addr} {l l' : List (Addr × Obj)} (p : Pick l l') (N : News h₀ L h l) (Nd : (l.map (·.1)).Nodup) : NN h₀ L h l' := pick_news p N Nd
theorem execs_app (l1 l2 : List Stmt) (env : Env) : execs (l1 ++ l2) env = (execs l1 env >>= fun f => match f with | .next => execs l2 env | f => pure f) := by
  induction l1 with
  | nil =>
    show execs l2 env = (pure Flow.next >>= _)
    rw [pure_bind]
  | cons st l1 ih =>
    rw [List.cons_append, execs_cons, execs_cons, bind_assoc]
    congr 1
    funext f
    cases f with
    | next => exact ih
    | ret v => exact (pure_bind (m := Sem) (Flow.ret v) _).symm
    | brk => exact (pure_bind (m := Sem) Flow.brk _).symm
    | cont => exact (pure_bind (m := Sem) Flow.cont _).symm
theorem execs_cut {M : Model} {A : Around} {E : Value → Shared → Prop} {s : Shared} {env : Env} {l : List Stmt} {Q : Flow → Shared → Prop} (k : Nat)
    (h : wpAny M A (execs (l.take k) env) (fun f s' => match f with | .next => wpAny M A (execs (l.drop k) env) Q E s' | f => Q f s') E s) : wpAny M A (execs l env) Q E s := by
  have e : execs l env = _ := (congrArg (execs · env) (List.take_append_drop k l).symm).trans (execs_app ..)
  rw [e]
  refine wpAny_bind (wpAny_mono h (fun f s' hq => ?_) fun _ _ x => x)
  cases f with
  | next => exact hq
  | ret v => exact wpAny_pure hq
  | brk => exact wpAny_pure hq
  | cont => exact wpAny_pure hq
theorem seg_cutC {M : Model} {A : Around} {E : Value → Shared → Prop} {s : Shared} {env : Env} {l : List Stmt} {Q : Flow → Shared → Prop} (k : Nat) (R : Shared → Prop)
    (h1 : ∀ P : Flow → Shared → Prop, (∀ s', R s' → P .next s') → wpAny M A (execs (l.take k) env) P (fun _ _ => False) s)
    (h2 : ∀ s', R s' → wpAny M A (execs (l.drop k) env) Q E s') : wpAny M A (execs l env) Q E s := by
  refine execs_cut k (wpAny_mono (h1 (fun f s' => f = .next ∧ R s') fun _ h => ⟨rfl, h⟩) (fun f s' hq => ?_) fun _ _ x => x.elim)
  obtain ⟨rfl, hr⟩ := hq
  exact h2 s' hr
section
variable {prog : Program} {w : World} {A : Around} {h₀ : Heap} {L ax : Addr} {m : Str → Option Value} {env : Env} {ct elt : PySem.Expr} {x : Str} {scope : Scope} {cl : List (Str × Addr)} {sh : Heap} {sg : Array GenState} {sd : Drawn} {stk : Nat} {so : OsState} {Fin : Shared → List Value → List (Addr × Obj) → Prop} {news : List (Addr × Obj)} {vs : List Value} {ns : List Int} {k : Nat}
theorem comp_fm (hh : A.handled = none) (F : Fr h₀ L sh m) (N : News h₀ L sh news) (Nd : (news.map (·.1)).Nodup) (hm : (ax, listOf vs.toArray k) ∈ news) (hi : IntsAre vs ns) (hz : ns.length ≤ 100000) (p : Int → Bool) (f : Int → Int)
    (turn : ∀ y t I oI C oC D ys m₂ h tk (E' : Value → Shared → Prop) (P' : Bool → Shared → Prop), y ∈ ns → LCg.NsObj oC m₂ → m₂ x = some (.int y t) → Fr h₀ L h m → News h₀ L h ((I, oI) :: (C, oC) :: (D, LCg.lst ys) :: news) → (I :: C :: D :: news.map (·.1)).Nodup →
      (∀ h' tk', Fr h₀ L h' m → News h₀ L h' ((I, oI) :: (C, oC) :: (D, LCg.lst ys) :: news) → P' (p y) (Shared.mk h' sg sd tk' so)) →
      wpAny (model prog w) A (isTrue ct (compEnvC scope cl C env) (eval ct (compEnvC scope cl C env))) P' E' (Shared.mk h sg sd tk so))
    (turn2 : ∀ y t I oI C oC D ys m₂ h tk (E' : Value → Shared → Prop) (P' : Value → Shared → Prop), y ∈ ns → LCg.NsObj oC m₂ → m₂ x = some (.int y t) → Fr h₀ L h m → News h₀ L h ((I, oI) :: (C, oC) :: (D, LCg.lst ys) :: news) → (I :: C :: D :: news.map (·.1)).Nodup →
      (∀ t' h' tk', Fr h₀ L h' m → News h₀ L h' ((I, oI) :: (C, oC) :: (D, LCg.lst ys) :: news) → P' (.int (f y) t') (Shared.mk h' sg sd tk' so)) →
      wpAny (model prog w) A (eval elt (compEnvC scope cl C env)) P' E' (Shared.mk h sg sd tk so))
    (fin : ∀ g ys, IntsAre ys ((ns.filter p).map f) → Fin (Shared.mk g sg sd stk so) ys news) :
    LCt.CompSrcT prog w A h₀ L m env ct elt x scope cl Fin (.ref ax) (Shared.mk sh sg sd stk so) := by
  refine LCt.CompSrcT.ledger hh F N hm (by rw [List.size_toArray, hi.length, sizeLine_eq]; (first | lia | omega)) fun g => ?_
  refine comp_restT (σ := Unit) (fun _ => news) (fun i ys _ => IntsAre ys (((ns.take i).filter p).map f)) (c₀ := ()) (fun _ _ _ _ => .inr ⟨_, hm, rfl, _, rfl⟩) (fun _ _ _ _ => Nd) ?_ ?_ (by simpa using IntsAre.nil)
  · intro i v ys _ I oI C oC D m₂ h tk E' hlt hv hy hC hx F N Nd'
    obtain ⟨y, t, hvy, hny⟩ := IntsAre.at hi i v (by simpa using hv)
    subst hvy
    refine wpAny_mono (turn y t I oI C oC D ys m₂ h tk E' (fun b s' => b = p y ∧ ∃ h' tk', s' = (Shared.mk h' sg sd tk' so) ∧ Fr h₀ L h' m ∧ News h₀ L h' ((I, oI) :: (C, oC) :: (D, LCg.lst ys) :: news)) (List.mem_of_getElem? hny) hC hx F N Nd' fun h' tk' F' N' => ⟨rfl, h', tk', rfl, F', N'⟩) ?_ fun _ _ e => e
    rintro b s' ⟨rfl, h', tk', rfl, F', N'⟩
    have e : (ns.take (i + 1)).filter p = (ns.take i).filter p ++ (if p y = true then [y] else []) := by
      rw [List.take_add_one, hny, List.filter_append]
      congr 1
      simp only [Option.toList_some, List.filter_cons, List.filter_nil]
    cases hp : p y
    · rw [if_neg (by decide)]
      rw [hp, if_neg (by decide), List.append_nil] at e
      exact ⟨(), h', tk', rfl, F', N', Nd', by rw [e]; exact hy⟩
    · rw [if_pos rfl]
      rw [hp, if_pos rfl] at e
      refine wpAny_mono (turn2 y t I oI C oC D ys m₂ h' tk' E' (fun v s' => ∃ t' h' tk', v = .int (f y) t' ∧ s' = (Shared.mk h' sg sd tk' so) ∧ Fr h₀ L h' m ∧ News h₀ L h' ((I, oI) :: (C, oC) :: (D, LCg.lst ys) :: news)) (List.mem_of_getElem? hny) hC hx F' N' Nd' fun t' h' tk' F' N' => ⟨t', h', tk', rfl, rfl, F', N'⟩) ?_ fun _ _ e => e
      rintro v s' ⟨t', h', tk', rfl, rfl, F', N'⟩
      exact ⟨(), h', tk', rfl, F', N', Nd', by rw [e, List.map_append]; exact ints_append hy (.cons _ _ .nil)⟩
  · intro ys _ hy
    rw [List.size_toArray, hi.length, List.take_length] at hy
    exact fin g ys hy
end
theorem norm_kids {h₀ h : Heap} {L : Addr} {x y z : Addr × Obj} {kA kB Bs : List (Addr × Obj)} (N : News h₀ L h (x :: y :: (kB.reverse ++ z :: (kA.reverse ++ Bs)))) (Nd : ((x :: y :: (kB.reverse ++ z :: (kA.reverse ++ Bs))).map (·.1)).Nodup) :
    NN h₀ L h (x :: ((kA ++ kB) ++ Bs)) := by
  have p1 : List.Perm (kB.reverse ++ z :: (kA.reverse ++ Bs)) (z :: ((kA ++ kB) ++ Bs)) := by
    refine List.perm_middle.trans (.cons _ ?_)
    rw [← List.append_assoc]
    exact List.Perm.append_right _ ((List.Perm.append (List.reverse_perm kB) (List.reverse_perm kA)).trans List.perm_append_comm)
  obtain ⟨N2, Nd2⟩ := perm_news (.cons x (.cons y p1)) N Nd
  exact pick_nn (.take .here (.drop (.drop .refl))) N2 Nd2

example : True := by
  k_with "o getAttr ref" => ((k_here; k_dflt (refine' get_own ?k1_171 ?k2_171 ?k3_171 ?k4_171 ?k5_171 ?k6_171 ?k7_171 ?k8_171 ?k9_171 ?_; (case k1_171 => k_asm); (case k2_171 => k_asm); (case k3_171 => (refine' InstAt.of_news ?N_171 ?h1_171 ?h2_171; (case N_171 => k_asm); (case h1_171 => k_extra "o mem"); (case h2_171 => k_extra "o mem"))); (case k4_171 => k_is); (case k5_171 => k_is); (case k6_171 => k_is); (case k7_171 => k_is); (case k8_171 => k_get); (case k9_171 => k_handed); k_whole)))
  trivial

structure DueOk (S : St) (n : Nat) (pre : List Int) (x : Int) (btw : List Int) (b : Int) (post : List Int) : Prop where
  ln : Ln S n
  n1 : n ≤ 150
  hst : S.stack = pre ++ x :: (btw ++ b :: post)
  nd : S.stack.Nodup
  p0 : 0 < pre.length
  sz : S.stack.length ≤ 50
  fz : S.fmt.length ≤ 100
  fr : ∀ y ∈ S.stack, 0 ≤ y ∧ y < n
  xl : keptL S btw = [] → x ∈ leftL S btw
  kv : ∀ y ∈ keptL S btw, ∃ v, List.lookup y (cpAll S btw) = some v
  km : keptL S btw ≠ [] → cpOf S btw ((keptL S btw).getD ((keptL S btw).length - 1) 0) ∈ leftL S btw
  kz : ∀ l ∈ S.children, l.length ≤ 200
  pb : 0 ≤ par S b ∧ par S b < n ∧ b ∈ (ch0 S btw).getD (par S b).toNat []
  hi2 : ∀ y ∈ pre, 0 ≤ (List.lookup y S.contents).getD y ∧ (List.lookup y S.contents).getD y < n
  htab : ∀ y ∈ pre, nmIs S [Str.ofString "table"] y = true → 0 ≤ par S y ∧ par S y < n ∧ y ∈ (ch1 S btw b).getD (par S y).toNat []
  rw : ∀ y ∈ rowD S btw b, 0 ≤ y ∧ y < (n : Int) + ((keptL S btw).length : Int)
  az : ∀ l ∈ S.attrs, l.length ≤ 100
  cr : ∀ l ∈ chD S pre btw b, ∀ c ∈ l, 0 ≤ c ∧ c < (n : Int) + ((keptL S btw).length : Int) + 1
  cz : S.contents.length ≤ 1000
  kn : ∀ k, k < (keptL S btw).length → List.lookup ((keptL S btw).getD ((keptL S btw).length - 1 - k) 0) (cpL S (keptL S btw) k) = none

inductive Spl {α : Type} : List α → List α → List α → Prop
  | refl {t} : Spl t [] t
  | cons {x l Y t} : Spl l Y t → Spl (x :: l) (x :: Y) t
  | app {k l Y t} : Spl l Y t → Spl (k ++ l) (k ++ Y) t
theorem Spl.eq {α : Type} {l Y t : List α} (h : Spl l Y t) : l = Y ++ t := by
  induction h with
  | refl => rfl
  | cons _ ih => rw [ih]; rfl
  | app _ ih => rw [ih, List.append_assoc]
theorem spl_nn {h₀ h : Heap} {L : Addr} {l Y t : List (Addr × Obj)} (p : Spl l Y t) (N : News h₀ L h l) (Nd : (l.map (·.1)).Nodup) : NN h₀ L h (Y ++ t) := by
  rw [p.eq] at N Nd; exact ⟨N, Nd⟩
theorem spl_nn1 {h₀ h : Heap} {L : Addr} {q : Addr × Obj} {l Y t : List (Addr × Obj)} (p : Spl l Y t) (N : News h₀ L h (q :: l)) (Nd : ((q :: l).map (·.1)).Nodup) : NN h₀ L h (q :: (Y ++ t)) := by
  rw [p.eq] at N Nd; exact ⟨N, Nd⟩
example : True := by
  k_with "o m spl" => (first | with_reducible exact Spl.refl | ((with_reducible refine' Spl.cons ?zsp_172); (case zsp_172 => k_extra "o m spl")) | ((with_reducible refine' Spl.app ?zsp_172); (case zsp_172 => k_extra "o m spl")))
  trivial
theorem ints_dat {l : List (Addr × Obj)} {vs : List Value} {ns : List Int} (h : IntsAre vs ns) : DatAll l vs (ns.map Dat.int) := by
  induction h with
  | nil => exact .nil
  | cons n t _ ih => exact .cons (.int n t) ih
theorem strs_dat {l : List (Addr × Obj)} {vs : List Value} {ns : List Str} (h : StrsAre vs ns) : DatAll l vs (ns.map Dat.str) := by
  induction h with
  | nil => exact .nil
  | cons n t _ ih => exact .cons (.str n t) ih
theorem strs_dat2 {l : List (Addr × Obj)} {vs : List Value} {xs ys : List Str} (h : StrsAre vs xs) (e : xs = ys) : DatAll l vs (ys.map Dat.str) := e ▸ strs_dat h
theorem list_dat {l l' : List (Addr × Obj)} (hs : ∀ p ∈ l', p ∈ l) {vs : List Value} {cs : List (List Int)} (h : All2 (ListAt l') vs cs) : DatAll l vs (cs.map dI) := by
  refine All2.ind (P := fun vs cs => DatAll l vs (cs.map dI)) .nil (fun x y xs ys q _ ih => ?_) h
  obtain ⟨c, us, n, e, hm, hi⟩ := q
  subst e
  exact .cons (.list (hs _ hm) (ints_dat hi)) ih
theorem pair_dat {l inn : List (Addr × Obj)} (hs : ∀ p ∈ inn, p ∈ l) {vs : List Value} {ps : List (Str × Str)} (h : All2 (PairAt inn) vs ps) : DatAll l vs (ps.map dP) := by
  refine All2.ind (P := fun vs ps => DatAll l vs (ps.map dP)) .nil (fun x y xs ys q _ ih => ?_) h
  obtain ⟨c, t1, t2, n, e, hm⟩ := q
  subst e
  exact .cons (.tuple (vs := [_, _]) (hs _ hm) (.cons (.str _ _) (.cons (.str _ _) .nil))) ih
noncomputable def AttK (inn : List (Addr × Obj)) (q : Addr × Obj) (ps : List (Str × Str)) : Prop := ∃ vs n, q.2 = listOf (List.toArray vs) n ∧ All2 (PairAt inn) vs ps
theorem att_dat {l inn : List (Addr × Obj)} (hs : ∀ p ∈ inn, p ∈ l) {kl : List (Addr × Obj)} {as : List (List (Str × Str))} (hk : ∀ p ∈ kl, p ∈ l) (h : All2 (AttK inn) kl as) : DatAll l (refsOf1 kl) (as.map fun ps => Dat.list (ps.map dP)) := by
  refine All2.ind (P := fun kl as => (∀ p ∈ kl, p ∈ l) → DatAll l (refsOf1 kl) (as.map fun ps => Dat.list (ps.map dP))) (fun _ => .nil) (fun x y xs ys q _ ih hk => ?_) h hk
  obtain ⟨vs, n, e, h1⟩ := q
  obtain ⟨c, o⟩ := x
  simp only at e
  subst e
  exact .cons (.list (hk _ (.head _)) (pair_dat hs h1)) (ih fun p hp => hk p (.tail _ hp))
theorem att_dat2 {l inn kA kB : List (Addr × Obj)} {as bs : List (List (Str × Str))} (hs : ∀ p ∈ inn, p ∈ l) (hA : All2 (AttK inn) kA as) (hB : All2 (AttK inn) kB bs) (sA : ∀ p ∈ kA, p ∈ l) (sB : ∀ p ∈ kB, p ∈ l) :
    DatAll l (refsOf1 kA ++ refsOf1 kB) ((as ++ bs).map fun ps => Dat.list (ps.map dP)) := by
  rw [List.map_append]; exact (att_dat hs sA hA).append (att_dat hs sB hB)
theorem attr_dat {l inn : List (Addr × Obj)} (hs : ∀ p ∈ inn, p ∈ l) {vs : List Value} {as : List (List (Str × Str))} (h : All2 (AttrAt inn) vs as) : DatAll l vs (as.map fun ps => Dat.list (ps.map dP)) := by
  refine All2.ind (P := fun vs as => DatAll l vs (as.map fun ps => Dat.list (ps.map dP))) .nil (fun x y xs ys q _ ih => ?_) h
  obtain ⟨c, vs, n, e, hm, h1⟩ := q
  subst e
  exact .cons (.list (hs _ hm) (pair_dat hs h1)) ih
theorem kid_dat {l : List (Addr × Obj)} {kl : List (Addr × Obj)} {cs : List (List Int)} (hk : ∀ p ∈ kl, p ∈ l) (h : All2 KidAt kl cs) : DatAll l (refsOf1 kl) (cs.map dI) := by
  refine All2.ind (P := fun kl cs => (∀ p ∈ kl, p ∈ l) → DatAll l (refsOf1 kl) (cs.map dI)) (fun _ => .nil) (fun x y xs ys q _ ih hk => ?_) h hk
  obtain ⟨vs, n, e, h1⟩ := q
  obtain ⟨c, o⟩ := x
  simp only at e
  subst e
  exact .cons (.list (hk _ (.head _)) (ints_dat h1)) (ih fun p hp => hk p (.tail _ hp))
noncomputable def WholeAt (prog : Program) (w : World) (l : List (Addr × Obj)) (vs : List Value) (T : St) : Prop :=
  ∃ us Dd od, vs = us ++ [.ref Dd] ∧ DatAll l us (datsOf T) ∧ (Dd, od) ∈ l ∧ IDict prog w od T.contents ∧ (Dd == sysModules) = false
theorem WholeAt.mono {prog : Program} {w : World} {l l' : List (Addr × Obj)} {vs : List Value} {T : St} (hs : ∀ p ∈ l, p ∈ l') (h : WholeAt prog w l vs T) : WholeAt prog w l' vs T := by
  obtain ⟨us, Dd, od, e, d, m, i, sy⟩ := h
  exact ⟨us, Dd, od, e, d.mono hs, hs _ m, i, sy⟩
structure DueAt (prog : Program) (w : World) (X inn : List (Addr × Obj)) (T1 T2 T3 : Addr) (S : St) (pre : List Int) (x : Int) (btw : List Int) (b : Int) (post : List Int) : Prop where
  told : ∃ u v c, (T1, ({ cls := .type "tuple", data := .seq #[.int ((rowD S btw b).getD 0 0) u, .int (markD S x btw) v] c } : Obj)) ∈ X
  inner : ∃ l1 l2 c v1 n1 v2 n2, (T2, listOf (List.toArray [.ref l1, .ref l2]) c) ∈ X ∧ (l1, listOf (List.toArray v1) n1) ∈ X ∧ IntsAre v1 (pre ++ [x] ++ rowD S btw b ++ post) ∧ (l2, listOf (List.toArray v2) n2) ∈ X ∧ IntsAre v2 (leftL S btw)
  whole : ∃ v3 n3, (T3, listOf (List.toArray v3) n3) ∈ X ∧ WholeAt prog w (X ++ inn) v3 (wholeD S pre x btw b post)
section
variable {prog : Program} {w : World} {A : Around} {E : Value → Shared → Prop} {sh : Heap} {sg : Array GenState} {sd : Drawn} {stk : Nat} {so : OsState} {h₀ : Heap} {L D : Addr} {m : Str → Option Value} {news : List (Addr × Obj)} {o : Obj} {c : List (Int × Int)} {Q : Value → Shared → Prop}
theorem l_dict (F : Fr h₀ L sh m) (N : News h₀ L sh news) (T : h₀.NoLimit) (hm : (D, o) ∈ news) (hd : IDict prog w o c) (hn : (D == sysModules) = false) (hz : c.length ≤ 1000)
    (h : ∀ d h' o', Fr h₀ L h' m → News h₀ L h' ((d, o') :: news) → (∀ p ∈ news, p.1 < d) → (d == sysModules) = false → IDict prog w o' c → Q (.ref d) (Shared.mk h' sg sd stk so)) : wpAny (model prog w) A (call (.type "dict") [.ref D]) Q E (Shared.mk sh sg sd stk so) :=
  kt_dict_K (knd := PySem.intKind _ _) (enc := PyData.int) F N T (d_tab N hm hd hn) (by rw [sizeLine_eq]; show (c.map _).length ≤ _; rw [List.length_map]; (first | lia | omega)) fun d h' o kvs F' N' l lo hd hf => h d h' o F' N' l lo ⟨_, hd, hf⟩
end
example : True := by
  k_with "o call type:dict" => ((k_here; (with_reducible show wpAny _ _ (call (Value.type "dict") [Value.ref _]) _ _ _); k_dflt (refine' l_dict ?zk1_173 ?zk2_173 ?zk3_173 ?zk4_173 ?zk5_173 ?zk6_173 ?zk7_173 ?_; (case zk1_173 => k_asm); (case zk2_173 => k_asm); (case zk3_173 => exact Top.nolimit (by k_asm)); (case zk4_173 => k_extra "o mem"); (case zk5_173 => k_extra "o m dict"); (case zk6_173 => k_extra "o m nosys"); (case zk7_173 => k_extra "o m ar"); k_whole); intro d' h' o' F' N' l1 lo' hd'; (try replace l1 := ne_all l1); k_dflt (try replace Nd := nodup_push l1 Nd); (try dsimp only [List.map] at Nd); (try k_sweep)))
  trivial
example : True := by
  k_with "o m wq" => (((fail_if_success (with_reducible show wpAny _ _ (binaryOp .Add (.ref _) (.ref _)) _ _ _)); k_extra "o m wc"))
  k_with "o m gq" => (repeat' (first | k_extra "o m wq" | (dsimp only; k_extra "o m wq")))
  k_with "o m catV" => ((k_dflt (refine' l_catV ?zk1_176 ?zk2_176 ?zk3_176 ?zk4_176 ?zk5_176 ?_; (case zk1_176 => k_asm); (case zk2_176 => k_asm); (case zk3_176 => k_extra "o mem"); (case zk4_176 => k_extra "o mem"); (case zk5_176 => k_extra "o m ar"); k_whole); intro D' h' F' N' l1; (try replace l1 := ne_all l1); k_dflt (try replace Nd := nodup_push l1 Nd); (try dsimp only [List.map] at Nd); (try k_sweep)))
  trivial

section
variable {prog : Program} {w : World} {A : Around} {h₀ : Heap} {L : Addr} {m : Str → Option Value} {sh : Heap} {sg : Array GenState} {sd : Drawn} {stk : Nat} {so : OsState} {news ex : List (Addr × Obj)} {a : BA} {S : St} {Q : Value → Shared → Prop} {E : Value → Shared → Prop}
theorem idx_app {l r : List Int} {x : Int} (h : x ∉ l) : (l ++ x :: r).idxOf x = l.length := by
  rw [List.idxOf_append, if_neg h, List.idxOf_cons_self]; k_extra "o m oz"
theorem seg_eq {pre btw post : List Int} {x b : Int} {i j : Nat} (hi : i = pre.length + 1) (hj : j = pre.length + 1 + btw.length) : ((pre ++ x :: (btw ++ b :: post)).drop i).take (min j (pre ++ x :: (btw ++ b :: post)).length - i) = btw := by
  subst hi hj
  have e : (pre ++ x :: (btw ++ b :: post)).drop (pre.length + 1) = btw ++ b :: post := by
    rw [List.drop_append, List.drop_eq_nil_of_le (by k_extra "o m oz")]
    simp
  rw [e, Nat.min_eq_left (by simp only [List.length_append, List.length_cons]; k_extra "o m oz"), show pre.length + 1 + btw.length - (pre.length + 1) = btw.length by k_extra "o m oz", List.take_left']
  rfl
theorem cpL_len (S : St) (l : List Int) : ∀ k, (cpL S l k).length = k
  | 0 => rfl
  | k + 1 => by rw [cpL, List.length_append, cpL_len S l k]; rfl
theorem all2_imp {α β : Type} {R R' : α → β → Prop} (h : ∀ x y, R x y → R' x y) {xs : List α} {ys : List β} (H : All2 R xs ys) : All2 R' xs ys :=
  All2.ind (P := All2 R') trivial (fun x y _ _ r _ ih => ⟨h x y r, ih⟩) H
theorem listAt_mono {l l' : List (Addr × Obj)} (h : ∀ p ∈ l, p ∈ l') {vs : List Value} {cs : List (List Int)} (H : All2 (ListAt l) vs cs) : All2 (ListAt l') vs cs := by
  refine all2_imp (fun _ _ q => ?_) H
  obtain ⟨c, us, n, e, hm, hi⟩ := q
  exact ⟨c, us, n, e, h _ hm, hi⟩
theorem spot_ok {S : St} {cs : List (List Int)} {over : List Int} (h0 : 0 < over.length)
    (hi2 : ∀ y ∈ over, 0 ≤ (List.lookup y S.contents).getD y ∧ (List.lookup y S.contents).getD y < cs.length)
    (htab : ∀ y ∈ over, nmIs S [Str.ofString "table"] y = true → 0 ≤ par S y ∧ par S y < cs.length ∧ y ∈ cs.getD (par S y).toNat []) :
    0 ≤ (spotS S cs over).1 ∧ (spotS S cs over).1 < cs.length ∧ 0 ≤ (spotS S cs over).2 ∧ (spotS S cs over).2 ≤ ((cs.getD (spotS S cs over).1.toNat []).length : Int) := by
  have hl : lastD over ∈ over := getD_mem3 (by k_extra "o m oz")
  have im : spotInto S over ∈ over := by
    unfold spotInto
    split
    · rename_i hne
      have : 0 < (over.filter (nmIs S holdNames)).length := by
        have : (over.filter (nmIs S holdNames)).length ≠ 0 := fun e => hne (List.length_eq_zero_iff.mp e)
        k_extra "o m oz"
      exact (List.mem_filter.mp (getD_mem3 (l := over.filter (nmIs S holdNames)) (i := (over.filter (nmIs S holdNames)).length - 1) (d := 0) (by k_extra "o m oz"))).1
    · exact getD_mem3 h0
  have en : ∀ z ∈ over, 0 ≤ (spotEnd S cs z).1 ∧ (spotEnd S cs z).1 < cs.length ∧ 0 ≤ (spotEnd S cs z).2 ∧ (spotEnd S cs z).2 ≤ ((cs.getD (spotEnd S cs z).1.toNat []).length : Int) := fun z hz => by
    have := hi2 z hz
    unfold spotEnd
    exact ⟨this.1, this.2, Int.natCast_nonneg _, Int.le_refl _⟩
  unfold spotS
  split
  · split
    · rename_i ht
      obtain ⟨a1, a2, a3⟩ := htab _ im ht
      exact ⟨a1, a2, Int.natCast_nonneg _, by have := List.idxOf_lt_length_of_mem a3; dsimp only; k_extra "o m oz"⟩
    · exact en _ im
  · exact en _ hl
theorem chK_len (S : St) (pre btw : List Int) (b : Int) : ∀ k, (chK S pre btw b k).length = (ch0 S btw).length
  | 0 => by rw [chK]; unfold ch2 ch1; dsimp only; rw [List.length_set, List.length_set]
  | k + 1 => by rw [chK, List.length_set, chK_len S pre btw b k]
theorem chK_cz {S : St} {pre btw : List Int} {b : Int} {z : Nat} (h : ∀ l ∈ ch2 S pre btw b, l.length ≤ z) : ∀ k, ∀ l ∈ chK S pre btw b k, l.length ≤ z + k
  | 0, l, hl => h l (by rw [chK] at hl; exact hl)
  | k + 1, l, hl => by
    rw [chK] at hl
    rcases List.mem_or_eq_of_mem_set hl with hl | rfl
    · have := chK_cz h k l hl; k_extra "o m oz"
    · rw [List.length_append]
      have : ((chK S pre btw b k).getD ((rowD S btw b).getD k 0).toNat []).length ≤ z + k := by
        by_cases hlt : ((rowD S btw b).getD k 0).toNat < (chK S pre btw b k).length
        · exact chK_cz h k _ (getD_mem3 hlt)
        · rw [List.getD_eq_getElem?_getD, List.getElem?_eq_none (by k_extra "o m oz")]; exact Nat.zero_le _
      simp only [List.length_cons, List.length_nil]; k_extra "o m oz"
theorem kept_le (S : St) (btw : List Int) : (keptL S btw).length ≤ 3 := by
  unfold keptL
  exact Nat.le_trans (List.length_filter_le _ _) (by rw [List.length_drop]; k_extra "o m oz")
example : True := by
  k_with "o subscriptTail Name Slice ref ref" => ((k_here; (with_reducible show wpAny _ _ (subscriptTail _ (PySem.Expr.Slice none none (some _) _) (Value.ref _) (Value.ref _)) _ _ _); k_dflt (refine' krv_ints ?yyF_177 ?yyN_177 ?yyl_177 ?yyk_177 ?yyi_177 ?_ ?yys_177 ?yyt_177 ?yyz_177; (case yyF_177 => k_asm); (case yyN_177 => k_asm); (case yyl_177 => exact News.isList (by k_asm) (by k_extra "o mem")); (case yyk_177 => exact IsPart.int _ _); (case yyi_177 => l_ints); (case yys_177 => with_unfolding_all rfl); (case yyt_177 => kmk_pure); (case yyz_177 => kmk_size)); intro D' ws' h' F' N' l1 hI' hC'; (try replace l1 := ne_all l1); k_dflt (try replace Nd := nodup_push l1 Nd); (try dsimp only [List.map] at Nd); (try k_sweep)))
  trivial
theorem l_catS {L D b : Addr} {vs ws : List Value} {n n2 : Nat} {xs ys : List Str} (F : Fr h₀ L sh m) (N : News h₀ L sh news) (ha : (D, listOf vs.toArray n) ∈ news) (hb : (b, listOf ws.toArray n2) ∈ news) (hi : StrsAre vs xs) (hj : StrsAre ws ys) (hz : xs.length + ys.length ≤ 1000000)
    (h : ∀ D us h', Fr h₀ L h' m → News h₀ L h' ((D, listOf (List.toArray us) 0) :: news) → (∀ p ∈ news, p.1 < D) → StrsAre us (xs ++ ys) → Q (.ref D) (Shared.mk h' sg sd stk so)) : wpAny (model prog w) A (binaryOp .Add (.ref D) (.ref b)) Q E (Shared.mk sh sg sd stk so) :=
  l_catV F N ha hb (by rw [hi.length, hj.length]; exact hz) fun D h' F' N' l => h D _ h' F' N' l (strs_append hi hj)
example : True := by
  k_with "o subscriptTail Name Name ref int" => ((k_extra "o subscriptTail"))
  k_with "o subscriptTail Name BinOp ref int" => ((k_extra "o subscriptTail"))
  k_with "o subscriptTail Name Attribute ref int" => ((k_extra "o subscriptTail"))
  k_with "o subscriptTail Name Subscript ref int" => ((k_extra "o subscriptTail"))
  k_with "o subscriptTail Name Call ref int" => ((k_extra "o subscriptTail"))
  k_with "o m strs" => (with_reducible exact rep_strs _ _ _)
  k_with "o m catS" => ((k_dflt (refine' l_catS ?zk1_184 ?zk2_184 ?zk3_184 ?zk4_184 ?zk5_184 ?zk6_184 ?zk7_184 ?_; (case zk1_184 => k_asm); (case zk2_184 => k_asm); (case zk3_184 => k_extra "o mem"); (case zk4_184 => k_extra "o mem"); (case zk5_184 => k_extra "o m strs"); (case zk6_184 => k_extra "o m strs"); (case zk7_184 => (try simp only [List.length_replicate]); k_extra "o m ar"); k_whole); intro D' us' h' F' N' l1 hI'; (try replace l1 := ne_all l1); k_dflt (try replace Nd := nodup_push l1 Nd); (try dsimp only [List.map] at Nd); (try k_sweep)))
  k_with "o m ws" => (((fail_if_success (with_reducible show wpAny _ _ (subscriptTail _ _ (.ref _) (.int _ _)) _ _ _)); k_extra "o m wc"))
  k_with "o m gs" => (repeat' (first | k_extra "o m ws" | (dsimp only; k_extra "o m ws")))
  trivial
theorem nd_rev {kl Y : List (Addr × Obj)} (h : ((kl ++ Y).map (·.1)).Nodup) : ((kl.reverse ++ Y).map (·.1)).Nodup := (((List.Perm.append_right Y (List.reverse_perm kl)).map (·.1)).nodup_iff).mpr h
theorem l_3 : (-(-3 : Int)).toNat = 3 := rfl
example : True := by
  k_with "o m cut" => ((try dsimp only [List.take_succ_cons, List.take_zero, List.drop_succ_cons, List.drop_zero]))
  k_with "o m oz" => (first | k_extra "o m arq" | lia | omega)
  k_with "o m ar" => (first | k_extra "o m arq" | lia | (dsimp only; first | k_extra "o m arq" | lia) | (simp only [List.length_append, List.length_cons, List.length_nil, length_putIn, List.length_set, List.length_map]; lia) | omega | (dsimp only; omega) | (simp only [List.length_append, List.length_cons, List.length_nil, length_putIn, List.length_set, List.length_map]; omega))
  trivial
noncomputable abbrev dueF1 (x b : Int) (tb : Tok) (Dl : Addr) (at' to : Nat) (t1 t2 : Tok) : List (Str × Value) := [bd "to" (.int (to : Int) t2), bd "at" (.int (at' : Int) t1), bd "line" (.ref Dl), bd "block" (.int b tb)]
end
namespace E_c_due
noncomputable def St_ (prog : Program) (w : World) (A : Around) (h₀ : Heap) (L : Addr) (m : Str → Option Value) (sh : Heap) (sg : Array GenState) (sd : Drawn) (stk : Nat) (so : OsState) (ex : List (Addr × Obj)) (a : BA) (S : St) (Q : Value → Shared → Prop) (E : Value → Shared → Prop) (n : Nat) (pre : List Int) (btw : List Int) (post : List Int) (x : Int) (b : Int) (tx : Tok) (tb : Tok) : Prop :=
  ∀ (C : Cx w h₀ A L 2) (F : Fr h₀ L sh m) (W : Bw prog w h₀ L sh ex a S) (O : DueOk S n pre x btw b post) (k : ∀ h' tk D T1 T2 T3 c X g', Fr h₀ L h' m → NN h₀ L h' ((D, ({ cls := .type "tuple", data := .seq #[.ref T1, .ref T2, .ref T3] c } : Obj)) :: (X ++ (ex ++ obs w.params a g'))) → Sv prog w a g' S → DueAt prog w X g'.inn T1 T2 T3 S pre x btw b post → Q (.ref D) (Shared.mk h' sg sd tk so)), wpAny (model prog w) A (call (.ref 568) [.ref a.b, .int x tx, .int b tb]) Q E (Shared.mk sh sg sd stk so)
noncomputable def v : CV × Nat × (List Int) × (List Int) × (List Int) × Int × Int × Tok × Tok := @Classical.epsilon _ ⟨(cv0, default, default, default, default, default, default, default, default)⟩ fun v => ¬ St_ v.1.prog v.1.w v.1.A v.1.h₀ v.1.L v.1.m v.1.sh v.1.sg v.1.sd v.1.stk v.1.so v.1.ex v.1.a v.1.S v.1.Q v.1.E v.2.1 v.2.2.1 v.2.2.2.1 v.2.2.2.2.1 v.2.2.2.2.2.1 v.2.2.2.2.2.2.1 v.2.2.2.2.2.2.2.1 v.2.2.2.2.2.2.2.2
@[irreducible] noncomputable def prog : Program := v.1.prog
@[irreducible] noncomputable def w : World := v.1.w
@[irreducible] noncomputable def A : Around := v.1.A
@[irreducible] noncomputable def h₀ : Heap := v.1.h₀
@[irreducible] noncomputable def L : Addr := v.1.L
@[irreducible] noncomputable def m : Str → Option Value := v.1.m
@[irreducible] noncomputable def sh : Heap := v.1.sh
@[irreducible] noncomputable def sg : Array GenState := v.1.sg
@[irreducible] noncomputable def sd : Drawn := v.1.sd
@[irreducible] noncomputable def stk : Nat := v.1.stk
@[irreducible] noncomputable def so : OsState := v.1.so
@[irreducible] noncomputable def ex : List (Addr × Obj) := v.1.ex
@[irreducible] noncomputable def a : BA := v.1.a
@[irreducible] noncomputable def S : St := v.1.S
@[irreducible] noncomputable def Q : Value → Shared → Prop := v.1.Q
@[irreducible] noncomputable def E : Value → Shared → Prop := v.1.E
@[irreducible] noncomputable def n : Nat := v.2.1
@[irreducible] noncomputable def pre : List Int := v.2.2.1
@[irreducible] noncomputable def btw : List Int := v.2.2.2.1
@[irreducible] noncomputable def post : List Int := v.2.2.2.2.1
@[irreducible] noncomputable def x : Int := v.2.2.2.2.2.1
@[irreducible] noncomputable def b : Int := v.2.2.2.2.2.2.1
@[irreducible] noncomputable def tx : Tok := v.2.2.2.2.2.2.2.1
@[irreducible] noncomputable def tb : Tok := v.2.2.2.2.2.2.2.2
theorem core : St_ prog w A h₀ L m sh sg sd stk so ex a S Q E n pre btw post x b tx tb := by
  intro C F W O k
  obtain ⟨g, N, Nd, V⟩ := W
  refine' call_fnC (binds := [bd "builder" (.ref a.b), bd "subject" (.int x tx), bd "block" (.int b tb)]) C F N ?h1 ?h2 ?h3 ?h4 ?h5 ?h6 ?h7 ?h8 ?_
  k_extra "o m sideC"
  obtain ⟨o5, o4, o3, o2, o1, rfl, d5, d4, d3, d2, d1⟩ := kc_five Y'
  replace d1 : o1.data = .cell (some (.ref a.b)) := d1
  replace d2 : o2.data = .cell (some (.int x tx)) := d2
  replace d3 : o3.data = .cell none := d3
  replace d4 : o4.data = .cell none := d4
  replace d5 : o5.data = .cell none := d5
  clear Y'
  replace F' : Fr hG L' h₁ (fun y => List.lookup y [bd "block" (.int b tb)]) := fr_bindL F' rfl
  simp only [List.cons_append, List.nil_append] at N'
  replace Nd := nodup_up5 lt' Nd
  clear lt'
  have hn := O.nd
  have hst := O.hst
  have hsz := O.sz
  have hxm : x ∈ S.stack := by rw [hst]; simp
  have hbm : b ∈ S.stack := by rw [hst]; simp
  have ix : S.stack.idxOf x = pre.length := by
    rw [hst] at hn ⊢
    refine idx_app fun hm => ?_
    rw [List.nodup_append] at hn
    exact hn.2.2 x hm x (.head _) rfl
  have ib : S.stack.idxOf b = pre.length + 1 + btw.length := by
    have e : S.stack = (pre ++ x :: btw) ++ b :: post := by rw [hst]; simp
    rw [e] at hn ⊢
    rw [idx_app]
    · simp only [List.length_append, List.length_cons]; k_extra "o m oz"
    · intro hm
      rw [List.nodup_append] at hn
      exact hn.2.2 b hm b (.head _) rfl
  have hln : S.stack.length = pre.length + 1 + btw.length + 1 + post.length := by rw [hst]; simp only [List.length_append, List.length_cons]; k_extra "o m oz"
  have hvl := V.si.length
  have hfl : S.fmt.length ≤ 100 := O.fz
  have hfl2 := V.fi.length
  have hbl : btw.length ≤ 50 := by k_extra "o m oz"
  have e1 := seg_eq (pre := pre) (btw := btw) (post := post) (x := x) (b := b) (i := ((pre.length : Int) + 1).toNat) (j := ((pre.length + 1 + btw.length : Nat) : Int).toNat) (by k_extra "o m oz") (by k_extra "o m oz")
  rw [← hst] at e1
  clear N
  -- s1
  refine seg_cutC 5 (fun s₂ => ∀ G : Shared → Prop, (∀ h' tk' Dl Df wl wf nl q3 q4 t1 t2, (Fr hG L' h' (fun y => List.lookup y (dueF1 x b tb Dl pre.length (pre.length + 1 + btw.length) t1 t2))) → NN hG L' h' ((Df, listOf (List.toArray wf) 0) :: (Dl, listOf (List.toArray wl) nl) :: (L' + 1 + 1 + 1 + 1 + 1, o5) :: (L' + 1 + 1 + 1 + 1, q4) :: (L' + 1 + 1 + 1, q3) :: (L' + 1 + 1, o2) :: (L' + 1, o1) :: (ex ++ obs w.params a g)) → (q3.data = .cell (some (.ref a.t))) → (q4.data = .cell (some (.ref Df))) → IntsAre wl S.stack → IntsAre wf (farL btw) → G (Shared.mk h' sg sd tk' so)) → G s₂) ?_ ?_
  · intro P hP
    k_extra "o m cut"
    k_extra "o m gc"
    rw [ix, ib] at *
    simp only [e1, l_3] at *
    exact hP _ (fun G kk => kk _ _ _ _ _ _ _ _ _ _ _ F' (pick_nn (by k_extra "o m pick") N' Nd) (by assumption) (by assumption) V.si (by assumption))
  clear N' F' Nd d3 d4
  intro s₂ hX
  refine hX _ ?_
  clear hX
  rintro h' tk' Dl Df wl wf nl q3 q4 t1 t2 F' NN' d3 d4 hlI hfI
  have N' := NN'.1
  have Nd := NN'.2
  clear NN'
  dsimp only [List.map] at Nd
  k_extra "o m cut"
  have hlen := hlI.length
  -- s2
  refine seg_cutC 1 (fun s₂ => ∀ G : Shared → Prop, (∀ h' tk' Dk wk nk, (Fr hG L' h' (fun y => List.lookup y (bd "kept" (.ref Dk) :: dueF1 x b tb Dl pre.length (pre.length + 1 + btw.length) t1 t2))) → NN hG L' h' ((Dk, listOf (List.toArray wk) nk) :: (Df, listOf (List.toArray wf) 0) :: (Dl, listOf (List.toArray wl) nl) :: (L' + 1 + 1 + 1 + 1 + 1, o5) :: (L' + 1 + 1 + 1 + 1, q4) :: (L' + 1 + 1 + 1, q3) :: (L' + 1 + 1, o2) :: (L' + 1, o1) :: (ex ++ obs w.params a g)) → IntsAre wk (keptL S btw) → G (Shared.mk h' sg sd tk' so)) → G s₂) ?_ ?_
  · intro P hP
    k_extra "o m cut"
    k_extra "o m gc"
    refine LCt.Assign_ListComp_T (F₀ := F') rfl (by with_unfolding_all rfl) (by with_unfolding_all rfl) (by decide) rfl (by decide) rfl rfl rfl ?_
    k_extra "o m gc"
    obtain ⟨D3, w3, ⟨N', Nd⟩, h3I, eD⟩ : ∃ D3 w3, NN hG L' h' ((D3, listOf (List.toArray w3) 0) :: (Df, listOf (List.toArray wf) 0) :: (Dl, listOf (List.toArray wl) nl) :: (L' + 1 + 1 + 1 + 1 + 1, o5) :: (L' + 1 + 1 + 1 + 1, q4) :: (L' + 1 + 1 + 1, q3) :: (L' + 1 + 1, o2) :: (L' + 1, o1) :: (ex ++ obs w.params a g)) ∧
        IntsAre w3 (btw.drop (btw.length - 3)) ∧ D' = D3 := ⟨_, _, pick_nn (by k_extra "o m pick") N' Nd, by simpa only [e1, l_3] using hI', rfl⟩
    subst eD
    dsimp only [List.map] at Nd
    refine comp_filter hh F' N' Nd (.head _) h3I (by rw [List.length_drop]; k_extra "o m oz") (fun y => decide (y ∈ S.fmt)) ?_ ?_ (fun _ => rfl) (fun _ => rfl) (by decide)
    · clear N' F' Nd hI'
      intro y2 t2 I oI C oC D ys m₂ h tk E' P2 hym2 hC hx F' N' Nd' hP2
      k_extra "o m gc"
      exact hP2 _ _ F' N'
    intro gg ys hys Dk h3 tk3 F3 N3 o3
    replace F3 := fr_up F3 .new
    replace N3 : News hG L' h3 ((Dk, listOf (List.toArray ys) ys.length) :: _) := N3
    replace Nd := off1_nodup o3 Nd
    dsimp only
    refine wpAny_execs_nil ?_
    exact hP _ (fun G kk => kk _ _ _ _ _ F3 (pick_nn (by k_extra "o m pick") N3 Nd) hys)
  clear N' F' Nd
  intro s₂ hX
  refine hX _ ?_
  clear hX
  rintro h' tk' Dk wk nk F' NN' hkI
  have N' := NN'.1
  have Nd := NN'.2
  clear NN'
  dsimp only [List.map] at Nd
  k_extra "o m cut"
  have hkl := hkI.length
  have hkz : (keptL S btw).length ≤ 3 := by
    unfold keptL
    exact Nat.le_trans (List.length_filter_le _ _) (by rw [List.length_drop]; k_extra "o m oz")
  have hkinds := O.ln.ki
  have hn1 := O.n1
  have hki2 := V.ki.length
  have hch1 := V.ch.length
  have hch2 := O.ln.ch
  -- s3
  refine seg_cutC 2 (fun s₂ => ∀ G : Shared → Prop, (∀ h' tk' Dc oc q5 t3, (Fr hG L' h' (fun y => List.lookup y (bd "many" (.int (S.kinds.length : Int) t3) :: bd "kept" (.ref Dk) :: dueF1 x b tb Dl pre.length (pre.length + 1 + btw.length) t1 t2))) → NN hG L' h' ((Dc, oc) :: (Dk, listOf (List.toArray wk) nk) :: (Df, listOf (List.toArray wf) 0) :: (Dl, listOf (List.toArray wl) nl) :: (L' + 1 + 1 + 1 + 1 + 1, q5) :: (L' + 1 + 1 + 1 + 1, q4) :: (L' + 1 + 1 + 1, q3) :: (L' + 1 + 1, o2) :: (L' + 1, o1) :: (ex ++ obs w.params a g)) → (q5.data = .cell (some (.ref Dc))) → IDict prog w oc (cpL S (keptL S btw) 0) → ((Dc == sysModules) = false) → G (Shared.mk h' sg sd tk' so)) → G s₂) ?_ ?_
  · intro P hP
    k_extra "o m cut"
    k_extra "o m gc"
    refine wpAny_execs_nil ?_
    exact hP _ (fun G kk => kk _ _ _ _ _ _ F' (pick_nn (by k_extra "o m pick") N' Nd) (by assumption) ⟨_, ‹Obj.IsDictOf (intKind prog w) _ []›, ‹FlatPairs PyData.int [] []›⟩ (by assumption))
  clear N' F' Nd d5
  intro s₂ hX
  refine hX _ ?_
  clear hX
  rintro h' tk' Dc oc q5 t3 F' NN' d5 hcd hsys
  have N' := NN'.1
  have Nd := NN'.2
  clear NN'
  dsimp only [List.map] at Nd
  k_extra "o m cut"
  -- s4
  refine seg_cutC 2 (fun s₂ => ∀ G : Shared → Prop, (∀ h' tk' oc t4 o, Only (Str.ofString "k") o → (Fr hG L' h' (fun y => List.lookup y (bd "wrap" (.int (wrapD S btw) t4) :: (bd "many" (.int (S.kinds.length : Int) t3) :: bd "kept" (.ref Dk) :: dueF1 x b tb Dl pre.length (pre.length + 1 + btw.length) t1 t2) ++ o))) → NN hG L' h' ((Dc, oc) :: (Dk, listOf (List.toArray wk) nk) :: (Df, listOf (List.toArray wf) 0) :: (Dl, listOf (List.toArray wl) nl) :: (L' + 1 + 1 + 1 + 1 + 1, q5) :: (L' + 1 + 1 + 1 + 1, q4) :: (L' + 1 + 1 + 1, q3) :: (L' + 1 + 1, o2) :: (L' + 1, o1) :: (ex ++ obs w.params a g)) → IDict prog w oc (cpAll S btw) → G (Shared.mk h' sg sd tk' so)) → G s₂) ?_ ?_
  · intro P hP
    k_extra "o m cut"
    k_extra "o m gc"
    refine For_invV hG (by rfl) (by rfl) ?_
    k_extra "o m gc"
    rename IsRange _ _ _ _ _ _ _ _ => hr0
    rename Fr _ _ _ _ => F'
    rename News _ _ _ _ => N'
    refine for_range (σ := Obj) (fun _ => bd "many" (.int (S.kinds.length : Int) t3) :: bd "kept" (.ref Dk) :: dueF1 x b tb Dl pre.length (pre.length + 1 + btw.length) t1 t2) (fun c => (Dc, c) :: (Dk, listOf (List.toArray wk) nk) :: (Df, listOf (List.toArray wf) 0) :: (Dl, listOf (List.toArray wl) nl) :: (L' + 1 + 1 + 1 + 1 + 1, q5) :: (L' + 1 + 1 + 1 + 1, q4) :: (L' + 1 + 1 + 1, q3) :: (L' + 1 + 1, o2) :: (L' + 1, o1) :: (ex ++ obs w.params a g))
      (fun j c => IDict prog w c (cpL S (keptL S btw) j)) oc (fun _ => rfl) hh hr0 (by k_extra "o m oz") F' N' Nd hcd ?_ ?_
    · clear N' F' Nd hcd
      intro j t oc I it h tk hj hcd F' N' Nd
      (try dsimp only at hcd F' N' Nd)
      have hnone := O.kn j hj
      have ej : ((-1 : Int) - (j : Int) + ((keptL S btw).length : Int)).toNat = (keptL S btw).length - 1 - j := by k_extra "o m oz"
      rw [← ej] at hnone
      have hcl := cpL_len S (keptL S btw) j
      k_extra "o m gc"
      refine ⟨o', _, _, rfl, F', N', Nd, ?_⟩
      rw [cpL, ← ej]; exact hD'
    · clear N' F' Nd hcd
      intro oc h tk o hcd ho F' N' Nd
      (try dsimp only at hcd F' N' Nd)
      dsimp only [List.cons_append, List.nil_append] at F'
      k_extra "o m gc"
      refine wpAny_execs_nil ?_
      exact hP _ (fun G kk => kk _ _ _ _ _ ho F' (pick_nn (by k_extra "o m pick") N' Nd) hcd)
  clear N' F' Nd hcd
  intro s₂ hX
  refine hX _ ?_
  clear hX
  rintro h' tk' oc t4 o ho F' NN' hcd
  have N' := NN'.1
  have Nd := NN'.2
  clear NN'
  dsimp only [List.map] at Nd
  dsimp only [List.cons_append, List.nil_append] at F'
  k_extra "o m cut"
  -- s5
  refine seg_cutC 1 (fun s₂ => ∀ G : Shared → Prop, (∀ h' tk' De we ne, (Fr hG L' h' (fun y => List.lookup y (bd "left" (.ref De) :: bd "wrap" (.int (wrapD S btw) t4) :: (bd "many" (.int (S.kinds.length : Int) t3) :: bd "kept" (.ref Dk) :: dueF1 x b tb Dl pre.length (pre.length + 1 + btw.length) t1 t2) ++ o))) → NN hG L' h' ((De, listOf (List.toArray we) ne) :: (Dc, oc) :: (Dk, listOf (List.toArray wk) nk) :: (Df, listOf (List.toArray wf) 0) :: (Dl, listOf (List.toArray wl) nl) :: (L' + 1 + 1 + 1 + 1 + 1, q5) :: (L' + 1 + 1 + 1 + 1, q4) :: (L' + 1 + 1 + 1, q3) :: (L' + 1 + 1, o2) :: (L' + 1, o1) :: (ex ++ obs w.params a g)) → IntsAre we (leftL S btw) → G (Shared.mk h' sg sd tk' so)) → G s₂) ?_ ?_
  · intro P hP
    k_extra "o m cut"
    k_extra "o m gc"
    refine LCt.Assign_ListComp_T (F₀ := F') rfl (by with_unfolding_all rfl) (by with_unfolding_all rfl) (by decide) rfl (by decide) rfl rfl rfl ?_
    k_extra "o m gc"
    refine comp_fm hh F' N' Nd (by first | k_extra "o mem" | fail) V.fi (by k_extra "o m oz") (fun y => !decide (y ∈ farL btw)) (cpOf S btw) ?_ ?_ ?_
    · clear N' F' Nd
      intro y2 t2 I oI C oC D ys m₂ h tk E' P2 hym2 hC hx F' N' Nd' hP2
      k_extra "o m gc"
      exact hP2 _ _ F' N'
    · clear N' F' Nd
      intro y2 t2 I oI C oC D ys m₂ h tk E' P2 hym2 hC hx F' N' Nd' hP2
      k_extra "o m gc"
      exact hP2 _ _ _ F' N'
    intro gg ys hys Dk h3 tk3 F3 N3 o3
    replace F3 := fr_up F3 .new
    replace N3 : News hG L' h3 ((Dk, listOf (List.toArray ys) ys.length) :: _) := N3
    replace Nd := off1_nodup o3 Nd
    dsimp only
    refine wpAny_execs_nil ?_
    exact hP _ (fun G kk => kk _ _ _ _ _ F3 (pick_nn (by k_extra "o m pick") N3 Nd) hys)
  clear N' F' Nd
  intro s₂ hX
  refine hX _ ?_
  clear hX
  rintro h' tk' De we ne F' NN' heI
  have N' := NN'.1
  have Nd := NN'.2
  clear NN'
  dsimp only [List.map] at Nd
  dsimp only [List.cons_append, List.nil_append] at F'
  k_extra "o m cut"
  have hel := heI.length
  have hez : (leftL S btw).length ≤ 100 := by
    unfold leftL
    rw [List.length_map]
    exact Nat.le_trans (List.length_filter_le _ _) hfl
  -- s6
  refine seg_cutC 1 (fun s₂ => ∀ G : Shared → Prop, (∀ h' tk' t5, (Fr hG L' h' (fun y => List.lookup y (bd "mark" (.int (markD S x btw) t5) :: bd "left" (.ref De) :: bd "wrap" (.int (wrapD S btw) t4) :: (bd "many" (.int (S.kinds.length : Int) t3) :: bd "kept" (.ref Dk) :: dueF1 x b tb Dl pre.length (pre.length + 1 + btw.length) t1 t2) ++ o))) → NN hG L' h' ((De, listOf (List.toArray we) ne) :: (Dc, oc) :: (Dk, listOf (List.toArray wk) nk) :: (Df, listOf (List.toArray wf) 0) :: (Dl, listOf (List.toArray wl) nl) :: (L' + 1 + 1 + 1 + 1 + 1, q5) :: (L' + 1 + 1 + 1 + 1, q4) :: (L' + 1 + 1 + 1, q3) :: (L' + 1 + 1, o2) :: (L' + 1, o1) :: (ex ++ obs w.params a g)) → G (Shared.mk h' sg sd tk' so)) → G s₂) ?_ ?_
  · intro P hP
    k_extra "o m cut"
    by_cases hke : keptL S btw = []
    · have hdc : decide (keptL S btw = []) = true := decide_eq_true hke
      have hmk : markD S x btw = ((leftL S btw).idxOf x : Int) := if_neg (by simpa using hke)
      have hxl := O.xl hke
      rw [hmk] at hP
      k_extra "o m gc"
      refine wpAny_execs_nil ?_
      exact hP _ (fun G kk => kk _ _ _ F' (pick_nn (by k_extra "o m pick") N' Nd))
    · have hdc : decide (keptL S btw = []) = false := decide_eq_false hke
      have hmk : markD S x btw = ((leftL S btw).idxOf (cpOf S btw ((keptL S btw).getD ((keptL S btw).length - 1) 0)) : Int) + 1 := if_pos hke
      have hkp : 0 < (keptL S btw).length := by have : (keptL S btw).length ≠ 0 := fun e => hke (List.length_eq_zero_iff.mp e); k_extra "o m oz"
      have e2 : ((-1 : Int) + ((keptL S btw).length : Int)).toNat = (keptL S btw).length - 1 := by k_extra "o m oz"
      obtain ⟨v, hv⟩ := O.kv _ (getD_mem3 (i := (keptL S btw).length - 1) (d := 0) (by k_extra "o m oz"))
      have hvm := O.km hke
      have hco : cpOf S btw ((keptL S btw).getD ((keptL S btw).length - 1) 0) = v := by unfold cpOf; rw [hv]; rfl
      rw [hco] at hvm hmk
      have hv2 := hv
      rw [← e2] at hv2
      rw [hmk] at hP
      k_extra "o m gc"
      refine wpAny_execs_nil ?_
      exact hP _ (fun G kk => kk _ _ _ F' (pick_nn (by k_extra "o m pick") N' Nd))
  clear N' F' Nd
  intro s₂ hX
  refine hX _ ?_
  clear hX
  rintro h' tk' t5 F' NN'
  have N' := NN'.1
  have Nd := NN'.2
  clear NN'
  dsimp only [List.map] at Nd
  dsimp only [List.cons_append, List.nil_append] at F'
  k_extra "o m cut"
  -- s7
  refine seg_cutC 1 (fun s₂ => ∀ G : Shared → Prop, (∀ h' tk' Dr wr nr, (Fr hG L' h' (fun y => List.lookup y (bd "row" (.ref Dr) :: bd "mark" (.int (markD S x btw) t5) :: bd "left" (.ref De) :: bd "wrap" (.int (wrapD S btw) t4) :: (bd "many" (.int (S.kinds.length : Int) t3) :: bd "kept" (.ref Dk) :: dueF1 x b tb Dl pre.length (pre.length + 1 + btw.length) t1 t2) ++ o))) → NN hG L' h' ((Dr, listOf (List.toArray wr) nr) :: (De, listOf (List.toArray we) ne) :: (Dc, oc) :: (Dk, listOf (List.toArray wk) nk) :: (Df, listOf (List.toArray wf) 0) :: (Dl, listOf (List.toArray wl) nl) :: (L' + 1 + 1 + 1 + 1 + 1, q5) :: (L' + 1 + 1 + 1 + 1, q4) :: (L' + 1 + 1 + 1, q3) :: (L' + 1 + 1, o2) :: (L' + 1, o1) :: (ex ++ obs w.params a g)) → IntsAre wr (rowD S btw b) → G (Shared.mk h' sg sd tk' so)) → G s₂) ?_ ?_
  · intro P hP
    k_extra "o m cut"
    k_extra "o m gc"
    refine LCg.ListComp_U (F₀ := F') (by with_unfolding_all rfl) (by decide) rfl (by decide) rfl ?_
    k_extra "o m gc"
    refine comp_src hh F' N' (by first | k_extra "o mem" | fail) (by k_extra "o m oz") fun gg => ?_
    refine comp_vals (fun v y => ∃ t, v = Value.int (cpOf S btw y) t) (keptL S btw) hkl.symm (.inr ⟨(Dk, listOf (List.toArray wk) nk).2, by first | k_extra "o mem" | fail, rfl, _, rfl⟩) Nd ?_ ?_
    · clear N' F' Nd
      intro j v y I oI C oC D ys m₂ h tk E' P2 hy hv hC hx F' N' Nd' hP2
      obtain ⟨y2, t9, e, hy2⟩ := IntsAre.at hkI j v hv
      subst e
      rw [hy2] at hy
      cases hy
      obtain ⟨v9, hv9⟩ := O.kv y (List.mem_of_getElem? hy2)
      have hco : cpOf S btw y = v9 := by unfold cpOf; rw [hv9]; rfl
      rw [hco] at hP2
      k_extra "o m gc"
      exact hP2 _ _ _ ⟨_, rfl⟩ F' N'
    · intro ys hys D3 h3 tk3 F3 N3 o3
      replace N3 : News hG L' h3 ((D3, listOf (List.toArray ys) ys.length) :: _) := N3
      replace Nd := off1_nodup o3 Nd
      have hyI : IntsAre ys ((keptL S btw).map (cpOf S btw)) := all2_ints hys
      have hyl := hyI.length
      rw [List.length_map] at hyl
      clear N' F' o3
      dsimp only
      k_extra "o m gc"
      refine wpAny_execs_nil ?_
      exact hP _ (fun G kk => kk _ _ _ _ _ F' (pick_nn (by k_extra "o m pick") N' Nd) (by assumption))
  clear N' F' Nd
  intro s₂ hX
  refine hX _ ?_
  clear hX
  rintro h' tk' Dr wr nr F' NN' hrI
  have N' := NN'.1
  have Nd := NN'.2
  clear NN'
  dsimp only [List.map] at Nd
  dsimp only [List.cons_append, List.nil_append] at F'
  k_extra "o m cut"
  have hrl := hrI.length
  have hrz : (rowD S btw b).length = (keptL S btw).length + 1 := by unfold rowD; simp
  -- s8
  refine seg_cutC 1 (fun s₂ => ∀ G : Shared → Prop, (∀ h' tk' Dh nh kl, (Fr hG L' h' (fun y => List.lookup y (bd "children" (.ref Dh) :: bd "row" (.ref Dr) :: bd "mark" (.int (markD S x btw) t5) :: bd "left" (.ref De) :: bd "wrap" (.int (wrapD S btw) t4) :: (bd "many" (.int (S.kinds.length : Int) t3) :: bd "kept" (.ref Dk) :: dueF1 x b tb Dl pre.length (pre.length + 1 + btw.length) t1 t2) ++ o))) → NN hG L' h' ((Dh, listOf (refsOf1 kl).toArray nh) :: (kl ++ ((Dr, listOf (List.toArray wr) nr) :: (De, listOf (List.toArray we) ne) :: (Dc, oc) :: (Dk, listOf (List.toArray wk) nk) :: (Df, listOf (List.toArray wf) 0) :: (Dl, listOf (List.toArray wl) nl) :: (L' + 1 + 1 + 1 + 1 + 1, q5) :: (L' + 1 + 1 + 1 + 1, q4) :: (L' + 1 + 1 + 1, q3) :: (L' + 1 + 1, o2) :: (L' + 1, o1) :: (ex ++ obs w.params a g)))) → All2 KidAt kl (ch0 S btw) → G (Shared.mk h' sg sd tk' so)) → G s₂) ?_ ?_
  · intro P hP
    k_extra "o m cut"
    k_extra "o m gc"
    refine LCg.ListComp_U (F₀ := F') (by with_unfolding_all rfl) (by decide) rfl (by decide) rfl ?_
    k_extra "o m gc"
    refine comp_src hh F' N' (by first | k_extra "o mem" | fail) (by rw [List.length_map]; k_extra "o m oz") fun gg => ?_
    refine comp_kids KidAt S.children (by rw [List.length_map]; exact V.ch.length.symm) (src_mem (by first | k_extra "o mem" | fail)) Nd ?_ ?_
    · clear N' F' Nd
      intro j v ns ex9 I oI C oC D ys m₂ h tk E' P2 hy hv hC hx F' N' Nd' hP2
      obtain ⟨⟨c9, oo9⟩, hk9, us9, n9, ho9, hi9⟩ := V.ch.get _ _ hy
      simp only at ho9
      subst ho9
      have e9 : v = .ref c9 := by
        rw [List.getElem?_map, hk9] at hv
        simpa using hv.symm
      subst e9
      have hi9l := hi9.length
      have hkl9 : ns.length ≤ 200 := O.kz _ (List.mem_of_getElem? hy)
      have Nd := Nd'
      k_extra "o m gc"
      exact hP2 _ _ _ F' N' Nd ⟨_, _, rfl, hi9⟩
    · intro kA NdA hA DA h3 tk3 F3 N3 o3
      replace N3 : News hG L' h3 ((DA, listOf (List.toArray (refsOf1 kA)) (refsOf1 kA).length) :: _) := N3
      have NdR := NdA
      replace Nd : (DA :: (kA.reverse ++ ((Dr, listOf (List.toArray wr) nr) :: (De, listOf (List.toArray we) ne) :: (Dc, oc) :: (Dk, listOf (List.toArray wk) nk) :: (Df, listOf (List.toArray wf) 0) :: (Dl, listOf (List.toArray wl) nl) :: (L' + 1 + 1 + 1 + 1 + 1, q5) :: (L' + 1 + 1 + 1 + 1, q4) :: (L' + 1 + 1 + 1, q3) :: (L' + 1 + 1, o2) :: (L' + 1, o1) :: (ex ++ obs w.params a g))).map (·.1)).Nodup := by
        refine off1_nodup o3 ?_
        have p := (List.Perm.append_right ((Dr, listOf (List.toArray wr) nr) :: (De, listOf (List.toArray we) ne) :: (Dc, oc) :: (Dk, listOf (List.toArray wk) nk) :: (Df, listOf (List.toArray wf) 0) :: (Dl, listOf (List.toArray wl) nl) :: (L' + 1 + 1 + 1 + 1 + 1, q5) :: (L' + 1 + 1 + 1 + 1, q4) :: (L' + 1 + 1 + 1, q3) :: (L' + 1 + 1, o2) :: (L' + 1, o1) :: (ex ++ obs w.params a g)) (List.reverse_perm kA)).map (·.1)
        exact p.nodup_iff.mpr NdA
      clear N' F' o3
      dsimp only
      k_extra "o m gc"
      refine LCg.ListComp_U (F₀ := (by assumption)) (by with_unfolding_all rfl) (by decide) rfl (by decide) rfl ?_
      k_extra "o m gc"
      rename IsRange _ _ _ _ _ _ _ _ => hr0
      rename Fr _ _ _ _ => F'
      rename News _ _ _ _ => N'
      have eC : (((keptL S btw).length : Int) + 1) = (((keptL S btw).length + 1 : Nat) : Int) := by k_extra "o m oz"
      rw [eC] at hr0
      refine LCg.CompSrc.range hh F' N' hr0 (small_one (by k_extra "o m oz") (by k_extra "o m oz") (by k_extra "o m oz") (by k_extra "o m oz")) (rangeSize_nat _ _) (by rw [sizeLine_eq]; k_extra "o m oz") fun gg => ?_
      refine comp_kids KidAt (List.replicate ((keptL S btw).length + 1) []) (List.length_replicate ..) (fun _ => trivial) Nd ?_ ?_
      · clear N' F' Nd hr0
        intro j v ns ex9 I oI C oC D ys m₂ h tk E' P2 hy hv hC hx F' N' Nd' hP2
        have e9 : ns = [] := by
          rw [List.getElem?_replicate] at hy
          split at hy
          · exact (Option.some.inj hy).symm
          · cases hy
        subst e9
        have Nd := Nd'
        k_extra "o m gc"
        exact hP2 _ _ _ F' N' Nd ⟨_, _, rfl, .nil⟩
      · intro kB NdB hB DB h4 tk4 F4 N4 o4
        replace N4 : News hG L' h4 ((DB, listOf (List.toArray (refsOf1 kB)) (refsOf1 kB).length) :: _) := N4
        have hAl := hA.length
        have hBl := hB.length
        rw [List.length_replicate] at hBl
        have Nd0 := Nd
        have p9 := (List.Perm.append_right ((DA, listOf (List.toArray (refsOf1 kA)) (refsOf1 kA).length) :: (kA.reverse ++ ((Dr, listOf (List.toArray wr) nr) :: (De, listOf (List.toArray we) ne) :: (Dc, oc) :: (Dk, listOf (List.toArray wk) nk) :: (Df, listOf (List.toArray wf) 0) :: (Dl, listOf (List.toArray wl) nl) :: (L' + 1 + 1 + 1 + 1 + 1, q5) :: (L' + 1 + 1 + 1 + 1, q4) :: (L' + 1 + 1 + 1, q3) :: (L' + 1 + 1, o2) :: (L' + 1, o1) :: (ex ++ obs w.params a g)))) (List.reverse_perm kB)).map (·.1)
        replace Nd := off1_nodup o4 (p9.nodup_iff.mpr NdB)
        clear N' F' o4 hr0 Nd0 p9 NdB NdA NdR
        have hz5 : (refsOf1 kA).length + (refsOf1 kB).length ≤ 1000000 := by rw [List.length_map, List.length_map]; k_extra "o m oz"
        dsimp only
        k_extra "o m gq"
        first | k_extra "o m catV" | fail
        k_extra "o m gc"
        refine wpAny_execs_nil ?_
        have q := norm_kids N' Nd
        rw [← List.map_append] at q
        exact hP _ (fun G kk => kk _ _ D' 0 (kA ++ kB) F' q (All2.append hA hB))
  clear N' F' Nd
  intro s₂ hX
  refine hX _ ?_
  clear hX
  rintro h' tk' Dh nh kl F' NN' hkc
  have N' := NN'.1
  have Nd := NN'.2
  clear NN'
  dsimp only [List.map] at Nd
  dsimp only [List.cons_append, List.nil_append] at F'
  k_extra "o m cut"
  have hch0 : (ch0 S btw).length = n + (keptL S btw).length + 1 := by unfold ch0; rw [List.length_append, List.length_replicate, hch2]; k_extra "o m oz"
  have hcz0 : ∀ l ∈ ch0 S btw, l.length ≤ 200 := fun l hl => by
    unfold ch0 at hl
    rcases List.mem_append.mp hl with hl | hl
    · exact O.kz l hl
    · rw [(List.mem_replicate.mp hl).2]; decide
  -- s9
  refine seg_cutC 1 (fun s₂ => ∀ G : Shared → Prop, (∀ h' tk' kl', (Fr hG L' h' (fun y => List.lookup y (bd "children" (.ref Dh) :: bd "row" (.ref Dr) :: bd "mark" (.int (markD S x btw) t5) :: bd "left" (.ref De) :: bd "wrap" (.int (wrapD S btw) t4) :: (bd "many" (.int (S.kinds.length : Int) t3) :: bd "kept" (.ref Dk) :: dueF1 x b tb Dl pre.length (pre.length + 1 + btw.length) t1 t2) ++ o))) → NN hG L' h' ((Dh, listOf (refsOf1 kl).toArray nh) :: (kl' ++ ((Dr, listOf (List.toArray wr) nr) :: (De, listOf (List.toArray we) ne) :: (Dc, oc) :: (Dk, listOf (List.toArray wk) nk) :: (Df, listOf (List.toArray wf) 0) :: (Dl, listOf (List.toArray wl) nl) :: (L' + 1 + 1 + 1 + 1 + 1, q5) :: (L' + 1 + 1 + 1 + 1, q4) :: (L' + 1 + 1 + 1, q3) :: (L' + 1 + 1, o2) :: (L' + 1, o1) :: (ex ++ obs w.params a g)))) → (refsOf1 kl' = refsOf1 kl) → All2 KidAt kl' (ch1 S btw b) → G (Shared.mk h' sg sd tk' so)) → G s₂) ?_ ?_
  · intro P hP
    k_extra "o m cut"
    obtain ⟨p0, p1, p2⟩ := O.pb
    obtain ⟨c1, us1, n1', w1, w2, w3, w4⟩ := kid_kl (z := (par S b).toNat) hkc (by rw [hch0]; k_extra "o m oz")
    have pb2 : b ∈ (ch0 S btw).getD (par S b).toNat [] := p2
    have pz : ((ch0 S btw).getD (par S b).toNat []).length ≤ 200 := hcz0 _ (getD_mem3 (by rw [hch0]; k_extra "o m oz"))
    unfold par at p0 p1 w1 w2 w3 w4 pb2 pz
    have hpl := V.pa.length
    have hpl2 := O.ln.pa
    have hbr := O.fr b hbm
    k_extra "o m gc"
    refine wpAny_execs_nil ?_
    exact hP _ (fun G kk => kk _ _ _ F' (pick_nn .refl N' (by simpa only [List.map_cons, List.map_append, List.map_set] using Nd)) (refs_set w1) (All2.set ⟨_, _, rfl, ints_erase w2⟩ _ hkc))
  clear N' F' Nd hkc
  intro s₂ hX
  refine hX _ ?_
  clear hX
  rintro h' tk' kl' F' NN' hrv hkc
  have N' := NN'.1
  have Nd := NN'.2
  clear NN'
  generalize hrvd : refsOf1 kl = rv at N' Nd hrv
  have hch1' : (ch1 S btw b).length = n + (keptL S btw).length + 1 := by unfold ch1; rw [List.length_set, hch0]
  have hcz1 : ∀ l ∈ ch1 S btw b, l.length ≤ 200 := fun l hl => by
    unfold ch1 at hl
    rcases List.mem_or_eq_of_mem_set hl with hl | rfl
    · exact hcz0 l hl
    · exact Nat.le_trans (List.length_erase_le ..) (hcz0 _ (getD_mem3 (by have := O.pb; k_extra "o m oz")))
  have hi2 : ∀ y ∈ pre, 0 ≤ (List.lookup y S.contents).getD y ∧ (List.lookup y S.contents).getD y < (ch1 S btw b).length := fun y hy => ⟨(O.hi2 y hy).1, by have := (O.hi2 y hy).2; k_extra "o m oz"⟩
  have htab : ∀ y ∈ pre, nmIs S [Str.ofString "table"] y = true → 0 ≤ par S y ∧ par S y < (ch1 S btw b).length ∧ y ∈ (ch1 S btw b).getD (par S y).toNat [] := fun y hy ht => ⟨(O.htab y hy ht).1, by have := (O.htab y hy ht).2.1; k_extra "o m oz", (O.htab y hy ht).2.2⟩
  dsimp only [List.map] at Nd
  dsimp only [List.cons_append, List.nil_append] at F'
  k_extra "o m cut"
  -- s10
  refine seg_cutC 1 (fun s₂ => ∀ G : Shared → Prop, (∀ h' tk' g' t6 t7, (Fr hG L' h' (fun y => List.lookup y (bd "spot" (.int (spotS S (ch1 S btw b) pre).2 t7) :: bd "into" (.int (spotS S (ch1 S btw b) pre).1 t6) :: bd "children" (.ref Dh) :: bd "row" (.ref Dr) :: bd "mark" (.int (markD S x btw) t5) :: bd "left" (.ref De) :: bd "wrap" (.int (wrapD S btw) t4) :: (bd "many" (.int (S.kinds.length : Int) t3) :: bd "kept" (.ref Dk) :: dueF1 x b tb Dl pre.length (pre.length + 1 + btw.length) t1 t2) ++ o))) → NN hG L' h' ((Dh, listOf (List.toArray rv) nh) :: (kl' ++ ((Dr, listOf (List.toArray wr) nr) :: (De, listOf (List.toArray we) ne) :: (Dc, oc) :: (Dk, listOf (List.toArray wk) nk) :: (Df, listOf (List.toArray wf) 0) :: (Dl, listOf (List.toArray wl) nl) :: (L' + 1 + 1 + 1 + 1 + 1, q5) :: (L' + 1 + 1 + 1 + 1, q4) :: (L' + 1 + 1 + 1, q3) :: (L' + 1 + 1, o2) :: (L' + 1, o1) :: (ex ++ obs w.params a g')))) → Sv prog w a g' S → G (Shared.mk h' sg sd tk' so)) → G s₂) ?_ ?_
  · intro P hP
    k_extra "o m cut"
    have hla := kids_listAt hkc
    rw [hrv] at hla
    have ef := V.fo
    k_extra "o m gc"
    rw [ef]
    have e0 : S.stack.take (pre.length : Int).toNat = pre := by rw [hst]; exact List.take_left' (by k_extra "o m oz")
    rw [e0] at hI'
    refine c_spot (ex := (D', listOf ws'.toArray 0) :: (Dh, listOf (List.toArray rv) nh) :: (kl' ++ ((Dr, listOf (List.toArray wr) nr) :: (De, listOf (List.toArray we) ne) :: (Dc, oc) :: (Dk, listOf (List.toArray wk) nk) :: (Df, listOf (List.toArray wf) 0) :: (Dl, listOf (List.toArray wl) nl) :: (L' + 1 + 1 + 1 + 1 + 1, q5) :: (L' + 1 + 1 + 1 + 1, q4) :: (L' + 1 + 1 + 1, q3) :: (L' + 1 + 1, o2) :: (L' + 1, o1) :: ex))) (n := n) (over := pre) (cs := ch1 S btw b) (CC.mono (by decide)) F'
      ⟨_, by simpa only [List.cons_append, List.append_assoc] using N', by simpa only [List.cons_append, List.append_assoc, List.map_cons, List.map_append] using Nd, V⟩ O.ln (.tail _ (.head _)) (listAt_mono (fun p hp => .tail _ (.tail _ (List.mem_append_left _ hp))) hla) (.head _) hI' O.p0 (by k_extra "o m oz")
      (fun y hy => O.fr y (by rw [hst]; exact List.mem_append_left _ hy)) hi2 (fun l hl => Nat.le_trans (hcz1 l hl) (by decide)) (by k_extra "o m oz") htab ?_
    clear N' Nd V F'
    intro h2 tk2 D2 u2 v2 c2 F' W2
    obtain ⟨g2, N', Nd, V2⟩ := W2
    simp only [List.cons_append, List.append_assoc, List.map_cons] at N' Nd
    k_extra "o m gc"
    refine wpAny_execs_nil ?_
    exact hP _ (fun G kk => kk _ _ g2 _ _ F' (pick_nn (by k_extra "o m pick") N' Nd) V2)
  clear N' F' Nd V hvl hfl2 hki2 hch1
  intro s₂ hX
  refine hX _ ?_
  clear hX
  rintro h' tk' g t6 t7 F' NN' V
  have N' := NN'.1
  have Nd := NN'.2
  clear NN'
  have hvl := V.si.length
  have hfl2 := V.fi.length
  have hki2 := V.ki.length
  have hch1 := V.ch.length
  dsimp only [List.map] at Nd
  dsimp only [List.cons_append, List.nil_append] at F'
  k_extra "o m cut"
  -- s11
  refine seg_cutC 1 (fun s₂ => ∀ G : Shared → Prop, (∀ h' tk' kl'', (Fr hG L' h' (fun y => List.lookup y (bd "spot" (.int (spotS S (ch1 S btw b) pre).2 t7) :: bd "into" (.int (spotS S (ch1 S btw b) pre).1 t6) :: bd "children" (.ref Dh) :: bd "row" (.ref Dr) :: bd "mark" (.int (markD S x btw) t5) :: bd "left" (.ref De) :: bd "wrap" (.int (wrapD S btw) t4) :: (bd "many" (.int (S.kinds.length : Int) t3) :: bd "kept" (.ref Dk) :: dueF1 x b tb Dl pre.length (pre.length + 1 + btw.length) t1 t2) ++ o))) → NN hG L' h' ((Dh, listOf (List.toArray rv) nh) :: (kl'' ++ ((Dr, listOf (List.toArray wr) nr) :: (De, listOf (List.toArray we) ne) :: (Dc, oc) :: (Dk, listOf (List.toArray wk) nk) :: (Df, listOf (List.toArray wf) 0) :: (Dl, listOf (List.toArray wl) nl) :: (L' + 1 + 1 + 1 + 1 + 1, q5) :: (L' + 1 + 1 + 1 + 1, q4) :: (L' + 1 + 1 + 1, q3) :: (L' + 1 + 1, o2) :: (L' + 1, o1) :: (ex ++ obs w.params a g)))) → (refsOf1 kl'' = rv) → All2 KidAt kl'' (ch2 S pre btw b) → G (Shared.mk h' sg sd tk' so)) → G s₂) ?_ ?_
  · intro P hP
    k_extra "o m cut"
    obtain ⟨sp0, sp1, sp2, sp3⟩ := spot_ok O.p0 hi2 htab
    obtain ⟨c1, us1, n1', w1, w2, w3, w4⟩ := kid_kl (z := (spotS S (ch1 S btw b) pre).1.toNat) hkc (by k_extra "o m oz")
    rw [hrv] at w3
    have pz : ((ch1 S btw b).getD (spotS S (ch1 S btw b) pre).1.toNat []).length ≤ 200 := hcz1 _ (getD_mem3 (by k_extra "o m oz"))
    have hrvl : rv.length = (ch1 S btw b).length := by rw [← hrv, List.length_map]; exact hkc.length
    k_extra "o m gc"
    refine wpAny_execs_nil ?_
    exact hP _ (fun G kk => kk _ _ _ F' (pick_nn .refl N' (by simpa only [List.map_cons, List.map_append, List.map_set] using Nd)) ((refs_set w1).trans hrv) (All2.set ⟨_, _, rfl, ints_putIn _ w2⟩ _ hkc))
  clear N' F' Nd hkc hrv
  intro s₂ hX
  refine hX _ ?_
  clear hX
  rintro h' tk' kl' F' NN' hrv hkc
  have N' := NN'.1
  have Nd := NN'.2
  clear NN'
  dsimp only [List.map] at Nd
  dsimp only [List.cons_append, List.nil_append] at F'
  k_extra "o m cut"
  have hch2' : (ch2 S pre btw b).length = n + (keptL S btw).length + 1 := by unfold ch2; dsimp only; rw [List.length_set, hch1']
  have hcz2 : ∀ l ∈ ch2 S pre btw b, l.length ≤ 201 := fun l hl => by
    obtain ⟨sp0, sp1, sp2, sp3⟩ := spot_ok O.p0 hi2 htab
    have pz : ((ch1 S btw b).getD (spotS S (ch1 S btw b) pre).1.toNat []).length ≤ 200 := hcz1 _ (getD_mem3 (by k_extra "o m oz"))
    unfold ch2 at hl
    rcases List.mem_or_eq_of_mem_set hl with hl | rfl
    · have := hcz1 l hl; k_extra "o m oz"
    · rw [length_putIn]
      k_extra "o m oz"
  -- s12
  refine seg_cutC 1 (fun s₂ => ∀ G : Shared → Prop, (∀ h' tk' kl'' oz, Only (Str.ofString "k") oz → (Fr hG L' h' (fun y => List.lookup y (bd "spot" (.int (spotS S (ch1 S btw b) pre).2 t7) :: bd "into" (.int (spotS S (ch1 S btw b) pre).1 t6) :: bd "children" (.ref Dh) :: bd "row" (.ref Dr) :: bd "mark" (.int (markD S x btw) t5) :: bd "left" (.ref De) :: bd "wrap" (.int (wrapD S btw) t4) :: (bd "many" (.int (S.kinds.length : Int) t3) :: bd "kept" (.ref Dk) :: dueF1 x b tb Dl pre.length (pre.length + 1 + btw.length) t1 t2) ++ oz))) → NN hG L' h' ((Dh, listOf (List.toArray rv) nh) :: (kl'' ++ ((Dr, listOf (List.toArray wr) nr) :: (De, listOf (List.toArray we) ne) :: (Dc, oc) :: (Dk, listOf (List.toArray wk) nk) :: (Df, listOf (List.toArray wf) 0) :: (Dl, listOf (List.toArray wl) nl) :: (L' + 1 + 1 + 1 + 1 + 1, q5) :: (L' + 1 + 1 + 1 + 1, q4) :: (L' + 1 + 1 + 1, q3) :: (L' + 1 + 1, o2) :: (L' + 1, o1) :: (ex ++ obs w.params a g)))) → (refsOf1 kl'' = rv) → All2 KidAt kl'' (ch3 S pre btw b) → G (Shared.mk h' sg sd tk' so)) → G s₂) ?_ ?_
  · intro P hP
    k_extra "o m cut"
    have hkq : (keptL S btw).length ≤ 1000 := by k_extra "o m oz"
    clear hkz
    k_extra "o m gc"
    refine For_invV hG (by rfl) (by rfl) ?_
    k_extra "o m gc"
    rename IsRange _ _ _ _ _ _ _ _ => hr0
    rename Fr _ _ _ _ => F'
    rename News _ _ _ _ => N'
    refine for_rangeO (σ := List (Addr × Obj)) (fun _ => bd "spot" (.int (spotS S (ch1 S btw b) pre).2 t7) :: bd "into" (.int (spotS S (ch1 S btw b) pre).1 t6) :: bd "children" (.ref Dh) :: bd "row" (.ref Dr) :: bd "mark" (.int (markD S x btw) t5) :: bd "left" (.ref De) :: bd "wrap" (.int (wrapD S btw) t4) :: (bd "many" (.int (S.kinds.length : Int) t3) :: bd "kept" (.ref Dk) :: dueF1 x b tb Dl pre.length (pre.length + 1 + btw.length) t1 t2)) (fun c => (Dh, listOf (List.toArray rv) nh) :: (c ++ ((Dr, listOf (List.toArray wr) nr) :: (De, listOf (List.toArray we) ne) :: (Dc, oc) :: (Dk, listOf (List.toArray wk) nk) :: (Df, listOf (List.toArray wf) 0) :: (Dl, listOf (List.toArray wl) nl) :: (L' + 1 + 1 + 1 + 1 + 1, q5) :: (L' + 1 + 1 + 1 + 1, q4) :: (L' + 1 + 1 + 1, q3) :: (L' + 1 + 1, o2) :: (L' + 1, o1) :: (ex ++ obs w.params a g))))
      (fun j c => refsOf1 c = rv ∧ All2 KidAt c (chK S pre btw b j)) kl' (o₀ := o) (fun _ => rfl) ho hh hr0 (by have := kept_le S btw; k_extra "o m oz") F' N' Nd ⟨hrv, hkc⟩ ?_ ?_
    · clear N' F' Nd hrv hkc hr0
      rintro j t kc I it h tk hj ⟨hrv, hkc⟩ F' N' Nd
      (try dsimp only at F' N' Nd)
      have hkz := kept_le S btw
      have hrw := O.rw _ (getD_mem3 (l := rowD S btw b) (i := (j : Int).toNat) (d := 0) (by k_extra "o m oz"))
      have hkk := chK_len S pre btw b j
      obtain ⟨c1, us1, n1', w1, w2, w3, w4⟩ := kid_kl (z := ((rowD S btw b).getD (j : Int).toNat 0).toNat) hkc (by k_extra "o m oz")
      rw [hrv] at w3
      have pz : ((chK S pre btw b j).getD ((rowD S btw b).getD (j : Int).toNat 0).toNat []).length ≤ 201 + j := chK_cz hcz2 j _ (getD_mem3 (by k_extra "o m oz"))
      have hrvl : rv.length = (chK S pre btw b j).length := by rw [← hrv, List.length_map]; exact hkc.length
      k_extra "o m gc"
      exact ⟨kc.set ((rowD S btw b).getD (j : Int).toNat 0).toNat (c1, _), _, _, rfl, F', N', by simpa only [List.map_cons, List.map_append, List.map_set] using Nd, (refs_set w1).trans hrv, by rw [chK]; exact All2.set ⟨_, _, rfl, ints_append w2 (.cons _ _ .nil)⟩ _ hkc⟩
    · clear N' F' Nd hrv hkc hr0
      rintro kc h tk oz ⟨hrv, hkc⟩ hoz F' N' Nd
      (try dsimp only at F' N' Nd)
      dsimp only [List.cons_append, List.nil_append] at F'
      k_extra "o m gc"
      refine wpAny_execs_nil ?_
      exact hP _ (fun G kk => kk _ _ kc oz hoz F' (pick_nn .refl N' (by simpa only [List.map_cons] using Nd)) hrv hkc)
  clear N' F' Nd hkc hrv
  intro s₂ hX
  refine hX _ ?_
  clear hX
  rintro h' tk' kl' oz hoz F' NN' hrv hkc
  have N' := NN'.1
  have Nd := NN'.2
  clear NN'
  dsimp only [List.map] at Nd
  dsimp only [List.cons_append, List.nil_append] at F'
  k_extra "o m cut"
  -- s13
  refine seg_cutC 3 (fun s₂ => ∀ G : Shared → Prop, (∀ h' tk' Dw ow rv2 nh2 Dq wq nq, (Fr hG L' h' (fun y => List.lookup y (bd "fresh" (.ref Dq) :: bd "spot" (.int (spotS S (ch1 S btw b) pre).2 t7) :: bd "into" (.int (spotS S (ch1 S btw b) pre).1 t6) :: bd "children" (.ref Dh) :: bd "row" (.ref Dr) :: bd "mark" (.int (markD S x btw) t5) :: bd "left" (.ref De) :: bd "wrap" (.int (wrapD S btw) t4) :: (bd "many" (.int (S.kinds.length : Int) t3) :: bd "kept" (.ref Dk) :: dueF1 x b tb Dl pre.length (pre.length + 1 + btw.length) t1 t2) ++ oz))) → NN hG L' h' ((Dq, listOf (List.toArray wq) nq) :: (Dw, ow) :: (Dh, listOf (List.toArray rv2) nh2) :: (kl' ++ ((Dr, listOf (List.toArray wr) nr) :: (De, listOf (List.toArray we) ne) :: (Dc, oc) :: (Dk, listOf (List.toArray wk) nk) :: (Df, listOf (List.toArray wf) 0) :: (Dl, listOf (List.toArray wl) nl) :: (L' + 1 + 1 + 1 + 1 + 1, q5) :: (L' + 1 + 1 + 1 + 1, q4) :: (L' + 1 + 1 + 1, q3) :: (L' + 1 + 1, o2) :: (L' + 1, o1) :: (ex ++ obs w.params a g)))) → All2 (ListAt ((Dw, ow) :: kl')) rv2 (chD S pre btw b) → IntsAre wq (freshD S btw x) → G (Shared.mk h' sg sd tk' so)) → G s₂) ?_ ?_
  · intro P hP
    k_extra "o m cut"
    have hla := kids_listAt hkc
    rw [hrv] at hla
    have hkk := chK_len S pre btw b (keptL S btw).length
    have hbr := O.fr b hbm
    have hwr : wrapD S btw = (n : Int) + ((keptL S btw).length : Int) := by unfold wrapD; rw [hkinds]
    have hrvl : rv.length = n + (keptL S btw).length + 1 := by rw [← hch0, ← hkk, ← hrv, List.length_map]; exact hkc.length
    obtain ⟨c1, us1, n1', w1, w2, w3, w4⟩ := kid_kl (z := b.toNat) hkc (by unfold ch3; k_extra "o m oz")
    rw [hrv] at w3
    k_extra "o m gc"
    refine wpAny_execs_nil ?_
    exact hP _ (fun G kk => kk _ _ _ _ _ _ _ _ _ F' (pick_nn (by k_extra "o m pick") N' Nd) (All2.set ⟨_, _, _, rfl, .head _, .cons _ _ .nil⟩ _ (All2.set ⟨c1, us1, n1', rfl, .tail _ (List.mem_of_getElem? w1), w2⟩ _ (listAt_mono (fun p hp => .tail _ hp) hla))) (by assumption))
  clear N' F' Nd hkc hrv
  intro s₂ hX
  refine hX _ ?_
  clear hX
  rintro h' tk' Dw ow rv2 nh2 Dq wq nq F' NN' hcD hqI
  have N' := NN'.1
  have Nd := NN'.2
  clear NN'
  dsimp only [List.map] at Nd
  dsimp only [List.cons_append, List.nil_append] at F'
  have hql := hqI.length
  have hqz : (freshD S btw x).length = (keptL S btw).length + 1 := by unfold freshD; simp
  k_extra "o m cut"
  -- s14
  refine seg_cutC 1 (fun s₂ => ∀ G : Shared → Prop, (∀ h' tk' Ds ws nS, (Fr hG L' h' (fun y => List.lookup y (bd "stack" (.ref Ds) :: bd "fresh" (.ref Dq) :: bd "spot" (.int (spotS S (ch1 S btw b) pre).2 t7) :: bd "into" (.int (spotS S (ch1 S btw b) pre).1 t6) :: bd "children" (.ref Dh) :: bd "row" (.ref Dr) :: bd "mark" (.int (markD S x btw) t5) :: bd "left" (.ref De) :: bd "wrap" (.int (wrapD S btw) t4) :: (bd "many" (.int (S.kinds.length : Int) t3) :: bd "kept" (.ref Dk) :: dueF1 x b tb Dl pre.length (pre.length + 1 + btw.length) t1 t2) ++ oz))) → NN hG L' h' ((Ds, listOf (List.toArray ws) nS) :: ((Dq, listOf (List.toArray wq) nq) :: (Dw, ow) :: (Dh, listOf (List.toArray rv2) nh2) :: (kl' ++ ((Dr, listOf (List.toArray wr) nr) :: (De, listOf (List.toArray we) ne) :: (Dc, oc) :: (Dk, listOf (List.toArray wk) nk) :: (Df, listOf (List.toArray wf) 0) :: (Dl, listOf (List.toArray wl) nl) :: (L' + 1 + 1 + 1 + 1 + 1, q5) :: (L' + 1 + 1 + 1 + 1, q4) :: (L' + 1 + 1 + 1, q3) :: (L' + 1 + 1, o2) :: (L' + 1, o1) :: (ex ++ obs w.params a g))))) → IntsAre ws (((pre ++ rowD S btw b) ++ [wrapD S btw]) ++ post) → G (Shared.mk h' sg sd tk' so)) → G s₂) ?_ ?_
  · intro P hP
    k_extra "o m cut"
    k_extra "o m gc"
    have eT : S.stack.take (pre.length : Int).toNat = pre := by rw [hst]; exact List.take_left' (by k_extra "o m oz")
    have eP : S.stack.drop (((pre.length + 1 + btw.length : Nat) : Int) + 1).toNat = post := by
      have e : S.stack = (pre ++ x :: (btw ++ [b])) ++ post := by rw [hst]; simp
      rw [e]
      exact List.drop_left' (by simp only [List.length_append, List.length_cons, List.length_nil]; k_extra "o m oz")
    rw [eT, eP] at hI'
    refine wpAny_execs_nil ?_
    exact hP _ (fun G kk => kk _ _ _ _ _ F' (pick_nn (by k_extra "o m pick") N' Nd) hI')
  clear N' F' Nd
  intro s₂ hX
  refine hX _ ?_
  clear hX
  rintro h' tk' Ds ws nS F' NN' hsI
  have N' := NN'.1
  have Nd := NN'.2
  clear NN'
  dsimp only [List.map] at Nd
  dsimp only [List.cons_append, List.nil_append] at F'
  have hsl := hsI.length
  have hm0 : 0 ≤ markD S x btw := by unfold markD; split <;> k_extra "o m oz"
  have hm1 : markD S x btw ≤ (leftL S btw).length := by
    unfold markD
    split
    · rename_i hke
      have := List.idxOf_lt_length_of_mem (O.km hke); k_extra "o m oz"
    · rename_i hke
      have := List.idxOf_lt_length_of_mem (O.xl (by simpa using hke)); k_extra "o m oz"
  k_extra "o m cut"
  -- s15
  refine seg_cutC 1 (fun s₂ => ∀ G : Shared → Prop, (∀ h' tk' Di wi nI, (Fr hG L' h' (fun y => List.lookup y (bd "items" (.ref Di) :: bd "stack" (.ref Ds) :: bd "fresh" (.ref Dq) :: bd "spot" (.int (spotS S (ch1 S btw b) pre).2 t7) :: bd "into" (.int (spotS S (ch1 S btw b) pre).1 t6) :: bd "children" (.ref Dh) :: bd "row" (.ref Dr) :: bd "mark" (.int (markD S x btw) t5) :: bd "left" (.ref De) :: bd "wrap" (.int (wrapD S btw) t4) :: (bd "many" (.int (S.kinds.length : Int) t3) :: bd "kept" (.ref Dk) :: dueF1 x b tb Dl pre.length (pre.length + 1 + btw.length) t1 t2) ++ oz))) → NN hG L' h' ((Di, listOf (List.toArray wi) nI) :: ((Ds, listOf (List.toArray ws) nS) :: ((Dq, listOf (List.toArray wq) nq) :: (Dw, ow) :: (Dh, listOf (List.toArray rv2) nh2) :: (kl' ++ ((Dr, listOf (List.toArray wr) nr) :: (De, listOf (List.toArray we) ne) :: (Dc, oc) :: (Dk, listOf (List.toArray wk) nk) :: (Df, listOf (List.toArray wf) 0) :: (Dl, listOf (List.toArray wl) nl) :: (L' + 1 + 1 + 1 + 1 + 1, q5) :: (L' + 1 + 1 + 1 + 1, q4) :: (L' + 1 + 1 + 1, q3) :: (L' + 1 + 1, o2) :: (L' + 1, o1) :: (ex ++ obs w.params a g)))))) → IntsAre wi (itemsD S x btw) → G (Shared.mk h' sg sd tk' so)) → G s₂) ?_ ?_
  · intro P hP
    k_extra "o m cut"
    k_extra "o m gc"
    refine LCt.Assign_ListComp_T (F₀ := F') rfl (by with_unfolding_all rfl) (by with_unfolding_all rfl) (by decide) rfl (by decide) rfl rfl rfl ?_
    k_extra "o m gc"
    obtain ⟨D3, w3, ⟨N', Nd⟩, h3I, eD⟩ : ∃ D3 w3, NN hG L' h' ((D3, listOf (List.toArray w3) 0) :: ((Ds, listOf (List.toArray ws) nS) :: ((Dq, listOf (List.toArray wq) nq) :: (Dw, ow) :: (Dh, listOf (List.toArray rv2) nh2) :: (kl' ++ ((Dr, listOf (List.toArray wr) nr) :: (De, listOf (List.toArray we) ne) :: (Dc, oc) :: (Dk, listOf (List.toArray wk) nk) :: (Df, listOf (List.toArray wf) 0) :: (Dl, listOf (List.toArray wl) nl) :: (L' + 1 + 1 + 1 + 1 + 1, q5) :: (L' + 1 + 1 + 1 + 1, q4) :: (L' + 1 + 1 + 1, q3) :: (L' + 1 + 1, o2) :: (L' + 1, o1) :: (ex ++ obs w.params a g)))))) ∧
        IntsAre w3 (((leftL S btw).take (markD S x btw).toNat ++ [wrapD S btw]) ++ (leftL S btw).drop (markD S x btw).toNat) ∧ D' = D3 := ⟨_, _, pick_nn (by k_extra "o m pick") N' Nd, hI', rfl⟩
    subst eD
    dsimp only [List.map] at Nd
    refine comp_filter hh F' N' Nd (.head _) h3I (by simp only [List.length_append, List.length_take, List.length_drop, List.length_cons, List.length_nil]; refine ar_mn1 ?_; k_extra "o m oz") (fun y => !decide (y = x)) ?_ ?_ (fun _ => rfl) (fun _ => rfl) (by decide)
    · clear N' F' Nd hI'
      intro y2 t2 I oI C oC D ys m₂ h tk E' P2 hym2 hC hx F' N' Nd' hP2
      k_extra "o m gc"
      exact at_bool (hP2 _ _ F' N') (by first | exact rfl | (by_cases e9 : y2 = x <;> simp [e9]))
    intro gg ys hys Dk h3 tk3 F3 N3 o3
    replace F3 := fr_up F3 .new
    replace N3 : News hG L' h3 ((Dk, listOf (List.toArray ys) ys.length) :: _) := N3
    replace Nd := off1_nodup o3 Nd
    dsimp only
    refine wpAny_execs_nil ?_
    exact hP _ (fun G kk => kk _ _ _ _ _ F3 (pick_nn (by k_extra "o m pick") N3 Nd) hys)
  clear N' F' Nd
  intro s₂ hX
  refine hX _ ?_
  clear hX
  rintro h' tk' Di wi nI F' NN' hiI
  have N' := NN'.1
  have Nd := NN'.2
  clear NN'
  dsimp only [List.map] at Nd
  dsimp only [List.cons_append, List.nil_append] at F'
  have hil := hiI.length
  k_extra "o m cut"
  have hln2 := O.ln
  have hsp2 := V.sp.length
  have hna2 := V.na.length
  have hte2 := V.te.length
  have hsp3 := O.ln.sp
  have hna3 := O.ln.na
  have hte3 := O.ln.te
  have har3 := O.ln.ar
  have har2 := V.ar.length
  have hfrq : ∀ y ∈ freshD S btw x, 0 ≤ y ∧ y < n := fun y hy => by
    unfold freshD at hy
    rcases List.mem_append.mp hy with hy | hy
    · have h1 := (List.mem_filter.mp (List.mem_reverse.mp hy)).1
      exact O.fr y (by rw [hst]; exact List.mem_append_right _ (.tail _ (List.mem_append_left _ (List.mem_of_mem_drop h1))))
    · rw [List.mem_singleton.mp hy]; exact O.fr x hxm
  -- s16
  refine seg_cutC 1 (fun s₂ => ∀ G : Shared → Prop, (∀ h' tk' Y DW vW nW, (Fr hG L' h' (fun y => List.lookup y (bd "whole" (.ref DW) :: bd "items" (.ref Di) :: bd "stack" (.ref Ds) :: bd "fresh" (.ref Dq) :: bd "spot" (.int (spotS S (ch1 S btw b) pre).2 t7) :: bd "into" (.int (spotS S (ch1 S btw b) pre).1 t6) :: bd "children" (.ref Dh) :: bd "row" (.ref Dr) :: bd "mark" (.int (markD S x btw) t5) :: bd "left" (.ref De) :: bd "wrap" (.int (wrapD S btw) t4) :: (bd "many" (.int (S.kinds.length : Int) t3) :: bd "kept" (.ref Dk) :: dueF1 x b tb Dl pre.length (pre.length + 1 + btw.length) t1 t2) ++ oz))) → NN hG L' h' (Y ++ (ex ++ obs w.params a g)) → (DW, listOf (List.toArray vW) nW) ∈ Y → WholeAt prog w (Y ++ g.inn) vW (wholeD S pre x btw b post) → (Dr, listOf (List.toArray wr) nr) ∈ Y → (De, listOf (List.toArray we) ne) ∈ Y → (Dl, listOf (List.toArray wl) nl) ∈ Y → G (Shared.mk h' sg sd tk' so)) → G s₂) ?_ ?_
  · intro P hP
    k_extra "o m cut"
    have hzr : (freshD S btw x).length ≤ 4 := by have := kept_le S btw; k_extra "o m oz"
    have hz1 : S.kinds.length + (freshD S btw x).length ≤ 1000000 := by k_extra "o m oz"
    have hz2 : S.spaces.length + (freshD S btw x).length ≤ 1000000 := by k_extra "o m oz"
    have hz3 : S.texts.length + (freshD S btw x).length ≤ 1000000 := by k_extra "o m oz"
    have hz4 : S.names.length + ((freshD S btw x).map (nameOf S)).length ≤ 1000000 := by rw [List.length_map]; k_extra "o m oz"
    k_extra "o m gq"
    first | k_extra "o m catS" | fail
    k_extra "o m gq"
    first | k_extra "o m catS" | fail
    k_extra "o m gq"
    refine LCg.ListComp_U (F₀ := F') (by with_unfolding_all rfl) (by decide) rfl (by decide) rfl ?_
    k_extra "o m gc"
    refine comp_src hh F' N' (by first | k_extra "o mem" | fail) (by k_extra "o m oz") fun gg => ?_
    refine comp_vals (fun v y => ∃ t, v = Value.str (nameOf S y) t) (freshD S btw x) hql.symm (.inr ⟨(Dq, listOf (List.toArray wq) nq).2, by first | k_extra "o mem" | fail, rfl, _, rfl⟩) Nd ?_ ?_
    · clear N' F' Nd
      intro j v y I oI C oC D ys m₂ h tk E' P2 hy hv hC hx F' N' Nd' hP2
      obtain ⟨y2, t9, e, hy2⟩ := IntsAre.at hqI j v hv
      subst e
      rw [hy2] at hy
      cases hy
      obtain ⟨y0, y1⟩ := hfrq y (List.mem_of_getElem? hy2)
      k_extra "o m gc"
      exact hP2 _ _ _ ⟨_, rfl⟩ F' N'
    intro ys hys D3 h3 tk3 F3 N3 o3
    replace N3 : News hG L' h3 ((D3, listOf (List.toArray ys) ys.length) :: _) := N3
    replace Nd := off1_nodup o3 Nd
    have hyS : StrsAre ys ((freshD S btw x).map (nameOf S)) := all2_strs hys
    have hyl := hyS.length
    rw [List.length_map] at hyl
    have hml : ((freshD S btw x).map (nameOf S)).length = (freshD S btw x).length := List.length_map ..
    clear N' F' o3
    dsimp only
    k_extra "o m gq"
    first | k_extra "o m catS" | fail
    k_extra "o m gq"
    refine LCg.ListComp_U (F₀ := F') (by with_unfolding_all rfl) (by decide) rfl (by decide) rfl ?_
    k_extra "o m gc"
    refine comp_src hh F' N' (by first | k_extra "o mem" | fail) (by k_extra "o m oz") fun gg => ?_
    refine comp_kids (AttK g.inn) S.attrs har2.symm (src_mem (by first | k_extra "o mem" | fail)) Nd ?_ ?_
    · clear N' F' Nd
      intro j v ps ex9 I oI C oC D ys m₂ h tk E' P2 hy hv hC hx F' N' Nd' hP2
      obtain ⟨v9, hv9, c9, vs9, n9, e9, hm9, hp9⟩ := V.ar.get _ _ hy
      have e8 : v = v9 := (Option.some.inj (hv9.symm.trans hv)).symm
      subst e8
      subst e9
      have hpl := hp9.length
      have hpz : ps.length ≤ 100 := O.az _ (List.mem_of_getElem? hy)
      have Nd := Nd'
      k_extra "o m gc"
      exact hP2 _ _ _ F' N' Nd ⟨_, _, rfl, hp9⟩
    intro kA NdA hA DA h3 tk3 F3 N3 o3
    replace N3 : News hG L' h3 ((DA, listOf (List.toArray (refsOf1 kA)) (refsOf1 kA).length) :: _) := N3
    replace Nd := off1_nodup o3 (nd_rev NdA)
    clear N' F' o3 NdA
    dsimp only
    k_extra "o m gc"
    refine LCg.ListComp_U (F₀ := (by assumption)) (by with_unfolding_all rfl) (by decide) rfl (by decide) rfl ?_
    k_extra "o m gc"
    rename Fr _ _ _ _ => F'
    rename News _ _ _ _ => N'
    refine comp_src hh F' N' (by first | k_extra "o mem" | fail) (by k_extra "o m oz") fun gg => ?_
    refine comp_kids (AttK g.inn) ((freshD S btw x).map (attrOf S)) (by rw [List.length_map]; exact hql.symm) (src_mem (by first | k_extra "o mem" | fail)) Nd ?_ ?_
    · clear N' F' Nd
      intro j v ps ex9 I oI C oC D ys m₂ h tk E' P2 hy hv hC hx F' N' Nd' hP2
      obtain ⟨y2, t9, e, hy2⟩ := IntsAre.at hqI j v hv
      subst e
      have eps : ps = attrOf S y2 := by rw [List.getElem?_map, hy2] at hy; exact (Option.some.inj hy).symm
      subst eps
      obtain ⟨y0, y1⟩ := hfrq y2 (List.mem_of_getElem? hy2)
      obtain ⟨ca, vsa, ma, ha1, ha2, ha3⟩ := attr_at V O.ln y0 y1
      have hpl := ha3.length
      have hpz : (attrOf S y2).length ≤ 100 := O.az _ (getD_mem3 (by k_extra "o m oz"))
      have Nd := Nd'
      k_extra "o m gc"
      exact hP2 _ _ _ F' N' Nd ⟨_, _, rfl, ha3⟩
    intro kB NdB hB DB h3 tk3 F3 N3 o3
    replace N3 : News hG L' h3 ((DB, listOf (List.toArray (refsOf1 kB)) (refsOf1 kB).length) :: _) := N3
    replace Nd := off1_nodup o3 (nd_rev NdB)
    clear N' F' o3 NdB
    have hAl := hA.length
    have hBl := hB.length
    rw [List.length_map] at hBl
    have hz5 : (refsOf1 kA).length + (refsOf1 kB).length ≤ 1000000 := by rw [List.length_map, List.length_map]; k_extra "o m oz"
    dsimp only
    k_extra "o m gq"
    first | k_extra "o m catV" | fail
    k_extra "o m gq"
    first | k_extra "o m catS" | fail
    k_extra "o m gc"
    have hcl : (chD S pre btw b).length = n + (keptL S btw).length + 1 := by
      unfold chD ch3
      rw [List.length_set, List.length_set, chK_len]; exact hch0
    refine c_parents (cs := chD S pre btw b) (vs := rv2) (n := nh2) (CC.mono (by decide)) F' N' ?vqn ?vqh ?vql ?vqz ?vqr ?_
    case vqn => exact Nd
    case vqh => first | k_extra "o mem" | fail
    case vql =>
      refine listAt_mono (fun p hp => ?_) hcD
      rcases List.mem_cons.mp hp with hp | hp
      · rw [hp]; first | k_extra "o mem" | fail
      · first | k_extra "o mem" | fail
    case vqz => k_extra "o m oz"
    case vqr =>
      intro l hl c hc
      have := O.cr l hl c hc
      k_extra "o m oz"
    clear N' F' Nd
    intro h' tk R us cR F' N' Nd hpI
    dsimp only [List.map] at Nd
    have hcz := O.cz
    k_extra "o m gc"
    refine wpAny_execs_nil ?_
    exact hP _ (fun G kk => kk _ _ _ _ _ _ F' (spl_nn (by first | k_extra "o m spl" | fail) N' Nd) (by first | k_extra "o mem" | fail) ⟨[_, _, _, _, _, _, _, _, _, _], _, _, by rfl,
      .cons (.list (List.mem_append_left _ (by first | k_extra "o mem" | fail)) (ints_dat hsI)) (.cons (.list (List.mem_append_left _ (by first | k_extra "o mem" | fail)) (ints_dat hiI)) (.cons (.list (List.mem_append_left _ (by first | k_extra "o mem" | fail)) .nil)
      (.cons (.list (List.mem_append_left _ (by first | k_extra "o mem" | fail)) (strs_dat2 (by with_reducible assumption) (by rfl))) (.cons (.list (List.mem_append_left _ (by first | k_extra "o mem" | fail)) (strs_dat2 (by with_reducible assumption) (by rfl))) (.cons (.list (List.mem_append_left _ (by first | k_extra "o mem" | fail)) (strs_dat2 (by with_reducible assumption) (by rfl)))
      (.cons (.list (List.mem_append_left _ (by first | k_extra "o mem" | fail)) (att_dat2 (fun p hp => List.mem_append_right _ hp) hA hB (fun p hp => List.mem_append_left _ (by have hp := List.mem_reverse.mpr hp; first | k_extra "o mem" | fail)) (fun p hp => List.mem_append_left _ (by have hp := List.mem_reverse.mpr hp; first | k_extra "o mem" | fail))))
      (.cons (.list (List.mem_append_left _ (by first | k_extra "o mem" | fail)) (strs_dat2 (by with_reducible assumption) (by rfl))) (.cons (.list (List.mem_append_left _ (by first | k_extra "o mem" | fail)) (ints_dat hpI))
      (.cons (.list (List.mem_append_left _ (by first | k_extra "o mem" | fail)) (list_dat (fun p hp => List.mem_append_left _ (by rcases List.mem_cons.mp hp with hp | hp <;> first | (rw [hp]; k_extra "o mem") | k_extra "o mem" | fail)) hcD)) .nil))))))))), List.mem_append_left _ (by first | k_extra "o mem" | fail), hd', lo'⟩ (by first | k_extra "o mem" | fail) (by first | k_extra "o mem" | fail) (by first | k_extra "o mem" | fail))
  clear N' F' Nd hcD hqI
  intro s₂ hX
  refine hX _ ?_
  clear hX
  rintro h' tk' Y DW vW nW F' NN' hDW hWA hmr hme hml
  have N' := NN'.1
  have Nd := NN'.2
  clear NN'
  dsimp only [List.cons_append, List.nil_append] at F'
  k_extra "o m cut"
  have eT : S.stack.take ((pre.length : Int) + 1).toNat = pre ++ [x] := by
    have e : S.stack = (pre ++ [x]) ++ (btw ++ b :: post) := by rw [hst]; simp
    rw [e]; exact List.take_left' (by simp only [List.length_append, List.length_cons, List.length_nil]; k_extra "o m oz")
  have eP : S.stack.drop (((pre.length + 1 + btw.length : Nat) : Int) + 1).toNat = post := by
    have e : S.stack = (pre ++ x :: (btw ++ [b])) ++ post := by rw [hst]; simp
    rw [e]
    exact List.drop_left' (by simp only [List.length_append, List.length_cons, List.length_nil]; k_extra "o m oz")
  have hrw0 : (0 : Int) < ((rowD S btw b).length : Int) := by k_extra "o m oz"
  clear hvl hfl2 hki2 hch1 hch2' hcz2 hi2 htab hch1' hcz1 hch0 hch2 hkinds hn1 hkl hln2 hsp2 hna2 hte2 hsp3 hna3 hte3 har3 har2 hfrq hm0 hm1 hil hsl hql hqz
  k_extra "o m gs"
  first | (refine l_sub (by k_asm) (by first | k_extra "o mem" | fail) hrI (by decide) (by assumption) (by decide) ?_ (by with_unfolding_all rfl); intro tr0) | skip
  k_extra "o m gc"
  rw [eT, eP] at *
  refine k _ _ _ _ _ _ _ _ g kF (spl_nn1 (by first | k_extra "o m spl" | fail) kN Nd) V ⟨⟨_, _, _, by first | k_extra "o mem" | fail⟩, ⟨_, _, _, _, _, _, _, by first | k_extra "o mem" | fail, by first | k_extra "o mem" | fail, by with_reducible assumption, by first | k_extra "o mem" | fail, heI⟩, ⟨_, _, by first | k_extra "o mem" | fail, hWA.mono fun p hp => ?_⟩⟩
  rcases List.mem_append.mp hp with hp | hp
  · exact List.mem_append_left _ (by first | k_extra "o mem" | fail)
  · exact List.mem_append_right _ hp
theorem all (v : CV × Nat × (List Int) × (List Int) × (List Int) × Int × Int × Tok × Tok) : St_ v.1.prog v.1.w v.1.A v.1.h₀ v.1.L v.1.m v.1.sh v.1.sg v.1.sd v.1.stk v.1.so v.1.ex v.1.a v.1.S v.1.Q v.1.E v.2.1 v.2.2.1 v.2.2.2.1 v.2.2.2.2.1 v.2.2.2.2.2.1 v.2.2.2.2.2.2.1 v.2.2.2.2.2.2.2.1 v.2.2.2.2.2.2.2.2 := eps_all ⟨v⟩ (P := fun v => St_ v.1.prog v.1.w v.1.A v.1.h₀ v.1.L v.1.m v.1.sh v.1.sg v.1.sd v.1.stk v.1.so v.1.ex v.1.a v.1.S v.1.Q v.1.E v.2.1 v.2.2.1 v.2.2.2.1 v.2.2.2.2.1 v.2.2.2.2.2.1 v.2.2.2.2.2.2.1 v.2.2.2.2.2.2.2.1 v.2.2.2.2.2.2.2.2) (by with_unfolding_all exact core) v
end E_c_due
section
variable {prog : Program} {w : World} {A : Around} {h₀ : Heap} {L : Addr} {m : Str → Option Value} {sh : Heap} {sg : Array GenState} {sd : Drawn} {stk : Nat} {so : OsState} {news ex : List (Addr × Obj)} {a : BA} {S : St} {Q : Value → Shared → Prop} {E : Value → Shared → Prop}
theorem c_due {n : Nat} {pre btw post : List Int} {x b : Int} {tx tb : Tok} (C : Cx w h₀ A L 2) (F : Fr h₀ L sh m) (W : Bw prog w h₀ L sh ex a S) (O : DueOk S n pre x btw b post)
    (k : ∀ h' tk D T1 T2 T3 c X g', Fr h₀ L h' m → NN h₀ L h' ((D, ({ cls := .type "tuple", data := .seq #[.ref T1, .ref T2, .ref T3] c } : Obj)) :: (X ++ (ex ++ obs w.params a g'))) → Sv prog w a g' S → DueAt prog w X g'.inn T1 T2 T3 S pre x btw b post → Q (.ref D) (Shared.mk h' sg sd tk so)) :
    wpAny (model prog w) A (call (.ref 568) [.ref a.b, .int x tx, .int b tb]) Q E (Shared.mk sh sg sd stk so) :=
  E_c_due.all (⟨prog, w, A, h₀, L, m, sh, sg, sd, stk, so, ex, cv0.news, a, S, Q, E⟩, n, pre, btw, post, x, b, tx, tb) C F W O k
end

theorem nodup_len : ∀ {n : Nat} {l : List Int}, l.Nodup → (∀ y ∈ l, 0 ≤ y ∧ y < (n : Int)) → l.length ≤ n
  | 0, l, _, hr => by
    cases l with
    | nil => exact Nat.le_refl _
    | cons a l => have := hr a (.head _); k_extra "o m oz"
  | n + 1, l, h, hr => by
    have h2 := nodup_len (n := n) (l := l.erase (n : Int)) (h.erase _) (fun y hy => by
      have hm := List.mem_of_mem_erase hy
      have hne : y ≠ (n : Int) := fun e => by subst e; exact h.not_mem_erase hy
      have := hr y hm
      k_extra "o m oz")
    have h3 : l.length ≤ (l.erase (n : Int)).length + 1 := by
      rw [List.length_erase]; split <;> k_extra "o m oz"
    k_extra "o m oz"
theorem kids_len {S : St} {n : Nat} (C : Coh S n) {p : Int} (h0 : 0 ≤ p) (h1 : p < n) : (kidsOf S p).length ≤ n :=
  nodup_len (C.nd p h0 h1) fun y hy => by have := C.up p y h0 h1 hy; exact ⟨this.1, this.2.1⟩
theorem insOk_gen {S : St} {n : Nat} {p x : Int} {l : List Int} (C : Coh S n) (hn : n ≤ 100000) (h0 : 0 ≤ x) (h1 : x < n) (hp0 : 0 ≤ p) (hp1 : p < n) (hu : Up S p l) (hl : l.length ≤ 100000) (hne : x ≠ p) (hnl : x ∉ l) : InsOk S p x l where
  h0 := h0
  h1 := by rw [C.pa]; exact h1
  hz := by rw [C.pa]; k_extra "o m oz"
  hc := by rw [C.ch]; k_extra "o m oz"
  hx := fun h => by
    have d := C.dn x h0 h1 h
    have := kids_len C d.1 d.2.1
    exact ⟨d.1, by rw [C.ch]; exact d.2.1, d.2.2, by k_extra "o m oz"⟩
  hp0 := hp0
  hp1 := by rw [C.ch]; exact hp1
  hp2 := by rw [C.pa]; exact hp1
  hu := hu
  hl := hl
  hne := hne
  hnl := hnl
  hkz := by
    have := kids_len (C.unlink h0 h1) hp0 hp1
    k_extra "o m oz"
structure Tr (S : St) (n : Nat) : Prop where
  coh : Coh S n
  asc : ∀ c : Int, 0 ≤ c → c < n → par S c < c
theorem up_asc {S : St} {n : Nat} (T : Tr S n) : ∀ (k : Nat) (p : Int), p.toNat = k → 0 ≤ p → p < n → ∃ l, Up S p l ∧ l.length ≤ k ∧ ∀ y ∈ l, 0 ≤ y ∧ y < p := by
  intro k
  induction k using Nat.strongRecOn with
  | ind k ih =>
    intro p hk h0 h1
    by_cases e : par S p = -1
    · exact ⟨[], .top e, Nat.zero_le _, fun y hy => nomatch hy⟩
    · have d := T.coh.dn p h0 h1 e
      have a := T.asc p h0 h1
      have hlt : (par S p).toNat < k := by rw [← hk]; exact (Int.toNat_lt_toNat (Int.lt_of_le_of_lt d.1 a)).mpr a
      obtain ⟨l, hu, hl, hr⟩ := ih (par S p).toNat hlt (par S p) rfl d.1 d.2.1
      refine ⟨par S p :: l, .up d.1 (by rw [T.coh.pa]; exact d.2.1) hu, Nat.lt_of_le_of_lt hl hlt, ?_⟩
      intro y hy
      rcases List.mem_cons.mp hy with rfl | hy
      · exact ⟨d.1, a⟩
      · exact ⟨(hr y hy).1, Int.lt_trans (hr y hy).2 a⟩
theorem insOk_asc {S : St} {n : Nat} {p x : Int} (T : Tr S n) (hn : n ≤ 100000) (h1 : x < n) (hp0 : 0 ≤ p) (hlt : p < x) : ∃ l, InsOk S p x l := by
  obtain ⟨l, hu, hl, hr⟩ := up_asc T _ p rfl hp0 (by k_extra "o m oz")
  exact ⟨l, insOk_gen T.coh hn (by k_extra "o m oz") h1 hp0 (by k_extra "o m oz") hu (by k_extra "o m oz") (by k_extra "o m oz") fun hm => by have := hr _ hm; k_extra "o m oz"⟩
theorem Tr.congr {S S' : St} {n : Nat} (T : Tr S n) (e1 : S'.parents = S.parents) (e2 : S'.children = S.children) : Tr S' n := by
  have ep : ∀ y, par S' y = par S y := fun y => by unfold par; rw [e1]
  have ek : ∀ y, kidsOf S' y = kidsOf S y := fun y => by unfold kidsOf; rw [e2]
  refine ⟨⟨by rw [e1]; exact T.coh.pa, by rw [e2]; exact T.coh.ch, ?_, ?_, ?_⟩, ?_⟩
  · intro p c; rw [ek, ep]; exact T.coh.up p c
  · intro c; rw [ep, ek]; exact T.coh.dn c
  · intro p; rw [ek]; exact T.coh.nd p
  · intro c; rw [ep]; exact T.asc c
theorem Tr.insE {S : St} {n : Nat} {p x : Int} (T : Tr S n) (h1 : x < n) (hp0 : 0 ≤ p) (hlt : p < x) : Tr (insertE S p x) n := by
  refine ⟨T.coh.insE (by k_extra "o m oz") h1 hp0 (by k_extra "o m oz"), fun c h0 hc => ?_⟩
  rw [par_insE T.coh (by k_extra "o m oz") h1 h0]
  split
  · k_extra "o m oz"
  · exact T.asc c h0 hc
theorem Tr.addN {S : St} {n : Nat} (T : Tr S n) (kind sp na : Str) (ps : List (Str × Str)) (te : Str) : Tr (addN S kind sp na ps te) (n + 1) := by
  refine ⟨T.coh.addN, fun c h0 hc => ?_⟩
  rw [par_addN T.coh h0]
  split
  · k_extra "o m oz"
  · exact T.asc c h0 (by k_extra "o m oz")
noncomputable def spaceOf (S : St) (x : Int) : Str := S.spaces.getD x.toNat Str.empty
structure Good (S : St) (n : Nat) : Prop where
  ln : Ln S n
  tr : Tr S n
  cl : S.contents.length ≤ n
  ck : ∀ q ∈ S.contents, 0 ≤ q.1 ∧ q.2 = q.1 + 1 ∧ q.2 < n ∧ nameOf S q.1 = sTempl ∧ nameOf S q.2 = Str.empty
  cp : ∀ c : Int, 0 ≤ c → c < n → par S c ≠ -1 → List.lookup (par S c) S.contents = none
  st : ∀ y ∈ S.stack, 0 < y ∧ y < n ∧ par S y ≠ -1 ∧ nameOf S y ≠ Str.empty
  so : S.stack.Pairwise (· < ·)
  fm : ∀ y ∈ S.fmt, y = -1 ∨ (0 ≤ y ∧ y < n)
  fc : ∀ y : Int, 0 ≤ y → S.fmt.count y ≤ 1
  az : ∀ x : Int, (attrOf S x).length ≤ 2
theorem look_some {k v : Int} : ∀ {c : List (Int × Int)}, List.lookup k c = some v → (k, v) ∈ c
  | [], h => nomatch h
  | (a, b) :: c, h => by
    rw [List.lookup_cons] at h
    by_cases e : k = a
    · subst e
      simp only [beq_self_eq_true] at h
      cases h
      exact .head _
    · have : (k == a) = false := by simpa using e
      rw [this] at h
      exact .tail _ (look_some h)
theorem look_none {k : Int} {c : List (Int × Int)} (h : ∀ q ∈ c, q.1 ≠ k) : List.lookup k c = none := by
  cases e : List.lookup k c with
  | none => rfl
  | some v => exact absurd rfl (h _ (look_some e))
theorem Good.nk {S : St} {n : Nat} (G : Good S n) {k : Int} (h : (n : Int) ≤ k + 1) : List.lookup k S.contents = none := look_none fun q hq e => by
  have := G.ck q hq; k_extra "o m oz"
theorem Good.sized {S : St} {n : Nat} (G : Good S n) (hn : n + 2 ≤ 100000) (hs : S.stack.length ≤ 100000) (hf : S.fmt.length ≤ 100000) : Sized S n :=
  ⟨G.ln, hn, hs, hf, by have := G.cl; k_extra "o m oz", G.nk (by k_extra "o m oz"), fun x => by have := G.az x; k_extra "o m oz"⟩
theorem name_addN {S : St} {n : Nat} (H : Ln S n) (kind sp na : Str) (ps : List (Str × Str)) (te : Str) {y : Int} (hy : 0 ≤ y) : nameOf (addN S kind sp na ps te) y = if y = n then na else nameOf S y := by
  show (S.names ++ [na]).getD y.toNat Str.empty = _
  rw [getD_snoc, H.na]
  by_cases e : y = n
  · rw [if_pos (by k_extra "o m oz"), if_pos e]
  · rw [if_neg (by k_extra "o m oz"), if_neg e]; rfl
theorem space_addN {S : St} {n : Nat} (H : Ln S n) (kind sp na : Str) (ps : List (Str × Str)) (te : Str) {y : Int} (hy : 0 ≤ y) : spaceOf (addN S kind sp na ps te) y = if y = n then sp else spaceOf S y := by
  show (S.spaces ++ [sp]).getD y.toNat Str.empty = _
  rw [getD_snoc, H.sp]
  by_cases e : y = n
  · rw [if_pos (by k_extra "o m oz"), if_pos e]
  · rw [if_neg (by k_extra "o m oz"), if_neg e]; rfl
theorem Good.addN {S : St} {n : Nat} (G : Good S n) (hn : n + 1 ≤ 100000) (kind sp na : Str) (ps : List (Str × Str)) (te : Str) (hp : ps.length ≤ 2) : Good (addN S kind sp na ps te) (n + 1) where
  ln := G.ln.addN hn ..
  tr := G.tr.addN ..
  cl := by have := G.cl; show S.contents.length ≤ _; k_extra "o m oz"
  ck := fun q hq => by
    have h := G.ck q hq
    refine ⟨h.1, h.2.1, by k_extra "o m oz", ?_, ?_⟩
    · rw [name_addN G.ln _ _ _ _ _ h.1, if_neg (by k_extra "o m oz")]; exact h.2.2.2.1
    · rw [name_addN G.ln _ _ _ _ _ (by k_extra "o m oz"), if_neg (by k_extra "o m oz")]; exact h.2.2.2.2
  cp := fun c h0 h1 => by
    rw [par_addN G.tr.coh h0]
    split
    · intro h; exact absurd rfl h
    · exact G.cp c h0 (by k_extra "o m oz")
  st := fun y hy => by
    have h := G.st y hy
    refine ⟨h.1, by k_extra "o m oz", ?_, ?_⟩
    · rw [par_addN G.tr.coh (by k_extra "o m oz"), if_neg (by k_extra "o m oz")]; exact h.2.2.1
    · rw [name_addN G.ln _ _ _ _ _ (by k_extra "o m oz"), if_neg (by k_extra "o m oz")]; exact h.2.2.2
  so := G.so
  fm := fun y hy => by have := G.fm y hy; k_extra "o m oz"
  fc := G.fc
  az := fun x => by
    have e : attrOf (Mine.Internal.addN S kind sp na ps te) x = (S.attrs ++ [ps]).getD x.toNat [] := rfl
    rw [e, getD_snoc]
    split
    · exact hp
    · exact G.az x
theorem name_insE (S : St) (p x y : Int) : nameOf (insertE S p x) y = nameOf S y := by unfold nameOf; rw [(same_insE S p x).na]
theorem space_insE (S : St) (p x y : Int) : spaceOf (insertE S p x) y = spaceOf S y := by unfold spaceOf; rw [(same_insE S p x).sp]
theorem attr_insE (S : St) (p x y : Int) : attrOf (insertE S p x) y = attrOf S y := by unfold attrOf; rw [(same_insE S p x).ar]
theorem Good.insE {S : St} {n : Nat} {p x : Int} (G : Good S n) (h1 : x < n) (hp0 : 0 ≤ p) (hlt : p < x) (hk : List.lookup p S.contents = none) : Good (insertE S p x) n where
  ln := G.ln.insE p x
  tr := G.tr.insE h1 hp0 hlt
  cl := by rw [(same_insE S p x).co]; exact G.cl
  ck := fun q hq => by
    rw [(same_insE S p x).co] at hq
    rw [name_insE, name_insE]
    exact G.ck q hq
  cp := fun c h0 hc => by
    rw [par_insE G.tr.coh (by k_extra "o m oz") h1 h0, (same_insE S p x).co]
    split
    · intro _; exact hk
    · exact G.cp c h0 hc
  st := fun y hy => by
    rw [(same_insE S p x).st] at hy
    have h := G.st y hy
    refine ⟨h.1, h.2.1, ?_, by rw [name_insE]; exact h.2.2.2⟩
    rw [par_insE G.tr.coh (by k_extra "o m oz") h1 (by k_extra "o m oz")]
    split
    · k_extra "o m oz"
    · exact h.2.2.1
  so := by rw [(same_insE S p x).st]; exact G.so
  fm := fun y hy => by rw [(same_insE S p x).fm] at hy; exact G.fm y hy
  fc := fun y hy => by rw [(same_insE S p x).fm]; exact G.fc y hy
  az := fun z => by rw [attr_insE]; exact G.az z
structure ElemF (S S1 : St) (n m : Nat) (nm sp : Str) : Prop where
  good : Good S1 m
  m1 : n + 1 ≤ m
  m2 : m ≤ n + 2
  par : ∀ y : Int, 0 ≤ y → y < n → Mine.Internal.par S1 y = Mine.Internal.par S y
  look : ∀ y : Int, y < n → List.lookup y S1.contents = List.lookup y S.contents
  name : ∀ y : Int, 0 ≤ y → y < n → nameOf S1 y = nameOf S y
  space : ∀ y : Int, 0 ≤ y → y < n → spaceOf S1 y = spaceOf S y
  nm : nameOf S1 n = nm
  sp : spaceOf S1 n = sp
  stack : S1.stack = S.stack
  fmt : S1.fmt = S.fmt
  foster : S1.foster = S.foster
  keep : S1.keep = S.keep
theorem look_app {k : Int} {c d : List (Int × Int)} (h : List.lookup k d = none) : List.lookup k (c ++ d) = List.lookup k c := by
  induction c with
  | nil => exact h
  | cons q c ih =>
    rw [List.cons_append, List.lookup_cons, List.lookup_cons, ih]
theorem elem_facts {S : St} {n : Nat} (G : Good S n) (hn : n + 2 ≤ 100000) (nm sp : Str) (ps : List (Str × Str)) (hps : ps.length ≤ 2) : ∃ m, ElemF S (elemS S nm sp ps) n m nm sp := by
  have G1 := G.addN (by k_extra "o m oz") sElem sp nm ps Str.empty hps
  unfold elemS
  split
  · rename_i hc
    have G2 := G1.addN (by k_extra "o m oz") (Str.ofString "fragment") Str.empty Str.empty [] Str.empty (by simp)
    have e : S.kinds.length = n := G.ln.ki
    rw [e]
    have hpar : ∀ y : Int, 0 ≤ y → y < n → par (addN (addN S sElem sp nm ps Str.empty) (Str.ofString "fragment") Str.empty Str.empty [] Str.empty) y = par S y := fun y h0 h1 => by
      rw [par_addN G1.tr.coh h0, if_neg (by k_extra "o m oz"), par_addN G.tr.coh h0, if_neg (by k_extra "o m oz")]
    have hnm : ∀ y : Int, 0 ≤ y → y < n + 1 → nameOf (addN (addN S sElem sp nm ps Str.empty) (Str.ofString "fragment") Str.empty Str.empty [] Str.empty) y = if y = n then nm else nameOf S y := fun y h0 h1 => by
      rw [name_addN G1.ln _ _ _ _ _ h0, if_neg (by k_extra "o m oz"), name_addN G.ln _ _ _ _ _ h0]
    have hsp : ∀ y : Int, 0 ≤ y → y < n + 1 → spaceOf (addN (addN S sElem sp nm ps Str.empty) (Str.ofString "fragment") Str.empty Str.empty [] Str.empty) y = if y = n then sp else spaceOf S y := fun y h0 h1 => by
      rw [space_addN G1.ln _ _ _ _ _ h0, if_neg (by k_extra "o m oz"), space_addN G.ln _ _ _ _ _ h0]
    have hnew : ∀ y : Int, y < n → List.lookup y [((n : Int), (n : Int) + 1)] = none := fun y h => look_none fun q hq => by
      simp only [List.mem_singleton] at hq; subst hq; show (n : Int) ≠ y; k_extra "o m oz"
    refine ⟨n + 2, ⟨⟨⟨G2.ln.ki, G2.ln.sp, G2.ln.na, G2.ln.ar, G2.ln.te, G2.ln.pa, G2.ln.ch, G2.ln.hn⟩, G2.tr.congr rfl rfl, ?_, ?_, ?_, G2.st, G2.so, G2.fm, G2.fc, G2.az⟩, by k_extra "o m oz", by k_extra "o m oz", hpar, ?_, ?_, ?_, ?_, ?_, rfl, rfl, rfl, rfl⟩⟩
    · show (S.contents ++ [_]).length ≤ _
      rw [List.length_append]; have := G.cl; simp only [List.length_singleton]; k_extra "o m oz"
    · intro q hq
      rcases List.mem_append.mp hq with hq | hq
      · exact G2.ck q hq
      · simp only [List.mem_singleton] at hq
        subst hq
        refine ⟨by simp, rfl, by show (n : Int) + 1 < ((n + 2 : Nat) : Int); k_extra "o m oz", ?_, ?_⟩
        · show nameOf (addN (addN S sElem sp nm ps Str.empty) (Str.ofString "fragment") Str.empty Str.empty [] Str.empty) n = _
          rw [hnm n (by k_extra "o m oz") (by k_extra "o m oz"), if_pos rfl]; exact hc.2
        · show nameOf (addN (addN S sElem sp nm ps Str.empty) (Str.ofString "fragment") Str.empty Str.empty [] Str.empty) ((n : Int) + 1) = _
          rw [name_addN G1.ln _ _ _ _ _ (by k_extra "o m oz"), if_pos (by k_extra "o m oz")]
    · intro c h0 h1 hne
      show List.lookup (par (addN (addN S sElem sp nm ps Str.empty) (Str.ofString "fragment") Str.empty Str.empty [] Str.empty) c) (S.contents ++ [_]) = none
      have hq : par (addN (addN S sElem sp nm ps Str.empty) (Str.ofString "fragment") Str.empty Str.empty [] Str.empty) c ≠ -1 := hne
      have h2 := G2.cp c h0 h1 hq
      have h3 : c < n := by
        rw [par_addN G1.tr.coh h0] at hq
        by_cases e1 : c = ((n + 1 : Nat) : Int)
        · rw [if_pos e1] at hq; exact absurd rfl hq
        · rw [if_neg e1, par_addN G.tr.coh h0] at hq
          by_cases e2 : c = (n : Int)
          · rw [if_pos e2] at hq; exact absurd rfl hq
          · k_extra "o m oz"
      have h4 := G2.tr.asc c h0 h1
      exact (look_app (hnew _ (by k_extra "o m oz"))).trans h2
    · intro y hy; exact look_app (hnew y hy)
    · intro y h0 h1; exact (hnm y h0 (by k_extra "o m oz")).trans (if_neg (by k_extra "o m oz"))
    · intro y h0 h1; exact (hsp y h0 (by k_extra "o m oz")).trans (if_neg (by k_extra "o m oz"))
    · exact (hnm n (by k_extra "o m oz") (by k_extra "o m oz")).trans (if_pos rfl)
    · exact (hsp n (by k_extra "o m oz") (by k_extra "o m oz")).trans (if_pos rfl)
  · refine ⟨n + 1, ⟨G1, by k_extra "o m oz", by k_extra "o m oz", ?_, fun _ _ => rfl, ?_, ?_, ?_, ?_, rfl, rfl, rfl, rfl⟩⟩
    · intro y h0 h1; rw [par_addN G.tr.coh h0, if_neg (by k_extra "o m oz")]
    · intro y h0 h1; rw [name_addN G.ln _ _ _ _ _ h0, if_neg (by k_extra "o m oz")]
    · intro y h0 h1; rw [space_addN G.ln _ _ _ _ _ h0, if_neg (by k_extra "o m oz")]
    · rw [name_addN G.ln _ _ _ _ _ (by k_extra "o m oz"), if_pos rfl]
    · rw [space_addN G.ln _ _ _ _ _ (by k_extra "o m oz"), if_pos rfl]

theorem getD_mem {α : Type} {l : List α} {i : Nat} {d : α} (h : i < l.length) : l.getD i d ∈ l := by
  rw [List.getD_eq_getElem?_getD, List.getElem?_eq_getElem h]; exact List.getElem_mem h
theorem cur_mem {S : St} (h : S.stack ≠ []) : cur S ∈ S.stack := by
  have : S.stack.length ≠ 0 := fun e => h (List.length_eq_zero_iff.mp e)
  unfold cur; rw [if_neg this]; exact getD_mem (by k_extra "o m oz")
theorem abv_ne : ∀ x ∈ abvN, x ≠ Str.empty := by decide
theorem low_ne : ∀ x ∈ lowN, x ≠ Str.empty := by decide
theorem growName_mem (d r0 : Int) (ab : Bool) : growName d r0 ab ∈ (if ab = true then abvN else lowN) := by
  unfold growName
  cases ab
  · have h0 := Int.fmod_nonneg_of_pos (d + r0) (b := 8) (by k_extra "o m oz")
    have h1 := Int.fmod_lt_of_pos (d + r0) (b := 8) (by k_extra "o m oz")
    simp only [Bool.false_eq_true, if_false]
    exact getD_mem (by show _ < 8; k_extra "o m oz")
  · have h0 := Int.fmod_nonneg_of_pos (d + r0) (b := 6) (by k_extra "o m oz")
    have h1 := Int.fmod_lt_of_pos (d + r0) (b := 6) (by k_extra "o m oz")
    simp only [if_true]
    exact getD_mem (by show _ < 6; k_extra "o m oz")
theorem growName_ne (d r0 : Int) (ab : Bool) : growName d r0 ab ≠ Str.empty := by
  have h := growName_mem d r0 ab
  cases ab
  · exact low_ne _ h
  · exact abv_ne _ h
theorem growPairs_len (d kk : Int) : (growPairs d kk).length ≤ 2 := by unfold growPairs; split <;> simp
structure Grown (S T : St) (n m : Nat) (nm sp : Str) : Prop where
  good : Good T m
  m1 : n + 1 ≤ m
  m2 : m ≤ n + 4
  name : ∀ y : Int, 0 ≤ y → y < n → nameOf T y = nameOf S y
  space : ∀ y : Int, 0 ≤ y → y < n → spaceOf T y = spaceOf S y
  nm : nameOf T n = nm
  sp : spaceOf T n = sp
  stack : T.stack = S.stack ++ [(n : Int)]
  fmt : T.fmt = S.fmt
  foster : T.foster = S.foster
  keep : T.keep = S.keep
  par : ∀ y : Int, 0 ≤ y → y < n → Mine.Internal.par T y = Mine.Internal.par S y
  parn : Mine.Internal.par T n = (List.lookup (cur S) S.contents).getD (cur S)
  look : ∀ y : Int, y < n → List.lookup y T.contents = List.lookup y S.contents
theorem grow_good {S : St} {n : Nat} (G : Good S n) (hn : n + 10 ≤ 100000) (hst : S.stack ≠ []) (d r0 kk : Int) (ab : Bool) :
    GrowOk S d r0 kk ab ∧ ∃ m, Grown S (growS S d r0 kk ab) n m (growName d r0 ab) (growSpace (growName d r0 ab)) := by
  obtain ⟨m, E⟩ := elem_facts G (by k_extra "o m oz") (growName d r0 ab) (growSpace (growName d r0 ab)) (growPairs d kk) (growPairs_len d kk)
  have q0 := E.m1
  have q1 := E.m2
  have hcur := G.st _ (cur_mem hst)
  have e0 : S.kinds.length = n := G.ln.ki
  have up0 : ∃ up, gUp S d r0 kk ab = up ∧ 0 ≤ up ∧ up < n ∧ List.lookup up (g1 S d r0 kk ab).contents = none := by
    refine ⟨_, rfl, ?_⟩
    unfold gUp
    have e : List.lookup (cur S) (g1 S d r0 kk ab).contents = List.lookup (cur S) S.contents := E.look _ hcur.2.1
    cases h : List.lookup (cur S) (g1 S d r0 kk ab).contents with
    | none => exact ⟨by simp only [Option.getD_none]; k_extra "o m oz", by simp only [Option.getD_none]; k_extra "o m oz", by rw [Option.getD_none]; exact h⟩
    | some v =>
      have hm := look_some (e ▸ h)
      have hk := G.ck _ hm
      refine ⟨by simp only [Option.getD_some]; k_extra "o m oz", by simp only [Option.getD_some]; k_extra "o m oz", ?_⟩
      rw [Option.getD_some]
      refine (E.look v hk.2.2.1).trans (look_none fun q hq e => ?_)
      have h2 := (G.ck q hq).2.2.2.1
      rw [e, hk.2.2.2.2] at h2
      exact absurd h2 (by decide)
  obtain ⟨up, eup, u0, u1, uk⟩ := up0
  have eup2 : up = (List.lookup (cur S) S.contents).getD (cur S) := by
    rw [← eup]; unfold gUp
    rw [show List.lookup (cur S) (g1 S d r0 kk ab).contents = List.lookup (cur S) S.contents from E.look _ hcur.2.1]
  have G1 : Good (g1 S d r0 kk ab) m := E.good
  have e1 : (g1 S d r0 kk ab).kinds.length = m := G1.ln.ki
  have G2 : Good (g2 S d r0 kk ab) (m + 1) := G1.addN (by k_extra "o m oz") _ _ _ _ _ (by simp)
  have G3 : Good (g3 S d r0 kk ab) (m + 1) := by
    unfold g3; rw [eup, e1]
    exact G2.insE (by k_extra "o m oz") u0 (by k_extra "o m oz") uk
  have c3 : (g3 S d r0 kk ab).contents = (g1 S d r0 kk ab).contents := (same_insE _ _ _).co
  have G4 : Good (g4 S d r0 kk ab) (m + 1) := by
    unfold g4; rw [eup, e0]
    exact G3.insE (by k_extra "o m oz") u0 (by k_extra "o m oz") (by rw [c3]; exact uk)
  have e4 : (g4 S d r0 kk ab).kinds.length = m + 1 := G4.ln.ki
  have c4 : (g4 S d r0 kk ab).contents = (g1 S d r0 kk ab).contents := (same_insE (g3 S d r0 kk ab) _ _).co.trans c3
  have G5 : Good (g5 S d r0 kk ab) (m + 2) := G4.addN (by k_extra "o m oz") _ _ _ _ _ (by simp)
  have G6 : Good (g6 S d r0 kk ab) (m + 2) := by
    unfold g6; rw [eup, e4]
    exact G5.insE (by k_extra "o m oz") u0 (by k_extra "o m oz") (by show List.lookup up (g4 S d r0 kk ab).contents = none; rw [c4]; exact uk)
  -- names
  have n4 : ∀ y : Int, 0 ≤ y → y < m → nameOf (g4 S d r0 kk ab) y = nameOf (g1 S d r0 kk ab) y := fun y h0 h1 => by
    unfold g4; rw [name_insE]; unfold g3; rw [name_insE]; unfold g2; rw [name_addN G1.ln _ _ _ _ _ h0, if_neg (by k_extra "o m oz")]
  have s4 : ∀ y : Int, 0 ≤ y → y < m → spaceOf (g4 S d r0 kk ab) y = spaceOf (g1 S d r0 kk ab) y := fun y h0 h1 => by
    unfold g4; rw [space_insE]; unfold g3; rw [space_insE]; unfold g2; rw [space_addN G1.ln _ _ _ _ _ h0, if_neg (by k_extra "o m oz")]
  have n6 : ∀ y : Int, 0 ≤ y → y < m → nameOf (g6 S d r0 kk ab) y = nameOf (g1 S d r0 kk ab) y := fun y h0 h1 => by
    rw [← n4 y h0 h1]
    unfold g6; rw [name_insE]; unfold g5; rw [name_addN G4.ln _ _ _ _ _ h0, if_neg (by k_extra "o m oz")]
  have s6 : ∀ y : Int, 0 ≤ y → y < m → spaceOf (g6 S d r0 kk ab) y = spaceOf (g1 S d r0 kk ab) y := fun y h0 h1 => by
    rw [← s4 y h0 h1]
    unfold g6; rw [space_insE]; unfold g5; rw [space_addN G4.ln _ _ _ _ _ h0, if_neg (by k_extra "o m oz")]
  have p3 : par (g4 S d r0 kk ab) n = up := by
    unfold g4; rw [eup, e0, par_insE G3.tr.coh (by k_extra "o m oz") (by k_extra "o m oz") (by k_extra "o m oz"), if_pos rfl]
  have p6 : par (g6 S d r0 kk ab) n = up := by
    unfold g6; rw [eup, e4, par_insE G5.tr.coh (by k_extra "o m oz") (by k_extra "o m oz") (by k_extra "o m oz"), if_neg (by k_extra "o m oz")]
    unfold g5; rw [par_addN G4.tr.coh (by k_extra "o m oz"), if_neg (by k_extra "o m oz")]; exact p3
  have st1 : (g1 S d r0 kk ab).stack = S.stack := E.stack
  have st4 : (g4 S d r0 kk ab).stack = S.stack := ((same_insE (g3 S d r0 kk ab) _ _).st.trans (same_insE (g2 S d r0 kk ab) _ _).st).trans st1
  have st6 : (g6 S d r0 kk ab).stack = S.stack := (same_insE (g5 S d r0 kk ab) _ _).st.trans st4
  have f4 : (g4 S d r0 kk ab).fmt = S.fmt := ((same_insE (g3 S d r0 kk ab) _ _).fm.trans (same_insE (g2 S d r0 kk ab) _ _).fm).trans E.fmt
  have f6 : (g6 S d r0 kk ab).fmt = S.fmt := (same_insE (g5 S d r0 kk ab) _ _).fm.trans f4
  have o4 : (g4 S d r0 kk ab).foster = S.foster := ((same_insE (g3 S d r0 kk ab) _ _).fo.trans (same_insE (g2 S d r0 kk ab) _ _).fo).trans E.foster
  have o6 : (g6 S d r0 kk ab).foster = S.foster := (same_insE (g5 S d r0 kk ab) _ _).fo.trans o4
  have k4 : (g4 S d r0 kk ab).keep = S.keep := ((same_insE (g3 S d r0 kk ab) _ _).ke.trans (same_insE (g2 S d r0 kk ab) _ _).ke).trans E.keep
  have k6 : (g6 S d r0 kk ab).keep = S.keep := (same_insE (g5 S d r0 kk ab) _ _).ke.trans k4
  have c6 : (g6 S d r0 kk ab).contents = (g1 S d r0 kk ab).contents := (same_insE (g5 S d r0 kk ab) _ _).co.trans c4
  have q4 : ∀ y : Int, 0 ≤ y → y < n → par (g4 S d r0 kk ab) y = par S y := fun y h0 h1 => by
    unfold g4; rw [eup, e0, par_insE G3.tr.coh (by k_extra "o m oz") (by k_extra "o m oz") h0, if_neg (by k_extra "o m oz")]
    unfold g3; rw [eup, e1, par_insE G2.tr.coh (by k_extra "o m oz") (by k_extra "o m oz") h0, if_neg (by k_extra "o m oz")]
    unfold g2; rw [par_addN G1.tr.coh h0, if_neg (by k_extra "o m oz")]
    exact E.par y h0 h1
  have q6 : ∀ y : Int, 0 ≤ y → y < n → par (g6 S d r0 kk ab) y = par S y := fun y h0 h1 => by
    unfold g6; rw [eup, e4, par_insE G5.tr.coh (by k_extra "o m oz") (by k_extra "o m oz") h0, if_neg (by k_extra "o m oz")]
    unfold g5; rw [par_addN G4.tr.coh h0, if_neg (by k_extra "o m oz")]
    exact q4 y h0 h1
  -- the push
  have push : ∀ (T : St) (mm : Nat), Good T mm → m ≤ mm → mm ≤ n + 4 → T.stack = S.stack → T.fmt = S.fmt → T.foster = S.foster → T.keep = S.keep → par T n = up → T.contents = (g1 S d r0 kk ab).contents → (∀ y : Int, 0 ≤ y → y < n → par T y = par S y) →
      (∀ y : Int, 0 ≤ y → y < m → nameOf T y = nameOf (g1 S d r0 kk ab) y) → (∀ y : Int, 0 ≤ y → y < m → spaceOf T y = spaceOf (g1 S d r0 kk ab) y) →
      Grown S { T with stack := S.stack ++ [(n : Int)] } n mm (growName d r0 ab) (growSpace (growName d r0 ab)) := by
    intro T mm GT hm1 hm2 hs hf ho hk hp hco hpy hnm hsp
    refine ⟨⟨⟨GT.ln.ki, GT.ln.sp, GT.ln.na, GT.ln.ar, GT.ln.te, GT.ln.pa, GT.ln.ch, GT.ln.hn⟩, GT.tr.congr rfl rfl, GT.cl, GT.ck, GT.cp, ?_, ?_, GT.fm, GT.fc, GT.az⟩, by k_extra "o m oz", hm2, ?_, ?_, ?_, ?_, rfl, hf, ho, hk, hpy, hp.trans eup2, fun y hy => (congrArg (List.lookup y) hco).trans (E.look y hy)⟩
    · intro y hy
      rcases List.mem_append.mp hy with hy | hy
      · exact GT.st y (by rw [hs]; exact hy)
      · simp only [List.mem_singleton] at hy
        subst hy
        refine ⟨by k_extra "o m oz", by k_extra "o m oz", ?_, ?_⟩
        · show par T n ≠ -1
          rw [hp]; k_extra "o m oz"
        · show nameOf T n ≠ _
          rw [hnm n (by k_extra "o m oz") (by k_extra "o m oz")]
          exact E.nm ▸ growName_ne d r0 ab
    · show (S.stack ++ [(n : Int)]).Pairwise (· < ·)
      rw [List.pairwise_append]
      refine ⟨G.so, List.pairwise_singleton _ _, fun y hy z hz => ?_⟩
      simp only [List.mem_singleton] at hz
      subst hz
      exact (G.st y hy).2.1
    · intro y h0 h1
      show nameOf T y = _
      rw [hnm y h0 (by k_extra "o m oz")]; exact E.name y h0 h1
    · intro y h0 h1
      show spaceOf T y = _
      rw [hsp y h0 (by k_extra "o m oz")]; exact E.space y h0 h1
    · show nameOf T n = _
      rw [hnm n (by k_extra "o m oz") (by k_extra "o m oz")]; exact E.nm
    · show spaceOf T n = _
      rw [hsp n (by k_extra "o m oz") (by k_extra "o m oz")]; exact E.sp
  refine ⟨⟨?_, ?_, ?_⟩, ?_⟩
  · rw [eup, e1]; exact insOk_asc G2.tr (by k_extra "o m oz") (by k_extra "o m oz") u0 (by k_extra "o m oz")
  · rw [eup, e0]; exact insOk_asc G3.tr (by k_extra "o m oz") (by k_extra "o m oz") u0 (by k_extra "o m oz")
  · rw [eup, e4]; exact insOk_asc G5.tr (by k_extra "o m oz") (by k_extra "o m oz") u0 (by k_extra "o m oz")
  · unfold growS g7
    rw [e0]
    split
    · exact ⟨m + 2, push _ _ G6 (by k_extra "o m oz") (by k_extra "o m oz") st6 f6 o6 k6 p6 c6 q6 n6 s6⟩
    · exact ⟨m + 1, push _ _ G4 (by k_extra "o m oz") (by k_extra "o m oz") st4 f4 o4 k4 p3 c4 q4 n4 s4⟩
theorem count_putIn (l : List Int) (k : Nat) (x y : Int) : (putIn l k x).count y = (if x = y then 1 else 0) + l.count y := by
  rw [(putIn_perm l k x).count_eq, List.count_cons]
  by_cases h : x = y
  · subst h; simp [Nat.add_comm]
  · simp [h]
theorem Good.put {S : St} {n : Nat} (G : Good S n) {x : Int} (k : Nat) (hx : x = -1 ∨ (0 ≤ x ∧ x < n)) (hc : 0 ≤ x → x ∉ S.fmt) : Good { S with fmt := putIn S.fmt k x } n where
  ln := ⟨G.ln.ki, G.ln.sp, G.ln.na, G.ln.ar, G.ln.te, G.ln.pa, G.ln.ch, G.ln.hn⟩
  tr := G.tr.congr rfl rfl
  cl := G.cl
  ck := G.ck
  cp := G.cp
  st := G.st
  so := G.so
  fm := fun y hy => by
    rcases mem_putIn.mp hy with rfl | hy
    · exact hx
    · exact G.fm y hy
  fc := fun y hy => by
    show (putIn S.fmt k x).count y ≤ 1
    rw [count_putIn]
    by_cases e : x = y
    · subst e
      rw [if_pos rfl, List.count_eq_zero_of_not_mem (hc hy)]
      k_extra "o m oz"
    · rw [if_neg e, Nat.zero_add]; exact G.fc y hy
  az := G.az

theorem good00 (fo : Bool) : Good (S0f fo) 1 where
  ln := ⟨rfl, rfl, rfl, rfl, rfl, rfl, rfl, by decide⟩
  tr := ⟨⟨rfl, rfl, fun p c h0 h1 hm => by
      have e : p = 0 := by k_extra "o m oz"
      subst e; exact absurd (show c ∈ ([] : List Int) from hm) (List.not_mem_nil),
    fun c h0 h1 h => by have e : c = 0 := by k_extra "o m oz"
                        subst e; exact absurd rfl h,
    fun p h0 h1 => by have e : p = 0 := by k_extra "o m oz"
                      subst e; exact (List.nodup_nil : ([] : List Int).Nodup)⟩, fun c h0 h1 => by
                        have e : c = 0 := by k_extra "o m oz"
                        subst e; exact (by decide : (-1 : Int) < 0)⟩
  cl := Nat.zero_le _
  ck := fun q hq => nomatch (show q ∈ ([] : List (Int × Int)) from hq)
  cp := fun c h0 h1 h => rfl
  st := fun y hy => nomatch (show y ∈ ([] : List Int) from hy)
  so := .nil
  fm := fun y hy => nomatch (show y ∈ ([] : List Int) from hy)
  fc := fun y _ => Nat.zero_le 1
  az := fun x => by
    show (([[]] : List (List (Str × Str))).getD x.toNat []).length ≤ 2
    cases x.toNat with
    | zero => exact Nat.zero_le _
    | succ j => exact Nat.zero_le _
theorem root_ok (fo : Bool) : ∃ l, InsOk (S0e fo) 0 1 l := by
  obtain ⟨m, E⟩ := elem_facts (good00 fo) (by decide) sHtml sHtml [] (by simp)
  have := E.m1
  have := E.m2
  exact insOk_asc E.good.tr (by k_extra "o m oz") (by k_extra "o m oz") (by k_extra "o m oz") (by k_extra "o m oz")
noncomputable def upOf (S : St) (y : Int) : Int := (List.lookup y S.contents).getD y
noncomputable def okNm (ns : List Int) (i j : Nat) : Str := growName (digK ns i j) (brow i j 0) (decide (j < aboveOf ns i))
structure Built (ns : List Int) (i k : Nat) (S : St) (n : Nat) : Prop where
  good : Good S n
  n0 : 2 ≤ n
  n1 : n ≤ 3 + 6 * k
  sl : S.stack.length = k + 1
  fl : S.fmt.length ≤ 2 * k
  s0 : S.stack.getD 0 0 = 1
  nm0 : nameOf S 1 = sHtml
  sp0 : spaceOf S 1 = sHtml
  nm : ∀ j, j < k → nameOf S (S.stack.getD (j + 1) 0) = okNm ns i j
  sp : ∀ j, j < k → spaceOf S (S.stack.getD (j + 1) 0) = growSpace (okNm ns i j)
  ch : ∀ j, j < k → par S (S.stack.getD (j + 1) 0) = upOf S (S.stack.getD j 0)
  fo : S.foster = fosOf ns i
  sub : aboveOf ns i < k → S.stack.getD (aboveOf ns i + 1) 0 ∈ S.fmt
theorem built0 (ns : List Int) (i : Nat) : ∃ n, Built ns i 0 (S01 (fosOf ns i)) n := by
  obtain ⟨m, E⟩ := elem_facts (good00 (fosOf ns i)) (by decide) sHtml sHtml [] (by simp)
  have q1 := E.m1
  have q2 := E.m2
  have G0 : Good (S0e (fosOf ns i)) m := E.good
  have G : Good (insertE (S0e (fosOf ns i)) 0 1) m := G0.insE (by k_extra "o m oz") (by k_extra "o m oz") (by k_extra "o m oz") (E.look 0 (by k_extra "o m oz"))
  have hp : par (insertE (S0e (fosOf ns i)) 0 1) 1 = 0 := by
    rw [par_insE G0.tr.coh (by k_extra "o m oz") (by k_extra "o m oz") (by k_extra "o m oz"), if_pos rfl]
  have hn : nameOf (insertE (S0e (fosOf ns i)) 0 1) 1 = sHtml := by rw [name_insE]; exact E.nm
  have hs : spaceOf (insertE (S0e (fosOf ns i)) 0 1) 1 = sHtml := by rw [space_insE]; exact E.sp
  have hf : (insertE (S0e (fosOf ns i)) 0 1).fmt = [] := (same_insE _ _ _).fm.trans E.fmt
  refine ⟨m, ⟨⟨G.ln.ki, G.ln.sp, G.ln.na, G.ln.ar, G.ln.te, G.ln.pa, G.ln.ch, G.ln.hn⟩, G.tr.congr rfl rfl, G.cl, G.ck, G.cp, ?_, .cons (fun _ h => nomatch h) .nil, G.fm, G.fc, G.az⟩, by k_extra "o m oz", by k_extra "o m oz", rfl, ?_, rfl, hn, hs, fun _ h => absurd h (Nat.not_lt_zero _), fun _ h => absurd h (Nat.not_lt_zero _), fun _ h => absurd h (Nat.not_lt_zero _), ?_, fun h => absurd h (Nat.not_lt_zero _)⟩
  · intro y hy
    have e : y = 1 := by simpa [S01] using hy
    subst e
    refine ⟨by k_extra "o m oz", by k_extra "o m oz", ?_, ?_⟩
    · show par (insertE (S0e (fosOf ns i)) 0 1) 1 ≠ -1
      rw [hp]; decide
    · show nameOf (insertE (S0e (fosOf ns i)) 0 1) 1 ≠ _
      rw [hn]; decide
  · show (insertE (S0e (fosOf ns i)) 0 1).fmt.length ≤ _
    rw [hf]; exact Nat.zero_le _
  · exact ((same_insE (S0e (fosOf ns i)) 0 1).fo.trans E.foster)
structure Ext (S T : St) (n : Nat) : Prop where
  name : ∀ y : Int, 0 ≤ y → y < n → nameOf T y = nameOf S y
  space : ∀ y : Int, 0 ≤ y → y < n → spaceOf T y = spaceOf S y
  par : ∀ y : Int, 0 ≤ y → y < n → Mine.Internal.par T y = Mine.Internal.par S y
  look : ∀ y : Int, y < n → List.lookup y T.contents = List.lookup y S.contents
  fo : T.foster = S.foster
structure Mid (ns : List Int) (i k : Nat) (S : St) (n : Nat) (T : St) (m e : Nat) : Prop where
  good : Good T m
  m1 : n + 1 ≤ m
  m2 : m ≤ n + 4 + e
  ext : Ext S T n
  nm : nameOf T n = okNm ns i k
  sp : spaceOf T n = growSpace (okNm ns i k)
  pn : par T n = upOf S (cur S)
  st : T.stack = S.stack ++ [(n : Int)]
  fl : T.fmt.length ≤ 2 * k + e
  fk : ∀ y ∈ S.fmt, y ∈ T.fmt
theorem cur_snoc {T : St} {l : List Int} {x : Int} (h : T.stack = l ++ [x]) : cur T = x := by
  unfold cur
  rw [h, if_neg (by simp), List.length_append, getD_snoc, if_pos (by simp)]
theorem cur_at {S : St} {k : Nat} (h : S.stack.length = k + 1) : cur S = S.stack.getD k 0 := by
  unfold cur; rw [h, if_neg (by k_extra "o m oz")]; rfl
theorem putIn_length {α : Type} (l : List α) (k : Nat) (y : α) : (putIn l k y).length = l.length + 1 := (putIn_perm l k y).length_eq
theorem Built.grow {ns : List Int} {i k : Nat} {S : St} {n : Nat} (B : Built ns i k S n) (hk : k < 12) :
    GrowOk S (digK ns i k) (brow i k 0) k (decide (k < aboveOf ns i)) ∧ ∃ m, Mid ns i k S n (growK ns i k S) m 0 ∧ (growK ns i k S).fmt = S.fmt := by
  have hn := B.n1
  have hs := B.sl
  obtain ⟨ok, m, G⟩ := grow_good B.good (by k_extra "o m oz") (fun e => by rw [e] at hs; simp at hs) (digK ns i k) (brow i k 0) k (decide (k < aboveOf ns i))
  refine ⟨ok, m, ⟨G.good, G.m1, G.m2, ⟨G.name, G.space, G.par, G.look, G.foster⟩, G.nm, G.sp, G.parn, G.stack, ?_, ?_⟩, G.fmt⟩
  · have e : (growK ns i k S).fmt = S.fmt := G.fmt
    rw [e]; exact B.fl
  · have e : (growK ns i k S).fmt = S.fmt := G.fmt
    rw [e]; exact fun _ h => h
theorem Mid.listIn {ns : List Int} {i k : Nat} {S : St} {n : Nat} (B : Built ns i k S n) {T : St} {m : Nat} (M : Mid ns i k S n T m 0) (hf : T.fmt = S.fmt) (d r1 r2 : Int) (told : Bool) :
    Mid ns i k S n (Mine.Internal.listIn T d r1 r2 told) m 1 ∧ (told = true → (n : Int) ∈ (Mine.Internal.listIn T d r1 r2 told).fmt) := by
  have q1 := M.m1
  have q2 := M.m2
  have q3 := M.fl
  unfold Mine.Internal.listIn
  split
  · rw [cur_snoc M.st]
    have G := M.good.put (x := (n : Int)) ((d.fdiv 32 + r2).fmod ((T.fmt.length : Int) + 1)).toNat (.inr ⟨by k_extra "o m oz", by k_extra "o m oz"⟩) (fun _ hm => by
      rw [hf] at hm
      have := B.good.fm _ hm
      k_extra "o m oz")
    refine ⟨⟨G, M.m1, by k_extra "o m oz", ⟨M.ext.name, M.ext.space, M.ext.par, M.ext.look, M.ext.fo⟩, M.nm, M.sp, M.pn, M.st, ?_, ?_⟩, ?_⟩
    · show (putIn T.fmt _ _).length ≤ _
      rw [putIn_length]; k_extra "o m oz"
    · exact fun y hy => mem_putIn.mpr (.inr (M.fk y hy))
    · exact fun _ => mem_putIn.mpr (.inl rfl)
  · rename_i hc
    refine ⟨⟨M.good, M.m1, by k_extra "o m oz", M.ext, M.nm, M.sp, M.pn, M.st, by k_extra "o m oz", M.fk⟩, fun ht => ?_⟩
    subst ht
    simp at hc
theorem Mid.listEx {ns : List Int} {i k : Nat} {S : St} {n : Nat} (B : Built ns i k S n) (hk : k < 12) {T : St} {m : Nat} (M : Mid ns i k S n T m 1) (d kk r3 : Int) :
    ∃ m', Mid ns i k S n (Mine.Internal.listEx T d kk r3) m' 2 ∧ ∀ y ∈ T.fmt, y ∈ (Mine.Internal.listEx T d kk r3).fmt := by
  have q1 := M.m1
  have q2 := M.m2
  have q3 := M.fl
  have q4 := B.n1
  unfold Mine.Internal.listEx
  split
  · have G := M.good.put (x := -1) ((d.fdiv 1536 + kk).fmod ((T.fmt.length : Int) + 1)).toNat (.inl rfl) (fun h => absurd h (by decide))
    refine ⟨m, ⟨G, M.m1, by k_extra "o m oz", ⟨M.ext.name, M.ext.space, M.ext.par, M.ext.look, M.ext.fo⟩, M.nm, M.sp, M.pn, M.st, ?_, ?_⟩, ?_⟩
    · show (putIn T.fmt _ _).length ≤ _
      rw [putIn_length]; k_extra "o m oz"
    · exact fun y hy => mem_putIn.mpr (.inr (M.fk y hy))
    · exact fun y hy => mem_putIn.mpr (.inr hy)
  · split
    · have e : (elemS T (Str.ofString "b") sHtml [(Str.ofString "n", Str.ofString "z")]) = addN T sElem sHtml (Str.ofString "b") [(Str.ofString "n", Str.ofString "z")] Str.empty := if_neg fun q => by revert q; decide
      rw [e]
      have G1 := M.good.addN (by k_extra "o m oz") sElem sHtml (Str.ofString "b") [(Str.ofString "n", Str.ofString "z")] Str.empty (by simp)
      have ek : T.kinds.length = m := M.good.ln.ki
      have G := G1.put (x := (T.kinds.length : Int)) ((d.fdiv 1536 + kk).fmod ((T.fmt.length : Int) + 1)).toNat (.inr ⟨by k_extra "o m oz", by k_extra "o m oz"⟩) (fun _ hm => by
        have := M.good.fm _ hm
        k_extra "o m oz")
      refine ⟨m + 1, ⟨G, by k_extra "o m oz", by k_extra "o m oz", ⟨?_, ?_, ?_, M.ext.look, M.ext.fo⟩, ?_, ?_, ?_, M.st, ?_, ?_⟩, ?_⟩
      · intro y a b
        show nameOf (addN T sElem sHtml (Str.ofString "b") [(Str.ofString "n", Str.ofString "z")] Str.empty) y = _
        rw [name_addN M.good.ln _ _ _ _ _ a, if_neg (by k_extra "o m oz")]
        exact M.ext.name y a b
      · intro y a b
        show spaceOf (addN T sElem sHtml (Str.ofString "b") [(Str.ofString "n", Str.ofString "z")] Str.empty) y = _
        rw [space_addN M.good.ln _ _ _ _ _ a, if_neg (by k_extra "o m oz")]
        exact M.ext.space y a b
      · intro y a b
        show par (addN T sElem sHtml (Str.ofString "b") [(Str.ofString "n", Str.ofString "z")] Str.empty) y = _
        rw [par_addN M.good.tr.coh a, if_neg (by k_extra "o m oz")]
        exact M.ext.par y a b
      · show nameOf (addN T sElem sHtml (Str.ofString "b") [(Str.ofString "n", Str.ofString "z")] Str.empty) n = _
        rw [name_addN M.good.ln _ _ _ _ _ (by k_extra "o m oz"), if_neg (by k_extra "o m oz")]
        exact M.nm
      · show spaceOf (addN T sElem sHtml (Str.ofString "b") [(Str.ofString "n", Str.ofString "z")] Str.empty) n = _
        rw [space_addN M.good.ln _ _ _ _ _ (by k_extra "o m oz"), if_neg (by k_extra "o m oz")]
        exact M.sp
      · show par (addN T sElem sHtml (Str.ofString "b") [(Str.ofString "n", Str.ofString "z")] Str.empty) n = _
        rw [par_addN M.good.tr.coh (by k_extra "o m oz"), if_neg (by k_extra "o m oz")]
        exact M.pn
      · show (putIn T.fmt _ _).length ≤ _
        rw [putIn_length]; k_extra "o m oz"
      · exact fun y hy => mem_putIn.mpr (.inr (M.fk y hy))
      · exact fun y hy => mem_putIn.mpr (.inr hy)
    · exact ⟨m, ⟨M.good, M.m1, by k_extra "o m oz", M.ext, M.nm, M.sp, M.pn, M.st, by k_extra "o m oz", M.fk⟩, fun _ h => h⟩
theorem getD_in {α : Type} {l : List α} {i : Nat} {d x : α} (h : i < l.length) : (l ++ [x]).getD i d = l.getD i d := by rw [getD_snoc, if_neg (by k_extra "o m oz")]
theorem Built.of_mid {ns : List Int} {i k : Nat} {S : St} {n : Nat} (B : Built ns i k S n) {T : St} {m : Nat} (M : Mid ns i k S n T m 2) (hs : k = aboveOf ns i → (n : Int) ∈ T.fmt) : Built ns i (k + 1) T m := by
  have q0 := B.n0
  have q1 := M.m1
  have q2 := M.m2
  have q3 := M.fl
  have q4 := B.n1
  have q5 := B.sl
  have mem : ∀ j, j < k + 1 → 0 ≤ S.stack.getD j 0 ∧ S.stack.getD j 0 < n := fun j hj => by
    have := B.good.st _ (getD_mem (l := S.stack) (i := j) (d := 0) (by k_extra "o m oz"))
    k_extra "o m oz"
  have last : T.stack.getD (k + 1) 0 = n := by rw [M.st, getD_snoc, if_pos (by k_extra "o m oz")]
  have old : ∀ j, j < k + 1 → T.stack.getD j 0 = S.stack.getD j 0 := fun j hj => by rw [M.st]; exact getD_in (by k_extra "o m oz")
  have up : ∀ j, j < k + 1 → upOf T (S.stack.getD j 0) = upOf S (S.stack.getD j 0) := fun j hj => by
    unfold upOf; rw [M.ext.look _ (mem j hj).2]
  refine ⟨M.good, by k_extra "o m oz", by k_extra "o m oz", ?_, by k_extra "o m oz", ?_, ?_, ?_, ?_, ?_, ?_, M.ext.fo.trans B.fo, ?_⟩
  · rw [M.st, List.length_append, q5]; rfl
  · rw [old 0 (by k_extra "o m oz")]; exact B.s0
  · rw [M.ext.name 1 (by k_extra "o m oz") (by k_extra "o m oz")]; exact B.nm0
  · rw [M.ext.space 1 (by k_extra "o m oz") (by k_extra "o m oz")]; exact B.sp0
  · intro j hj
    by_cases e : j = k
    · subst e; rw [last]; exact M.nm
    · rw [old (j + 1) (by k_extra "o m oz"), M.ext.name _ (mem _ (by k_extra "o m oz")).1 (mem _ (by k_extra "o m oz")).2]; exact B.nm j (by k_extra "o m oz")
  · intro j hj
    by_cases e : j = k
    · subst e; rw [last]; exact M.sp
    · rw [old (j + 1) (by k_extra "o m oz"), M.ext.space _ (mem _ (by k_extra "o m oz")).1 (mem _ (by k_extra "o m oz")).2]; exact B.sp j (by k_extra "o m oz")
  · intro j hj
    by_cases e : j = k
    · subst e; rw [last, old j (by k_extra "o m oz"), up j (by k_extra "o m oz"), M.pn, cur_at q5]
    · rw [old (j + 1) (by k_extra "o m oz"), old j (by k_extra "o m oz"), up j (by k_extra "o m oz"), M.ext.par _ (mem _ (by k_extra "o m oz")).1 (mem _ (by k_extra "o m oz")).2]; exact B.ch j (by k_extra "o m oz")
  · intro h
    by_cases e : k = aboveOf ns i
    · rw [← e, last]; exact hs e
    · rw [old _ (by k_extra "o m oz")]; exact M.fk _ (B.sub (by k_extra "o m oz"))
theorem Built.step {ns : List Int} {i k : Nat} {S : St} {n : Nat} (B : Built ns i k S n) (hk : k < 12) : ∃ m, Built ns i (k + 1) (stepK ns i k S) m := by
  obtain ⟨-, m, M, hf⟩ := B.grow hk
  obtain ⟨M2, h2⟩ := M.listIn B hf (digK ns i k) (brow i k 1) (brow i k 2) (decide (k = aboveOf ns i))
  obtain ⟨m3, M3, h3⟩ := M2.listEx B hk (digK ns i k) k (brow i k 3)
  exact ⟨m3, B.of_mid M3 fun e => h3 _ (h2 (decide_eq_true e))⟩
theorem built_loop (ns : List Int) (i : Nat) : ∀ k, k ≤ 12 → ∃ n, Built ns i k (loopS ns i k) n
  | 0, _ => built0 ns i
  | k + 1, h => by
    obtain ⟨n, B⟩ := built_loop ns i k (by k_extra "o m oz")
    exact B.step (by k_extra "o m oz")
theorem tot_le (ns : List Int) (i : Nat) : tot ns i ≤ 12 := by
  have a3 := above_lt ns i
  have b7 := betw_lt ns i
  have c3 := below_lt ns i
  unfold tot; k_extra "o m oz"
theorem buildOk (ns : List Int) (i : Nat) : BuildOk ns i where
  root := root_ok _
  sz := fun k hk => by
    have t := tot_le ns i
    obtain ⟨n, B⟩ := built_loop ns i k (by k_extra "o m oz")
    have := B.n1; have := B.sl; have := B.fl
    exact ⟨n, B.good.sized (by k_extra "o m oz") (by k_extra "o m oz") (by k_extra "o m oz"), by k_extra "o m oz"⟩
  gr := fun k hk => by
    have t := tot_le ns i
    obtain ⟨n, B⟩ := built_loop ns i k (by k_extra "o m oz")
    exact (B.grow (by k_extra "o m oz")).1
  sz2 := fun k hk => by
    have t := tot_le ns i
    obtain ⟨n, B⟩ := built_loop ns i k (by k_extra "o m oz")
    obtain ⟨-, m, M, hf⟩ := B.grow (by k_extra "o m oz")
    have := B.n1; have := B.sl; have := B.fl
    have := M.m2; have := M.fl
    exact ⟨m, M.good.sized (by k_extra "o m oz") (by rw [M.st, List.length_append]; simp only [List.length_singleton]; k_extra "o m oz") (by k_extra "o m oz"), by k_extra "o m oz"⟩
  fin := by
    obtain ⟨n, B⟩ := built_loop ns i (tot ns i) (tot_le ns i)
    have t := tot_le ns i
    have := B.n1; have hs := B.sl
    have hc := B.good.st _ (cur_mem (S := loopS ns i (tot ns i)) (fun e => by rw [e] at hs; simp at hs))
    have G := B.good.addN (by k_extra "o m oz") sText Str.empty Str.empty [] (Str.ofString ".") (by simp)
    have ek := B.good.ln.ki
    obtain ⟨l, I⟩ := insOk_asc G.tr (p := cur (loopS ns i (tot ns i))) (x := ((loopS ns i (tot ns i)).kinds.length : Int)) (by k_extra "o m oz") (by k_extra "o m oz") (by k_extra "o m oz") (by k_extra "o m oz")
    exact ⟨n, l, B.good.ln, by k_extra "o m oz", I⟩
  stk := by
    obtain ⟨n, B⟩ := built_loop ns i (tot ns i) (tot_le ns i)
    exact B.sl

structure Scene (S : St) (n : Nat) (pre : List Int) (x : Int) (btw : List Int) (b : Int) (post : List Int) : Prop where
  good : Good S n
  n1 : n ≤ 100
  hst : S.stack = pre ++ x :: (btw ++ b :: post)
  sz : S.stack.length ≤ 13
  fz : S.fmt.length ≤ 24
  bz : btw.length ≤ 6
  xf : x ∈ S.fmt
  p0 : 0 < pre.length
  pnm : ∀ y ∈ pre, spaceOf S y = sHtml ∧ (nameOf S y = sHtml ∨ nameOf S y ∈ abvN)
  lnm : ∀ y ∈ x :: (btw ++ b :: post), nameOf S y ∈ lowN ∧ spaceOf S y = growSpace (nameOf S y)
  ch : ∀ l y z r, S.stack = l ++ y :: z :: r → par S z = upOf S y
theorem low_ntempl : ∀ x ∈ lowN, x ≠ sTempl := by decide
theorem okNm_low {ns : List Int} {i j : Nat} (h : aboveOf ns i ≤ j) : okNm ns i j ∈ lowN := by
  have := growName_mem (digK ns i j) (brow i j 0) (decide (j < aboveOf ns i))
  have e : decide (j < aboveOf ns i) = false := decide_eq_false (by k_extra "o m oz")
  rw [if_neg (by rw [e]; decide)] at this
  exact this
theorem okNm_abv {ns : List Int} {i j : Nat} (h : j < aboveOf ns i) : okNm ns i j ∈ abvN := by
  have := growName_mem (digK ns i j) (brow i j 0) (decide (j < aboveOf ns i))
  rw [if_pos (decide_eq_true h)] at this
  exact this
theorem abv_ng : ∀ x ∈ abvN, growSpace x = sHtml := by decide
theorem look_ntempl {S : St} {n : Nat} (G : Good S n) {y : Int} (h : nameOf S y ≠ sTempl) : List.lookup y S.contents = none := look_none fun q hq e => h (e ▸ (G.ck q hq).2.2.2.1)
structure BuiltE (ns : List Int) (i : Nat) (S : St) (n : Nat) : Prop where
  good : Good S n
  n1 : n ≤ 100
  sl : S.stack.length = tot ns i + 1
  fl : S.fmt.length ≤ 24
  s0 : S.stack.getD 0 0 = 1
  nm0 : nameOf S 1 = sHtml
  sp0 : spaceOf S 1 = sHtml
  nm : ∀ j, j < tot ns i → nameOf S (S.stack.getD (j + 1) 0) = okNm ns i j
  sp : ∀ j, j < tot ns i → spaceOf S (S.stack.getD (j + 1) 0) = growSpace (okNm ns i j)
  ch : ∀ j, j < tot ns i → par S (S.stack.getD (j + 1) 0) = upOf S (S.stack.getD j 0)
  sub : S.stack.getD (aboveOf ns i + 1) 0 ∈ S.fmt
theorem built_end (ns : List Int) (i : Nat) : ∃ n, BuiltE ns i (builtS ns i) n := by
  obtain ⟨n, B⟩ := built_loop ns i (tot ns i) (tot_le ns i)
  have t := tot_le ns i
  have et : tot ns i = aboveOf ns i + betwOf ns i + belowOf ns i + 2 := rfl
  have n1 := B.n1
  have n0 := B.n0
  have hs := B.sl
  have hc := B.good.st _ (cur_mem (S := loopS ns i (tot ns i)) (fun e => by rw [e] at hs; simp at hs))
  have G := B.good.addN (by k_extra "o m oz") sText Str.empty Str.empty [] (Str.ofString ".") (by simp)
  replace G : Good (endS (loopS ns i (tot ns i))) (n + 1) := G
  have ek : (loopS ns i (tot ns i)).kinds.length = n := B.good.ln.ki
  have ln : List.lookup (cur (loopS ns i (tot ns i))) (loopS ns i (tot ns i)).contents = none := by
    refine look_ntempl B.good ?_
    obtain ⟨j, hj⟩ : ∃ j, tot ns i = j + 1 := ⟨tot ns i - 1, by k_extra "o m oz"⟩
    have h2 := B.nm j (by k_extra "o m oz")
    rw [cur_at hs]
    have e : nameOf (loopS ns i (tot ns i)) ((loopS ns i (tot ns i)).stack.getD (tot ns i) 0) = okNm ns i j := (congrArg (fun q => nameOf (loopS ns i (tot ns i)) ((loopS ns i (tot ns i)).stack.getD q 0)) hj).trans h2
    rw [e]
    exact low_ntempl _ (okNm_low (by k_extra "o m oz"))
  have G2 : Good (builtS ns i) (n + 1) := by
    unfold builtS
    rw [ek]
    exact G.insE (by k_extra "o m oz") (by k_extra "o m oz") (by k_extra "o m oz") ln
  have est : (builtS ns i).stack = (loopS ns i (tot ns i)).stack := (same_insE _ _ _).st
  have efm : (builtS ns i).fmt = (loopS ns i (tot ns i)).fmt := (same_insE _ _ _).fm
  have eco : (builtS ns i).contents = (loopS ns i (tot ns i)).contents := (same_insE _ _ _).co
  have enm : ∀ y : Int, 0 ≤ y → y < n → nameOf (builtS ns i) y = nameOf (loopS ns i (tot ns i)) y := fun y a b => by
    unfold builtS; rw [name_insE]; unfold endS; rw [name_addN B.good.ln _ _ _ _ _ a, if_neg (by k_extra "o m oz")]
  have esp : ∀ y : Int, 0 ≤ y → y < n → spaceOf (builtS ns i) y = spaceOf (loopS ns i (tot ns i)) y := fun y a b => by
    unfold builtS; rw [space_insE]; unfold endS; rw [space_addN B.good.ln _ _ _ _ _ a, if_neg (by k_extra "o m oz")]
  have epa : ∀ y : Int, 0 ≤ y → y < n → par (builtS ns i) y = par (loopS ns i (tot ns i)) y := fun y a b => by
    unfold builtS; rw [ek, par_insE G.tr.coh (by k_extra "o m oz") (by k_extra "o m oz") a, if_neg (by k_extra "o m oz")]; unfold endS; rw [par_addN B.good.tr.coh a, if_neg (by k_extra "o m oz")]
  have mem : ∀ j, j < tot ns i + 1 → 0 ≤ (loopS ns i (tot ns i)).stack.getD j 0 ∧ (loopS ns i (tot ns i)).stack.getD j 0 < n := fun j hj => by
    have := B.good.st _ (getD_mem (l := (loopS ns i (tot ns i)).stack) (i := j) (d := 0) (by k_extra "o m oz"))
    k_extra "o m oz"
  refine ⟨n + 1, G2, by k_extra "o m oz", by rw [est]; exact hs, by rw [efm]; have := B.fl; k_extra "o m oz", by rw [est]; exact B.s0, ?_, ?_, ?_, ?_, ?_, ?_⟩
  · rw [enm 1 (by k_extra "o m oz") (by k_extra "o m oz")]; exact B.nm0
  · rw [esp 1 (by k_extra "o m oz") (by k_extra "o m oz")]; exact B.sp0
  · intro j hj
    rw [est, enm _ (mem _ (by k_extra "o m oz")).1 (mem _ (by k_extra "o m oz")).2]; exact B.nm j hj
  · intro j hj
    rw [est, esp _ (mem _ (by k_extra "o m oz")).1 (mem _ (by k_extra "o m oz")).2]; exact B.sp j hj
  · intro j hj
    rw [est, epa _ (mem _ (by k_extra "o m oz")).1 (mem _ (by k_extra "o m oz")).2, B.ch j hj]
    unfold upOf; rw [eco]
  · rw [est, efm]; exact B.sub (by k_extra "o m oz")
theorem drop_at {α : Type} {l : List α} {i : Nat} (d : α) (h : i < l.length) : l.drop i = l.getD i d :: l.drop (i + 1) := by
  rw [List.drop_eq_getElem_cons h, List.getD_eq_getElem?_getD, List.getElem?_eq_getElem h]; rfl
theorem cut5 (l : List Int) (A Bt : Nat) (h : A + Bt + 2 < l.length) :
    l = l.take (A + 1) ++ l.getD (A + 1) 0 :: ((l.drop (A + 2)).take Bt ++ l.getD (A + Bt + 2) 0 :: l.drop (A + Bt + 3)) := by
  have e1 : l = l.take (A + 1) ++ l.drop (A + 1) := (List.take_append_drop _ _).symm
  have e2 := drop_at (l := l) (i := A + 1) 0 (by k_extra "o m oz")
  have e3 : l.drop (A + 2) = (l.drop (A + 2)).take Bt ++ (l.drop (A + 2)).drop Bt := (List.take_append_drop _ _).symm
  have e4 : (l.drop (A + 2)).drop Bt = l.drop (A + Bt + 2) := by rw [List.drop_drop]; congr 1; k_extra "o m oz"
  have e5 := drop_at (l := l) (i := A + Bt + 2) 0 (by k_extra "o m oz")
  rw [e5] at e4
  rw [e4] at e3
  rw [show A + 1 + 1 = A + 2 from rfl, e3] at e2
  rw [e2] at e1
  exact e1
noncomputable def preOf (ns : List Int) (i : Nat) : List Int := (builtS ns i).stack.take (aboveOf ns i + 1)
noncomputable def btwOf (ns : List Int) (i : Nat) : List Int := ((builtS ns i).stack.drop (aboveOf ns i + 2)).take (betwOf ns i)
noncomputable def postOf (ns : List Int) (i : Nat) : List Int := (builtS ns i).stack.drop (aboveOf ns i + betwOf ns i + 3)
theorem scene_ok (ns : List Int) (i : Nat) : ∃ n, Scene (builtS ns i) n (preOf ns i) (subjOf ns i) (btwOf ns i) (blkOf ns i) (postOf ns i) := by
  obtain ⟨n, B⟩ := built_end ns i
  have t := tot_le ns i
  have b7 := betw_lt ns i
  have et : tot ns i = aboveOf ns i + betwOf ns i + belowOf ns i + 2 := rfl
  have hs := B.sl
  have hc := cut5 (builtS ns i).stack (aboveOf ns i) (betwOf ns i) (by k_extra "o m oz")
  refine ⟨n, B.good, B.n1, hc, by k_extra "o m oz", B.fl, ?_, B.sub, ?_, ?_, ?_, ?_⟩
  · unfold btwOf; rw [List.length_take]; k_extra "o m oz"
  · unfold preOf; rw [List.length_take]; k_extra "o m oz"
  · intro y hy
    unfold preOf at hy
    obtain ⟨j, hj⟩ := List.mem_iff_getElem?.mp hy
    rw [List.getElem?_take] at hj
    split at hj
    · rename_i hlt
      have e : (builtS ns i).stack.getD j 0 = y := by rw [List.getD_eq_getElem?_getD, hj]; rfl
      cases j with
      | zero =>
        rw [B.s0] at e
        subst e
        exact ⟨B.sp0, .inl B.nm0⟩
      | succ j =>
        rw [← e, B.nm j (by k_extra "o m oz"), B.sp j (by k_extra "o m oz")]
        exact ⟨abv_ng _ (okNm_abv (by k_extra "o m oz")), .inr (okNm_abv (by k_extra "o m oz"))⟩
    · cases hj
  · intro y hy
    have e : (builtS ns i).stack.drop (aboveOf ns i + 1) = subjOf ns i :: (btwOf ns i ++ blkOf ns i :: postOf ns i) := by
      have h2 := congrArg (List.drop (aboveOf ns i + 1)) hc
      rw [List.drop_left' (by rw [List.length_take]; k_extra "o m oz")] at h2
      exact h2
    rw [← e] at hy
    obtain ⟨j, hj⟩ := List.mem_iff_getElem?.mp hy
    rw [List.getElem?_drop] at hj
    have hl := (List.getElem?_eq_some_iff.mp hj).1
    have e2 : (builtS ns i).stack.getD (aboveOf ns i + j + 1) 0 = y := by rw [List.getD_eq_getElem?_getD, show aboveOf ns i + j + 1 = aboveOf ns i + 1 + j by k_extra "o m oz", hj]; rfl
    rw [← e2, B.nm _ (by k_extra "o m oz"), B.sp _ (by k_extra "o m oz")]
    exact ⟨okNm_low (by k_extra "o m oz"), rfl⟩
  · intro l y z r e
    have hl : l.length + 1 < (builtS ns i).stack.length := by rw [e]; simp
    have e1 : (builtS ns i).stack.getD (l.length + 1) 0 = z := by rw [e, List.getD_eq_getElem?_getD, List.getElem?_append_right (by k_extra "o m oz")]; simp
    have e2 : (builtS ns i).stack.getD l.length 0 = y := by rw [e, List.getD_eq_getElem?_getD, List.getElem?_append_right (by k_extra "o m oz")]; simp
    have := B.ch l.length (by k_extra "o m oz")
    rw [e1, e2] at this
    exact this

theorem count_map' {f : Int → Int} {a : Int} : ∀ {l : List Int}, (∀ y ∈ l, f y = f a → y = a) → (l.map f).count (f a) = l.count a
  | [], _ => rfl
  | b :: l, h => by
    have ih := count_map' (f := f) (a := a) (l := l) fun y hy => h y (.tail _ hy)
    rw [List.map_cons, List.count_cons, List.count_cons, ih]
    by_cases e : b = a
    · subst e; simp
    · have e2 : f b ≠ f a := fun q => e (h b (.head _) q)
      simp [e, e2]
noncomputable def kp (S : St) (d : List Int) : List Int := (d.take 3).filter fun y => decide (y ∈ S.fmt)
noncomputable def cpi (n : Nat) (K : List Int) (y : Int) : Int := if y ∈ K then (n : Int) + (K.idxOf y : Int) else y
noncomputable def cps (n : Nat) : Nat → List Int
  | 0 => []
  | c + 1 => ((n : Int) + (c : Int)) :: cps n c
theorem cps_len (n : Nat) : ∀ c, (cps n c).length = c
  | 0 => rfl
  | c + 1 => by rw [cps, List.length_cons, cps_len n c]
structure Inn (S : St) (n : Nat) (pre : List Int) (x : Int) (btw : List Int) (b : Int) (post : List Int) (d todo : List Int) (T : St) (last mark : Int) : Prop where
  dd : btw.reverse = d ++ todo
  st : T.stack = (pre ++ x :: todo.reverse) ++ (cps n (kp S d).length ++ b :: post)
  fm : T.fmt = (S.fmt.filter fun y => !decide (y ∈ d.drop 3)).map (cpi n (kp S d))
  ki : T.kinds = S.kinds ++ List.replicate (kp S d).length sElem
  sp : T.spaces = S.spaces ++ List.replicate (kp S d).length sHtml
  na : T.names = S.names ++ (kp S d).map (nameOf S)
  ar : T.attrs = S.attrs ++ (kp S d).map (attrOf S)
  te : T.texts = S.texts ++ List.replicate (kp S d).length Str.empty
  co : T.contents = S.contents
  fo : T.foster = S.foster
  ke : T.keep = S.keep
  coh : Coh T (n + (kp S d).length)
  pa : ∀ y : Int, 0 ≤ y → y < n → par T y = if y = b ∧ (kp S d).length ≠ 0 then (n : Int) else par S y
  pc : ∀ j : Nat, j < (kp S d).length → par T ((n : Int) + j) = if j + 1 = (kp S d).length then -1 else (n : Int) + j + 1
  kd : ∀ y : Int, 0 ≤ y → y < n → kidsOf T y = if (kp S d).length ≠ 0 then (kidsOf S y).erase b else kidsOf S y
  kc : ∀ j : Nat, j < (kp S d).length → kidsOf T ((n : Int) + j) = [if j = 0 then b else (n : Int) + j - 1]
  la : last = if (kp S d).length = 0 then b else (n : Int) + (kp S d).length - 1
  mrk : mark = if (kp S d).length = 0 then (T.fmt.idxOf x : Int) else (T.fmt.idxOf (n : Int) : Int) + 1
section
variable {S : St} {n : Nat} {pre : List Int} {x : Int} {btw : List Int} {b : Int} {post d todo : List Int} {T : St} {last mark : Int}
theorem Scene.nd (Z : Scene S n pre x btw b post) : S.stack.Nodup := Z.good.so.imp fun h => by k_extra "o m oz"
theorem Scene.fr (Z : Scene S n pre x btw b post) {y : Int} (h : y ∈ S.stack) : 0 < y ∧ y < n := ⟨(Z.good.st y h).1, (Z.good.st y h).2.1⟩
theorem Scene.xs (Z : Scene S n pre x btw b post) : x ∈ S.stack := by rw [Z.hst]; simp
theorem Scene.bs (Z : Scene S n pre x btw b post) : b ∈ S.stack := by rw [Z.hst]; simp
theorem Scene.ys (Z : Scene S n pre x btw b post) {y : Int} (h : y ∈ btw) : y ∈ S.stack := by rw [Z.hst]; simp [h]
theorem kp_sub {y : Int} (h : y ∈ kp S d) : y ∈ d ∧ y ∈ S.fmt := by
  have h2 := List.mem_filter.mp h
  exact ⟨List.mem_of_mem_take h2.1, by simpa using h2.2⟩
theorem kp_len : (kp S d).length ≤ 3 := by
  unfold kp
  refine Nat.le_trans (List.length_filter_le _ _) ?_
  rw [List.length_take]; k_extra "o m oz"
theorem kp_far {nd : Int} (h : 3 ≤ d.length) : kp S (d ++ [nd]) = kp S d := by
  unfold kp; rw [List.take_append_of_le_length h]
theorem kp_off {nd : Int} (h : nd ∉ S.fmt) : kp S (d ++ [nd]) = kp S d := by
  unfold kp
  rw [List.take_append, List.filter_append]
  have : (List.take (3 - d.length) [nd]).filter (fun y => decide (y ∈ S.fmt)) = [] := by
    rw [List.filter_eq_nil_iff]
    intro y hy
    have : y = nd := by simpa using List.mem_of_mem_take hy
    subst this
    simpa using h
  rw [this, List.append_nil]
theorem kp_new {nd : Int} (h : nd ∈ S.fmt) (h3 : d.length < 3) : kp S (d ++ [nd]) = kp S d ++ [nd] := by
  unfold kp
  rw [List.take_append, List.filter_append, List.take_of_length_le (l := [nd]) (by simp only [List.length_cons, List.length_nil]; k_extra "o m oz")]
  simp [h]
theorem cpi_out {K : List Int} {y : Int} (h : y ∉ K) : cpi n K y = y := if_neg h
theorem cpi_in {K : List Int} {y : Int} (h : y ∈ K) : cpi n K y = (n : Int) + (K.idxOf y : Int) := if_pos h
theorem cpi_inj {K : List Int} {y z : Int} (h : z < n) (e : cpi n K y = z) : y = z := by
  unfold cpi at e
  split at e
  · k_extra "o m oz"
  · exact e
structure Nx (S : St) (n : Nat) (pre : List Int) (x : Int) (b : Int) (d : List Int) (nd : Int) (td : List Int) (T : St) : Prop where
  n0 : 0 ≤ nd
  n1 : nd < n
  nx : nd ≠ x
  nb : nd ≠ b
  ndd : nd ∉ d
  np : nd ∉ pre ++ x :: td.reverse
  mem : nd ∈ T.fmt ↔ nd ∈ S.fmt
  low : nameOf S nd ≠ sTempl
  cnt : T.fmt.count nd ≤ 1
theorem Inn.nx (Z : Scene S n pre x btw b post) {nd : Int} {td : List Int} (I : Inn S n pre x btw b post d (nd :: td) T last mark) : Nx S n pre x b d nd td T := by
  have hb : btw = td.reverse ++ nd :: d.reverse := by
    have := congrArg List.reverse I.dd
    rw [List.reverse_reverse] at this
    rw [this]; simp
  have hm : nd ∈ btw := by rw [hb]; simp
  have hs := Z.ys hm
  have f := Z.fr hs
  have hn := Z.nd
  have e1 : S.stack = (pre ++ x :: td.reverse) ++ nd :: (d.reverse ++ b :: post) := by rw [Z.hst, hb]; simp
  rw [e1, List.nodup_append] at hn
  have np : nd ∉ pre ++ x :: td.reverse := fun h => hn.2.2 nd h nd (.head _) rfl
  have n2 := (List.nodup_cons.mp hn.2.1).1
  have ndd : nd ∉ d := fun h => n2 (List.mem_append_left _ (List.mem_reverse.mpr h))
  have nk : nd ∉ kp S d := fun h => ndd (kp_sub h).1
  have mem : nd ∈ T.fmt ↔ nd ∈ S.fmt := by
    rw [I.fm, List.mem_map]
    constructor
    · rintro ⟨y, hy, e⟩
      have := cpi_inj f.2 e
      subst this
      exact (List.mem_filter.mp hy).1
    · intro h
      exact ⟨nd, List.mem_filter.mpr ⟨h, by simpa using fun h => ndd (List.mem_of_mem_drop h)⟩, cpi_out nk⟩
  refine ⟨by k_extra "o m oz", f.2, fun e => np (by rw [e]; simp), fun e => n2 (by rw [e]; simp), ndd, np, mem, ?_, ?_⟩
  · exact low_ntempl _ (Z.lnm nd (by simp [hm])).1
  · have e : cpi n (kp S d) nd = nd := cpi_out nk
    rw [I.fm]
    have := count_map' (f := cpi n (kp S d)) (a := nd) (l := S.fmt.filter fun y => !decide (y ∈ d.drop 3)) fun y _ q => cpi_inj f.2 (q.trans e)
    rw [e] at this
    rw [this]
    exact Nat.le_trans (count_filter_le _ _ _) (Z.good.fc nd (by k_extra "o m oz"))
theorem Inn.head_mem (Z : Scene S n pre x btw b post) (I : Inn S n pre x btw b post d todo T last mark) (h : (kp S d).length ≠ 0) : (n : Int) ∈ T.fmt := by
  obtain ⟨k, K, e⟩ : ∃ k K, kp S d = k :: K := by
    cases hk : kp S d with
    | nil => rw [hk] at h; exact absurd rfl h
    | cons k K => exact ⟨k, K, rfl⟩
  have hk : k ∈ kp S d := by rw [e]; simp
  have h2 := List.mem_filter.mp hk
  rw [I.fm, List.mem_map]
  refine ⟨k, List.mem_filter.mpr ⟨(kp_sub hk).2, ?_⟩, ?_⟩
  · have hd : d.Nodup := by
      have hn := Z.nd
      rw [Z.hst, List.nodup_append] at hn
      have h3 := (List.nodup_append.mp (List.nodup_cons.mp hn.2.1).2).1
      have h4 : btw.reverse.Nodup := (List.reverse_perm btw).nodup_iff.mpr h3
      rw [I.dd, List.nodup_append] at h4
      exact h4.1
    rw [← List.take_append_drop 3 d, List.nodup_append] at hd
    simpa using fun h => hd.2.2 k h2.1 k h rfl
  · rw [cpi_in hk, e, List.idxOf_cons_self]; simp
theorem Inn.x_mem (Z : Scene S n pre x btw b post) (I : Inn S n pre x btw b post d todo T last mark) : x ∈ T.fmt := by
  have xd : x ∉ d := fun h => by
    have h2 : x ∈ btw.reverse := by rw [I.dd]; exact List.mem_append_left _ h
    have hn := Z.nd
    rw [Z.hst, List.nodup_append] at hn
    exact (List.nodup_cons.mp hn.2.1).1 (List.mem_append_left _ (List.mem_reverse.mp h2))
  rw [I.fm, List.mem_map]
  exact ⟨x, List.mem_filter.mpr ⟨Z.xf, by simpa using fun h => xd (List.mem_of_mem_drop h)⟩, cpi_out fun h => xd (kp_sub h).1⟩
theorem Coh.congr {S' : St} {m : Nat} (C : Coh T m) (e1 : S'.parents = T.parents) (e2 : S'.children = T.children) : Coh S' m := by
  have ep : ∀ y, par S' y = par T y := fun y => by unfold par; rw [e1]
  have ek : ∀ y, kidsOf S' y = kidsOf T y := fun y => by unfold kidsOf; rw [e2]
  refine ⟨by rw [e1]; exact C.pa, by rw [e2]; exact C.ch, ?_, ?_, ?_⟩
  · intro p c; rw [ek, ep]; exact C.up p c
  · intro c; rw [ep, ek]; exact C.dn c
  · intro p; rw [ek]; exact C.nd p
theorem Inn.dd2 {nd : Int} {td : List Int} (I : Inn S n pre x btw b post d (nd :: td) T last mark) : btw.reverse = (d ++ [nd]) ++ td := by rw [I.dd]; simp
theorem Inn.st2 {nd : Int} {td : List Int} (I : Inn S n pre x btw b post d (nd :: td) T last mark) : T.stack = (pre ++ x :: td.reverse) ++ nd :: (cps n (kp S d).length ++ b :: post) := by rw [I.st]; simp
theorem Inn.off (Z : Scene S n pre x btw b post) {nd : Int} {td : List Int} (I : Inn S n pre x btw b post d (nd :: td) T last mark) (h : nd ∉ T.fmt) :
    Inn S n pre x btw b post (d ++ [nd]) td { T with stack := T.stack.erase nd } last mark := by
  have X := I.nx Z
  have hf : nd ∉ S.fmt := fun q => h (X.mem.mpr q)
  have ek : kp S (d ++ [nd]) = kp S d := kp_off hf
  refine ⟨I.dd2, ?_, ?_, by rw [ek]; exact I.ki, by rw [ek]; exact I.sp, by rw [ek]; exact I.na, by rw [ek]; exact I.ar, by rw [ek]; exact I.te, I.co, I.fo, I.ke, by rw [ek]; exact I.coh.congr rfl rfl, by rw [ek]; exact I.pa, by rw [ek]; exact I.pc, by rw [ek]; exact I.kd, by rw [ek]; exact I.kc, by rw [ek]; exact I.la, by rw [ek]; exact I.mrk⟩
  · rw [ek]
    show T.stack.erase nd = _
    rw [I.st2, erase_mid X.np]
  · rw [ek]
    show T.fmt = _
    rw [I.fm]
    congr 1
    refine List.filter_congr fun y hy => ?_
    have hne : y ≠ nd := fun e => hf (e ▸ hy)
    rw [List.drop_append]
    have : (y ∈ List.drop 3 d ++ List.drop (3 - d.length) [nd]) ↔ y ∈ List.drop 3 d := by
      rw [List.mem_append]
      constructor
      · rintro (q | q)
        · exact q
        · exact absurd (by simpa using List.mem_of_mem_drop q) hne
      · exact .inl
    simp only [this]
theorem Inn.far (Z : Scene S n pre x btw b post) {nd : Int} {td : List Int} (I : Inn S n pre x btw b post d (nd :: td) T last mark) (h : nd ∈ T.fmt) (h3 : 3 ≤ d.length) :
    Inn S n pre x btw b post (d ++ [nd]) td { T with fmt := T.fmt.erase nd, stack := T.stack.erase nd } last (if (T.fmt.idxOf nd : Int) < mark then mark - 1 else mark) := by
  have X := I.nx Z
  have ek : kp S (d ++ [nd]) = kp S d := kp_far h3
  have nk : nd ∉ kp S d := fun h => X.ndd (kp_sub h).1
  have en : cpi n (kp S d) nd = nd := cpi_out nk
  refine ⟨I.dd2, ?_, ?_, by rw [ek]; exact I.ki, by rw [ek]; exact I.sp, by rw [ek]; exact I.na, by rw [ek]; exact I.ar, by rw [ek]; exact I.te, I.co, I.fo, I.ke, by rw [ek]; exact I.coh.congr rfl rfl, by rw [ek]; exact I.pa, by rw [ek]; exact I.pc, by rw [ek]; exact I.kd, by rw [ek]; exact I.kc, by rw [ek]; exact I.la, ?_⟩
  · rw [ek]
    show T.stack.erase nd = _
    rw [I.st2, erase_mid X.np]
  · rw [ek]
    show T.fmt.erase nd = _
    have e2 : (d ++ [nd]).drop 3 = d.drop 3 ++ [nd] := List.drop_append_of_le_length h3
    rw [e2, ← filter_snoc_ne, ← erase_filter (Nat.le_trans (count_filter_le _ _ _) (Z.good.fc nd X.n0))]
    rw [← map_erase' fun y _ q => cpi_inj X.n1 (q.trans en), en, ← I.fm]
  · rw [ek]
    show _ = if (kp S d).length = 0 then ((T.fmt.erase nd).idxOf x : Int) else ((T.fmt.erase nd).idxOf (n : Int) : Int) + 1
    have hm := I.mrk
    by_cases hc : (kp S d).length = 0
    · rw [if_pos hc] at hm ⊢
      rw [idx_erase X.nx h (I.x_mem Z), hm]
    · rw [if_neg hc] at hm ⊢
      have hne : nd ≠ (n : Int) := by have := X.n1; k_extra "o m oz"
      rw [idx_erase hne h (I.head_mem Z hc), hm]
      have hd : T.fmt.idxOf nd ≠ T.fmt.idxOf (n : Int) := fun q => by
        have e1 := getD_idx (d := 0) h
        rw [q, getD_idx (I.head_mem Z hc)] at e1
        exact hne e1.symm
      split
      · rw [if_pos (by k_extra "o m oz")]; k_extra "o m oz"
      · rw [if_neg (by k_extra "o m oz")]
theorem Inn.nm (Z : Scene S n pre x btw b post) (I : Inn S n pre x btw b post d todo T last mark) {y : Int} (h0 : 0 ≤ y) (h1 : y < n) : nameOf T y = nameOf S y := by
  unfold nameOf; rw [I.na]; exact getD_left _ _ _ (by rw [Z.good.ln.na]; k_extra "o m oz")
theorem Inn.at' (Z : Scene S n pre x btw b post) (I : Inn S n pre x btw b post d todo T last mark) {y : Int} (h0 : 0 ≤ y) (h1 : y < n) : attrOf T y = attrOf S y := by
  unfold attrOf; rw [I.ar]; exact getD_left _ _ _ (by rw [Z.good.ln.ar]; k_extra "o m oz")
theorem Inn.ln (Z : Scene S n pre x btw b post) (I : Inn S n pre x btw b post d todo T last mark) : Ln T (n + (kp S d).length) := by
  have l := Z.good.ln
  have := kp_len (S := S) (d := d)
  have := Z.n1
  refine ⟨?_, ?_, ?_, ?_, ?_, I.coh.pa, I.coh.ch, by k_extra "o m oz"⟩
  · rw [I.ki, List.length_append, List.length_replicate, l.ki]
  · rw [I.sp, List.length_append, List.length_replicate, l.sp]
  · rw [I.na, List.length_append, List.length_map, l.na]
  · rw [I.ar, List.length_append, List.length_map, l.ar]
  · rw [I.te, List.length_append, List.length_replicate, l.te]
theorem cpi_snoc {K : List Int} {nd : Int} (h1 : nd < n) (hk : nd ∉ K) (y : Int) : (if cpi n K y = nd then (n : Int) + K.length else cpi n K y) = cpi n (K ++ [nd]) y := by
  by_cases hy : y ∈ K
  · rw [cpi_in hy, if_neg (by k_extra "o m oz"), cpi_in (List.mem_append_left _ hy), List.idxOf_append, if_pos hy]
  · rw [cpi_out hy]
    by_cases e : y = nd
    · subst e
      rw [if_pos rfl, cpi_in (by simp), List.idxOf_append, if_neg hk, List.idxOf_cons_self]; simp
    · rw [if_neg e, cpi_out]
      simp [hy, e]
theorem Inn.cpy (Z : Scene S n pre x btw b post) {nd : Int} {td : List Int} (I : Inn S n pre x btw b post d (nd :: td) T last mark) (h : nd ∈ T.fmt) (h3 : d.length < 3) {i : Nat} (hi : i = pre.length + 1 + td.length) :
    InsOk (putCopy T nd i) ((n + (kp S d).length : Nat) : Int) last [] ∧
    Inn S n pre x btw b post (d ++ [nd]) td (insertE (putCopy T nd i) ((n + (kp S d).length : Nat) : Int) last) ((n + (kp S d).length : Nat) : Int) (if last = b then (T.fmt.idxOf nd : Int) + 1 else mark) := by
  have X := I.nx Z
  have ln := I.ln Z
  have hf := X.mem.mp h
  have ek : kp S (d ++ [nd]) = kp S d ++ [nd] := kp_new hf h3
  have nk : nd ∉ kp S d := fun h => X.ndd (kp_sub h).1
  have q1 := kp_len (S := S) (d := d)
  have q2 := Z.n1
  have bf := Z.fr Z.bs
  have hla := I.la
  have ec : copyS T nd = addN T sElem sHtml (nameOf S nd) (attrOf S nd) Str.empty := by
    unfold copyS
    rw [I.nm Z X.n0 X.n1, I.at' Z X.n0 X.n1]
    exact if_neg fun q => X.low q.2
  have hU : putCopy T nd i = { addN T sElem sHtml (nameOf S nd) (attrOf S nd) Str.empty with fmt := T.fmt.set (T.fmt.idxOf nd) (T.kinds.length : Int), stack := T.stack.set i (T.kinds.length : Int) } := by
    unfold putCopy; rw [ec]
  have hkl : (T.kinds.length : Int) = ((n + (kp S d).length : Nat) : Int) := by rw [ln.ki]
  rw [hkl] at hU
  rw [hU]
  generalize hu : ({ addN T sElem sHtml (nameOf S nd) (attrOf S nd) Str.empty with fmt := T.fmt.set (T.fmt.idxOf nd) ((n + (kp S d).length : Nat) : Int), stack := T.stack.set i ((n + (kp S d).length : Nat) : Int) } : St) = U
  have CU : Coh U (n + (kp S d).length + 1) := by rw [← hu]; exact (I.coh.addN (kind := sElem) (sp := sHtml) (na := nameOf S nd) (ps := attrOf S nd) (te := Str.empty)).congr rfl rfl
  have pU : ∀ y : Int, 0 ≤ y → par U y = if y = ((n + (kp S d).length : Nat) : Int) then -1 else par T y := fun y h0 => by
    rw [← hu]; exact par_addN (kind := sElem) (sp := sHtml) (na := nameOf S nd) (ps := attrOf S nd) (te := Str.empty) I.coh h0
  have kU : ∀ y : Int, 0 ≤ y → kidsOf U y = if y = ((n + (kp S d).length : Nat) : Int) then [] else kidsOf T y := fun y h0 => by
    rw [← hu]; exact kids_addN (kind := sElem) (sp := sHtml) (na := nameOf S nd) (ps := attrOf S nd) (te := Str.empty) I.coh h0
  have l0 : 0 ≤ last := by rw [hla]; split <;> k_extra "o m oz"
  have l1 : last < ((n + (kp S d).length : Nat) : Int) := by rw [hla]; split <;> k_extra "o m oz"
  have lp : (kp S d).length ≠ 0 → par T last = -1 := fun hc => by
    have := I.pc ((kp S d).length - 1) (by k_extra "o m oz")
    rw [if_pos (by k_extra "o m oz")] at this
    rw [← this, hla, if_neg hc]; congr 1; k_extra "o m oz"
  have ik : InsOk U ((n + (kp S d).length : Nat) : Int) last [] := by
    refine insOk_gen CU (by k_extra "o m oz") l0 (by k_extra "o m oz") (by k_extra "o m oz") (by k_extra "o m oz") (.top ?_) (Nat.zero_le _) (by k_extra "o m oz") (by simp)
    rw [pU _ (by k_extra "o m oz"), if_pos rfl]
  refine ⟨ik, ?_⟩
  have sm := same_insE U ((n + (kp S d).length : Nat) : Int) last
  have eln : (kp S (d ++ [nd])).length = (kp S d).length + 1 := by rw [ek]; simp
  have hpar : ∀ y : Int, 0 ≤ y → par (insertE U ((n + (kp S d).length : Nat) : Int) last) y = if y = last then ((n + (kp S d).length : Nat) : Int) else if y = ((n + (kp S d).length : Nat) : Int) then -1 else par T y := fun y h0 => by
    rw [par_insE CU l0 (by k_extra "o m oz") h0, pU y h0]
  have hkid : ∀ y : Int, 0 ≤ y → y < ((n + (kp S d).length + 1 : Nat) : Int) → kidsOf (insertE U ((n + (kp S d).length : Nat) : Int) last) y = if y = ((n + (kp S d).length : Nat) : Int) then [last] else (kidsOf T y).erase last := fun y h0 h1 => by
    rw [kids_insE CU l0 (by k_extra "o m oz") (by k_extra "o m oz") (by k_extra "o m oz") h0 (by k_extra "o m oz"), kU _ (by k_extra "o m oz"), if_pos rfl, kU y h0]
    split <;> rfl
  have lne : (kp S d).length ≠ 0 → ∀ y : Int, 0 ≤ y → y < ((n + (kp S d).length : Nat) : Int) → (kidsOf T y).erase last = kidsOf T y := fun hc y h0 h1 =>
    List.erase_of_not_mem fun hm => by
      have := (I.coh.up y last h0 h1 hm).2.2
      rw [lp hc] at this; k_extra "o m oz"
  have hfm : U.fmt = T.fmt.map fun y => if y = nd then ((n + (kp S d).length : Nat) : Int) else y := by
    rw [← hu]; exact set_idx X.cnt
  refine ⟨I.dd2, ?_, ?_, ?_, ?_, ?_, ?_, ?_, sm.co.trans (by rw [← hu]; exact I.co), sm.fo.trans (by rw [← hu]; exact I.fo), sm.ke.trans (by rw [← hu]; exact I.ke), ?_, ?_, ?_, ?_, ?_, ?_, ?_⟩
  · rw [sm.st, eln, ← hu]
    show T.stack.set i _ = _
    rw [I.st2, hi, show pre.length + 1 + td.length = (pre ++ x :: td.reverse).length by simp; k_extra "o m oz", set_mid, cps]
    simp
  · rw [sm.fm, hfm, ek, I.fm, List.map_map]
    have e2 : (d ++ [nd]).drop 3 = [] := List.drop_eq_nil_of_le (by simp; k_extra "o m oz")
    have e3 : d.drop 3 = [] := List.drop_eq_nil_of_le (by k_extra "o m oz")
    rw [e2, e3]
    congr 1
    funext y
    have := cpi_snoc X.n1 nk y
    rw [← this]
    show (if cpi n (kp S d) y = nd then _ else _) = _
    rw [Int.natCast_add]
  · rw [sm.ki, eln, ← hu]
    show T.kinds ++ [sElem] = _
    rw [I.ki, List.append_assoc, List.replicate_succ']
  · rw [sm.sp, eln, ← hu]
    show T.spaces ++ [sHtml] = _
    rw [I.sp, List.append_assoc, List.replicate_succ']
  · rw [sm.na, ek, ← hu]
    show T.names ++ [nameOf S nd] = _
    rw [I.na, List.append_assoc, List.map_append]; rfl
  · rw [sm.ar, ek, ← hu]
    show T.attrs ++ [attrOf S nd] = _
    rw [I.ar, List.append_assoc, List.map_append]; rfl
  · rw [sm.te, eln, ← hu]
    show T.texts ++ [Str.empty] = _
    rw [I.te, List.append_assoc, List.replicate_succ']
  · rw [eln]; exact CU.insE l0 (by k_extra "o m oz") (by k_extra "o m oz") (by k_extra "o m oz")
  · intro y h0 h1
    rw [hpar y h0, eln]
    by_cases hc : (kp S d).length = 0
    · rw [if_pos hc] at hla
      subst hla
      have hp := I.pa y h0 h1
      rw [if_neg (fun q => q.2 hc)] at hp
      by_cases e : y = last
      · rw [if_pos e, if_pos ⟨e, by k_extra "o m oz"⟩]; k_extra "o m oz"
      · rw [if_neg e, if_neg (by k_extra "o m oz"), if_neg (fun q => e q.1), hp]
    · rw [if_neg hc] at hla
      rw [if_neg (by k_extra "o m oz"), if_neg (by k_extra "o m oz"), I.pa y h0 h1]
      by_cases e : y = b
      · rw [if_pos ⟨e, hc⟩, if_pos ⟨e, by k_extra "o m oz"⟩]
      · rw [if_neg (fun q => e q.1), if_neg (fun q => e q.1)]
  · intro j hj
    rw [eln] at hj ⊢
    rw [hpar _ (by k_extra "o m oz")]
    by_cases e : j = (kp S d).length
    · rw [if_neg (by k_extra "o m oz"), if_pos (by k_extra "o m oz"), if_pos (by k_extra "o m oz")]
    · have hc : (kp S d).length ≠ 0 := by k_extra "o m oz"
      rw [if_neg hc] at hla
      have hp := I.pc j (by k_extra "o m oz")
      by_cases e2 : j + 1 = (kp S d).length
      · rw [if_pos (by k_extra "o m oz"), if_neg (by k_extra "o m oz")]; k_extra "o m oz"
      · rw [if_neg (by k_extra "o m oz"), if_neg (by k_extra "o m oz"), if_neg (by k_extra "o m oz"), hp, if_neg e2]
  · intro y h0 h1
    rw [hkid y h0 (by k_extra "o m oz"), eln, if_neg (by k_extra "o m oz"), if_pos (by k_extra "o m oz")]
    by_cases hc : (kp S d).length = 0
    · rw [if_pos hc] at hla
      rw [hla, I.kd y h0 h1, if_neg (fun q => q hc)]
    · rw [lne hc y h0 (by k_extra "o m oz"), I.kd y h0 h1, if_pos hc]
  · intro j hj
    rw [eln] at hj
    rw [hkid _ (by k_extra "o m oz") (by k_extra "o m oz")]
    by_cases e : j = (kp S d).length
    · rw [if_pos (by k_extra "o m oz")]
      rw [hla, e]
    · rw [if_neg (by k_extra "o m oz"), lne (by k_extra "o m oz") _ (by k_extra "o m oz") (by k_extra "o m oz"), I.kc j (by k_extra "o m oz")]
  · rw [eln, if_neg (by k_extra "o m oz")]; k_extra "o m oz"
  · rw [eln, if_neg (show ¬ ((kp S d).length + 1 = 0) by k_extra "o m oz"), sm.fm, hfm]
    have fe : (if nd = nd then ((n + (kp S d).length : Nat) : Int) else nd) = ((n + (kp S d).length : Nat) : Int) := if_pos rfl
    have hmk := I.mrk
    by_cases hc : (kp S d).length = 0
    · rw [if_pos hc] at hla
      rw [if_pos hla]
      have key := idx_map (f := fun y : Int => if y = nd then ((n + (kp S d).length : Nat) : Int) else y) (b := nd) (l := T.fmt) (fun y hy q => by
        rw [fe] at q
        by_cases e : y = nd
        · exact e
        · rw [if_neg e] at q
          exfalso
          rw [I.fm] at hy
          obtain ⟨z, hz, ez⟩ := List.mem_map.mp hy
          have hk0 : kp S d = [] := List.length_eq_zero_iff.mp hc
          rw [hk0] at ez
          have ez : z = y := ez
          have := Z.good.fm z (List.mem_filter.mp hz).1
          k_extra "o m oz")
      rw [fe, show ((n + (kp S d).length : Nat) : Int) = (n : Int) by k_extra "o m oz"] at key
      rw [show ((n + (kp S d).length : Nat) : Int) = (n : Int) by k_extra "o m oz", key]
    · rw [if_neg hc] at hla hmk
      rw [if_neg (by k_extra "o m oz"), hmk]
      have f2 : (if (n : Int) = nd then ((n + (kp S d).length : Nat) : Int) else (n : Int)) = (n : Int) := if_neg (by have := X.n1; k_extra "o m oz")
      have key := idx_map (f := fun y : Int => if y = nd then ((n + (kp S d).length : Nat) : Int) else y) (b := (n : Int)) (l := T.fmt) (fun y hy q => by
        rw [f2] at q
        split at q
        · k_extra "o m oz"
        · exact q)
      rw [f2] at key
      rw [key]
end

noncomputable def Jn (S : St) (n : Nat) (pre : List Int) (x : Int) (btw : List Int) (b : Int) (post : List Int) (todo : List Int) (T : St) (last mark : Int) (r : Nat) : Prop :=
  ∃ d, Inn S n pre x btw b post d todo T last mark ∧ r = d.length
section
variable {S : St} {n : Nat} {pre : List Int} {x : Int} {btw : List Int} {b : Int} {post d todo : List Int} {T : St} {last mark : Int} {r : Nat}
theorem Inn.stl (Z : Scene S n pre x btw b post) (I : Inn S n pre x btw b post d todo T last mark) : T.stack.length ≤ 20 ∧ pre.length + todo.length < T.stack.length := by
  have h1 := Z.sz
  have h2 := congrArg List.length Z.hst
  have h3 := congrArg List.length I.dd
  have h4 := kp_len (S := S) (d := d)
  rw [I.st]
  simp only [List.length_append, List.length_cons, List.length_reverse, cps_len] at *
  k_extra "o m oz"
theorem Inn.fml (Z : Scene S n pre x btw b post) (I : Inn S n pre x btw b post d todo T last mark) : T.fmt.length ≤ 24 := by
  rw [I.fm, List.length_map]
  exact Nat.le_trans (List.length_filter_le _ _) Z.fz
theorem Inn.az (Z : Scene S n pre x btw b post) (I : Inn S n pre x btw b post d todo T last mark) (y : Int) : (attrOf T y).length ≤ 2 := by
  unfold attrOf
  rw [I.ar]
  by_cases h : y.toNat < S.attrs.length
  · rw [getD_left _ _ _ h]; exact Z.good.az y
  · rw [getD_right _ _ _ (by k_extra "o m oz")]
    by_cases h2 : y.toNat - S.attrs.length < (kp S d).length
    · rw [getD_map (attrOf S) (kp S d) 0 [] h2]; exact Z.good.az _
    · rw [List.getD_eq_getElem?_getD, List.getElem?_eq_none (by rw [List.length_map]; k_extra "o m oz")]; exact Nat.zero_le _
theorem Inn.sized (Z : Scene S n pre x btw b post) (I : Inn S n pre x btw b post d todo T last mark) : Sized T (n + (kp S d).length) := by
  have h1 := Z.n1
  have h4 := kp_len (S := S) (d := d)
  have h5 := (I.stl Z).1
  have h6 := I.fml Z
  have h7 := Z.good.cl
  refine ⟨I.ln Z, by k_extra "o m oz", by k_extra "o m oz", by k_extra "o m oz", by rw [I.co]; k_extra "o m oz", ?_, fun y => Nat.le_trans (I.az Z y) (by k_extra "o m oz")⟩
  rw [I.co]
  exact Z.good.nk (by k_extra "o m oz")
theorem jstep (Z : Scene S n pre x btw b post) : ∀ todo T last mark r, Jn S n pre x btw b post todo T last mark r → ∃ n', Sized T n' ∧ pre.length + todo.length < T.stack.length ∧ T.stack.getD (pre.length + todo.length) 0 = todo.headD x ∧
    ∀ nd td, todo = nd :: td → IStep (Jn S n pre x btw b post) b x pre.length nd td T last mark r n' := by
  rintro todo T last mark r ⟨d, I, rfl⟩
  refine ⟨_, I.sized Z, (I.stl Z).2, ?_, ?_⟩
  · cases todo with
    | nil =>
      have e : T.stack = pre ++ x :: (cps n (kp S d).length ++ b :: post) := by rw [I.st]; simp
      rw [e]; exact getD_mid _ _ _ _
    | cons nd td =>
      rw [I.st2, show pre.length + (nd :: td).length = (pre ++ x :: td.reverse).length by simp only [List.length_append, List.length_cons, List.length_reverse]]
      exact getD_mid _ _ _ _
  · rintro nd td rfl
    have X := I.nx Z
    exact ⟨X.n0, by have := X.n1; k_extra "o m oz", X.nx, fun h h3 => ⟨_, I.far Z h (by k_extra "o m oz"), by simp⟩, fun h => ⟨_, I.off Z h, by simp⟩,
      fun h h3 => (I.cpy Z h (by k_extra "o m oz") rfl).1, fun h h3 => ⟨_, (I.cpy Z h (by k_extra "o m oz") rfl).2, by simp⟩⟩
theorem jinit (Z : Scene S n pre x btw b post) : Jn S n pre x btw b post btw.reverse S b (S.fmt.idxOf x : Int) 0 := by
  have ek : kp S [] = [] := rfl
  refine ⟨[], ⟨rfl, ?_, ?_, ?_, ?_, ?_, ?_, ?_, rfl, rfl, rfl, Z.good.tr.coh, ?_, fun j h => absurd h (Nat.not_lt_zero _), ?_, fun j h => absurd h (Nat.not_lt_zero _), rfl, rfl⟩, rfl⟩
  · rw [Z.hst, ek, List.reverse_reverse]; simp [cps]
  · rw [ek, map_id_on fun y _ => cpi_out (List.not_mem_nil)]
    exact (List.filter_eq_self.mpr fun y _ => by simp).symm
  · rw [ek]; simp
  · rw [ek]; simp
  · rw [ek]; simp
  · rw [ek]; simp
  · rw [ek]; simp
  · intro y _ _; rw [if_neg (fun q => q.2 rfl)]
  · intro y _ _; rw [if_neg (fun q => q rfl)]
theorem Scene.xi (Z : Scene S n pre x btw b post) : S.stack.idxOf x = pre.length := by
  have hn := Z.nd
  rw [Z.hst] at hn ⊢
  rw [List.nodup_append] at hn
  exact idx_mid fun h => hn.2.2 x h x (.head _) rfl
theorem Scene.bi (Z : Scene S n pre x btw b post) : S.stack.idxOf b = pre.length + 1 + btw.reverse.length := by
  have hn := Z.nd
  have e : S.stack = (pre ++ x :: btw) ++ b :: post := by rw [Z.hst]; simp
  rw [e] at hn ⊢
  rw [List.nodup_append] at hn
  rw [idx_mid fun h => hn.2.2 b h b (.head _) rfl]
  simp; k_extra "o m oz"
theorem kept_eq : keptL S btw = (kp S btw.reverse).reverse := by
  unfold keptL kp
  rw [List.take_reverse, List.filter_reverse, List.reverse_reverse]
theorem far_eq : farL btw = (btw.reverse.drop 3).reverse := by
  unfold farL
  rw [List.drop_reverse, List.reverse_reverse]
theorem look_snoc {k a v : Int} {c : List (Int × Int)} : List.lookup k (c ++ [(a, v)]) = (List.lookup k c).or (if k = a then some v else none) := by
  induction c with
  | nil =>
    rw [List.nil_append, List.lookup_cons]
    by_cases e : k = a
    · subst e; simp
    · have : (k == a) = false := by simpa using e
      rw [this, if_neg e]; rfl
  | cons q c ih =>
    obtain ⟨a', v'⟩ := q
    rw [List.cons_append, List.lookup_cons, List.lookup_cons, ih]
    split <;> rfl
theorem cpL_look {K : List Int} (hn : K.Nodup) : ∀ k, k ≤ K.length → ∀ y, List.lookup y (cpL S K.reverse k) = if y ∈ K ∧ K.idxOf y < k then some ((S.kinds.length : Int) + (K.idxOf y : Int)) else none
  | 0, _, y => by rw [cpL, if_neg (by k_extra "o m oz")]; rfl
  | k + 1, h, y => by
    have e : K.reverse.getD (K.reverse.length - 1 - k) 0 = K.getD k 0 := by
      rw [List.getD_eq_getElem?_getD, List.getElem?_reverse (by simp only [List.length_reverse]; k_extra "o m oz"), List.getD_eq_getElem?_getD]
      congr 2
      simp only [List.length_reverse]; k_extra "o m oz"
    rw [cpL, look_snoc, cpL_look hn k (by k_extra "o m oz") y, e]
    by_cases hy : y ∈ K
    · by_cases hk : y = K.getD k 0
      · have hi : K.idxOf y = k := by rw [hk]; exact idx_getD hn (by k_extra "o m oz")
        rw [if_neg (by k_extra "o m oz"), if_pos hk, if_pos ⟨hy, by k_extra "o m oz"⟩, hi]; rfl
      · have hi : K.idxOf y ≠ k := fun q => hk (by rw [← q]; exact (getD_idx hy).symm)
        rw [if_neg hk]
        by_cases hl : K.idxOf y < k
        · rw [if_pos ⟨hy, hl⟩, if_pos ⟨hy, by k_extra "o m oz"⟩]; rfl
        · rw [if_neg (fun q => hl q.2), if_neg (fun q => hl (by k_extra "o m oz"))]; rfl
    · have hk : y ≠ K.getD k 0 := fun q => hy (by rw [q]; exact getD_mem (by k_extra "o m oz"))
      rw [if_neg (fun q => hy q.1), if_neg hk, if_neg (fun q => hy q.1)]; rfl
theorem Scene.rnd (Z : Scene S n pre x btw b post) : btw.reverse.Nodup := by
  have hn := Z.nd
  rw [Z.hst, List.nodup_append] at hn
  exact (List.reverse_perm btw).nodup_iff.mpr (List.nodup_append.mp (List.nodup_cons.mp hn.2.1).2).1
theorem Scene.knd (Z : Scene S n pre x btw b post) : (kp S btw.reverse).Nodup := (Z.rnd.sublist (List.take_sublist _ _)).sublist List.filter_sublist
theorem cpAll_look (Z : Scene S n pre x btw b post) (y : Int) : List.lookup y (cpAll S btw) = if y ∈ kp S btw.reverse then some ((n : Int) + ((kp S btw.reverse).idxOf y : Int)) else none := by
  unfold cpAll
  rw [kept_eq, cpL_look Z.knd _ (by simp) y, Z.good.ln.ki]
  by_cases h : y ∈ kp S btw.reverse
  · rw [if_pos ⟨h, by rw [List.length_reverse]; exact List.idxOf_lt_length_of_mem h⟩, if_pos h]
  · rw [if_neg (fun q => h q.1), if_neg h]
theorem cpOf_eq (Z : Scene S n pre x btw b post) (y : Int) : cpOf S btw y = cpi n (kp S btw.reverse) y := by
  unfold cpOf cpi
  rw [cpAll_look Z]
  split <;> rfl
theorem left_eq (Z : Scene S n pre x btw b post) (I : Inn S n pre x btw b post btw.reverse [] T last mark) : leftL S btw = T.fmt := by
  unfold leftL
  rw [I.fm, far_eq]
  have e : (cpOf S btw) = cpi n (kp S btw.reverse) := funext fun y => cpOf_eq Z y
  rw [e]
  congr 1
  refine List.filter_congr fun y _ => ?_
  simp only [List.mem_reverse]
theorem map_cps {K : List Int} (hn : K.Nodup) : ∀ k, k ≤ K.length → (K.take k).reverse.map (cpi n K) = cps n k
  | 0, _ => rfl
  | k + 1, h => by
    have e : K.take (k + 1) = K.take k ++ [K.getD k 0] := by
      rw [List.take_add_one, List.getD_eq_getElem?_getD, List.getElem?_eq_getElem (by k_extra "o m oz")]; rfl
    rw [e, List.reverse_append, List.map_append, map_cps hn k (by k_extra "o m oz"), cps]
    show [cpi n K (K.getD k 0)] ++ _ = _
    rw [cpi_in (getD_mem (by k_extra "o m oz")), idx_getD hn (by k_extra "o m oz")]; rfl
theorem row_eq (Z : Scene S n pre x btw b post) : rowD S btw b = cps n (kp S btw.reverse).length ++ [b] := by
  unfold rowD
  have e : (cpOf S btw) = cpi n (kp S btw.reverse) := funext fun y => cpOf_eq Z y
  rw [e, kept_eq]
  have := map_cps (n := n) Z.knd (kp S btw.reverse).length (Nat.le_refl _)
  rw [List.take_length] at this
  rw [this]
theorem row0 (Z : Scene S n pre x btw b post) (I : Inn S n pre x btw b post btw.reverse [] T last mark) : (rowD S btw b).getD 0 0 = last := by
  rw [row_eq Z, I.la]
  cases (kp S btw.reverse).length with
  | zero => rfl
  | succ c => rw [if_neg (by k_extra "o m oz"), cps]; show (n : Int) + c = _; k_extra "o m oz"
theorem kept_len : (keptL S btw).length = (kp S btw.reverse).length := by rw [kept_eq, List.length_reverse]
theorem kept_nil : keptL S btw = [] ↔ (kp S btw.reverse).length = 0 := by rw [← kept_len, List.length_eq_zero_iff]
theorem cp_last (Z : Scene S n pre x btw b post) (h : (kp S btw.reverse).length ≠ 0) : cpOf S btw ((keptL S btw).getD ((keptL S btw).length - 1) 0) = (n : Int) := by
  have e : (keptL S btw).getD ((keptL S btw).length - 1) 0 = (kp S btw.reverse).getD 0 0 := by
    rw [kept_eq, List.getD_eq_getElem?_getD, List.getElem?_reverse (by simp only [List.length_reverse]; k_extra "o m oz"), List.getD_eq_getElem?_getD]
    congr 2
    simp only [List.length_reverse]; k_extra "o m oz"
  rw [e, cpOf_eq Z, cpi_in (getD_mem (by k_extra "o m oz")), idx_getD Z.knd (by k_extra "o m oz")]; simp
theorem mark_eq (Z : Scene S n pre x btw b post) (I : Inn S n pre x btw b post btw.reverse [] T last mark) : markD S x btw = mark := by
  unfold markD
  rw [left_eq Z I, I.mrk]
  by_cases h : (kp S btw.reverse).length = 0
  · rw [if_neg (fun q => q (kept_nil.mpr h)), if_pos h]
  · rw [if_pos (fun q => h (kept_nil.mp q)), if_neg h, cp_last Z h]
theorem Jn.inn (h : Jn S n pre x btw b post [] T last mark r) : Inn S n pre x btw b post btw.reverse [] T last mark := by
  obtain ⟨d, I, -⟩ := h
  have e : btw.reverse = d := by rw [I.dd]; simp
  rw [e]; exact I
theorem inner_told (Z : Scene S n pre x btw b post) (J : Jn S n pre x btw b post [] T last mark r) :
    (rowD S btw b).getD 0 0 = last ∧ markD S x btw = mark ∧ T.stack = (pre ++ [x]) ++ rowD S btw b ++ post ∧ T.fmt = leftL S btw := by
  have I := J.inn
  refine ⟨row0 Z I, mark_eq Z I, ?_, (left_eq Z I).symm⟩
  rw [I.st, row_eq Z]; simp
end

noncomputable def CB (cs : List (List Int)) (m : Int) : Prop := ∀ l ∈ cs, ∀ c ∈ l, 0 ≤ c ∧ c < m
theorem CB.set {cs : List (List Int)} {m : Int} (h : CB cs m) {l : List Int} (hl : ∀ c ∈ l, 0 ≤ c ∧ c < m) (i : Nat) : CB (cs.set i l) m := fun l' hm => by
  rcases List.mem_or_eq_of_mem_set hm with hm | rfl
  · exact h _ hm
  · exact hl
theorem CB.get {cs : List (List Int)} {m : Int} (h : CB cs m) (i : Nat) : ∀ c ∈ cs.getD i [], 0 ≤ c ∧ c < m := fun c hc => by
  by_cases hi : i < cs.length
  · exact h _ (getD_mem hi) c hc
  · rw [List.getD_eq_getElem?_getD, List.getElem?_eq_none (by k_extra "o m oz")] at hc; cases hc
theorem cps_mem {n : Nat} {y : Int} : ∀ {c : Nat}, y ∈ cps n c → (n : Int) ≤ y ∧ y < (n : Int) + c
  | c + 1, h => by
    rw [cps] at h
    rcases List.mem_cons.mp h with rfl | h
    · k_extra "o m oz"
    · have := cps_mem h; k_extra "o m oz"
section
variable {S : St} {n : Nat} {pre : List Int} {x : Int} {btw : List Int} {b : Int} {post : List Int}
theorem Scene.low (Z : Scene S n pre x btw b post) {y : Int} (h : y ∈ x :: (btw ++ b :: post)) : List.lookup y S.contents = none := look_ntempl Z.good (low_ntempl _ (Z.lnm y h).1)
theorem Scene.lst (Z : Scene S n pre x btw b post) {y : Int} (h : y ∈ x :: (btw ++ b :: post)) : y ∈ S.stack := by rw [Z.hst]; exact List.mem_append_right _ h
theorem Scene.prs (Z : Scene S n pre x btw b post) {y : Int} (h : y ∈ pre) : y ∈ S.stack := by rw [Z.hst]; exact List.mem_append_left _ h
theorem Scene.pb (Z : Scene S n pre x btw b post) : ∃ q ∈ x :: btw, par S b = q := by
  have e : x :: btw = (x :: btw).dropLast ++ [(x :: btw).getLast (by simp)] := (List.dropLast_concat_getLast (by simp)).symm
  refine ⟨(x :: btw).getLast (by simp), List.getLast_mem _, ?_⟩
  have hs : S.stack = (pre ++ (x :: btw).dropLast) ++ (x :: btw).getLast (by simp) :: b :: post := by
    rw [Z.hst, show pre ++ x :: (btw ++ b :: post) = pre ++ (x :: btw) ++ b :: post by simp]
    conv => lhs; rw [e]
    simp
  rw [Z.ch _ _ _ _ hs]
  unfold upOf
  rw [Z.low]
  · rfl
  · have h := List.getLast_mem (l := x :: btw) (by simp)
    rcases List.mem_cons.mp h with h | h
    · rw [h]; exact .head _
    · exact .tail _ (List.mem_append_left _ h)
theorem Scene.pbr (Z : Scene S n pre x btw b post) : 0 ≤ par S b ∧ par S b < n ∧ b ∈ kidsOf S (par S b) := by
  obtain ⟨q, hq, e⟩ := Z.pb
  have f := Z.fr Z.bs
  refine Z.good.tr.coh.dn b (by k_extra "o m oz") f.2 ?_
  have hq2 : q ∈ S.stack := Z.lst (by rcases List.mem_cons.mp hq with h | h; exact h ▸ .head _; exact .tail _ (List.mem_append_left _ h))
  have := Z.fr hq2
  rw [e]; k_extra "o m oz"
theorem Scene.upr (Z : Scene S n pre x btw b post) {y : Int} (h : y ∈ S.stack) : 0 ≤ upOf S y ∧ upOf S y < n := by
  have f := Z.fr h
  unfold upOf
  cases e : List.lookup y S.contents with
  | none => exact ⟨by rw [Option.getD_none]; k_extra "o m oz", by rw [Option.getD_none]; k_extra "o m oz"⟩
  | some v =>
    have := Z.good.ck _ (look_some e)
    exact ⟨by rw [Option.getD_some]; k_extra "o m oz", by rw [Option.getD_some]; k_extra "o m oz"⟩
theorem kid_get {m : Nat} (C : Coh S m) {l : List Int} (h : l ∈ S.children) : ∃ p : Int, 0 ≤ p ∧ p < m ∧ l = kidsOf S p := by
  obtain ⟨i, hi⟩ := List.mem_iff_getElem?.mp h
  have hl := (List.getElem?_eq_some_iff.mp hi).1
  refine ⟨(i : Int), by k_extra "o m oz", by rw [C.ch] at hl; k_extra "o m oz", ?_⟩
  unfold kidsOf
  rw [Int.toNat_natCast, List.getD_eq_getElem?_getD, hi]; rfl
theorem Scene.ch0l (Z : Scene S n pre x btw b post) {y : Int} (h0 : 0 ≤ y) (h1 : y < n) : (ch0 S btw).getD y.toNat [] = kidsOf S y := getD_left _ _ _ (by rw [Z.good.ln.ch]; k_extra "o m oz")
theorem Scene.bx (Z : Scene S n pre x btw b post) : x ∉ btw ∧ b ∉ pre ∧ x ∉ pre ∧ b ≠ x ∧ b ∉ btw := by
  have hn := Z.nd
  rw [Z.hst, List.nodup_append] at hn
  obtain ⟨h1, h2, h3⟩ := hn
  rw [List.nodup_cons] at h2
  obtain ⟨h4, h5⟩ := h2
  rw [List.nodup_append] at h5
  exact ⟨fun h => h4 (List.mem_append_left _ h), fun h => h3 b h b (by simp) rfl, fun h => h3 x h x (.head _) rfl, fun e => h4 (by rw [← e]; simp), fun h => h5.2.2 b h b (.head _) rfl⟩
theorem Scene.kx (Z : Scene S n pre x btw b post) : x ∉ kp S btw.reverse := fun h => Z.bx.1 (List.mem_reverse.mp (kp_sub h).1)
theorem scene_due (Z : Scene S n pre x btw b post) : DueOk S n pre x btw b post := by
  have q1 := Z.n1
  have q2 := Z.sz
  have q3 := Z.fz
  have q4 := Z.good.cl
  have kl : (keptL S btw).length = (kp S btw.reverse).length := kept_len
  have k3 := kp_len (S := S) (d := btw.reverse)
  have bf := Z.fr Z.bs
  have hrow : ∀ y ∈ rowD S btw b, 0 ≤ y ∧ y < (n : Int) + ((keptL S btw).length : Int) := fun y hy => by
    rw [row_eq Z] at hy
    rcases List.mem_append.mp hy with hy | hy
    · have := cps_mem hy; k_extra "o m oz"
    · rw [List.mem_singleton] at hy; subst hy; k_extra "o m oz"
  have hrowD : ∀ i, 0 ≤ (rowD S btw b).getD i 0 ∧ (rowD S btw b).getD i 0 < (n : Int) + ((keptL S btw).length : Int) + 1 := fun i => by
    by_cases hi : i < (rowD S btw b).length
    · have := hrow _ (getD_mem (d := 0) hi); k_extra "o m oz"
    · rw [List.getD_eq_getElem?_getD, List.getElem?_eq_none (by k_extra "o m oz")]
      show 0 ≤ (0 : Int) ∧ (0 : Int) < _
      k_extra "o m oz"
  have c0 : CB (ch0 S btw) ((n : Int) + ((keptL S btw).length : Int) + 1) := fun l hl c hc => by
    unfold ch0 at hl
    rcases List.mem_append.mp hl with hl | hl
    · obtain ⟨p, p0, p1, e⟩ := kid_get Z.good.tr.coh hl
      rw [e] at hc
      have := Z.good.tr.coh.up p c p0 p1 hc
      k_extra "o m oz"
    · rw [(List.mem_replicate.mp hl).2] at hc; cases hc
  have c1 : CB (ch1 S btw b) ((n : Int) + ((keptL S btw).length : Int) + 1) := c0.set (fun c hc => c0.get _ c (List.mem_of_mem_erase hc)) _
  have c2 : CB (ch2 S pre btw b) ((n : Int) + ((keptL S btw).length : Int) + 1) := c1.set (fun c hc => by
    rcases mem_putIn.mp hc with rfl | hc
    · exact hrowD 0
    · exact c1.get _ c hc) _
  have cK : ∀ k, CB (chK S pre btw b k) ((n : Int) + ((keptL S btw).length : Int) + 1) := fun k => by
    induction k with
    | zero => exact c2
    | succ k ih =>
      rw [chK]
      refine ih.set (fun c hc => ?_) _
      rcases List.mem_append.mp hc with hc | hc
      · exact ih.get _ c hc
      · rw [List.mem_singleton] at hc; subst hc; exact hrowD _
  have kd := Z.rnd
  rw [← List.take_append_drop 3 btw.reverse, List.nodup_append] at kd
  refine ⟨Z.good.ln, by k_extra "o m oz", Z.hst, Z.nd, Z.p0, by k_extra "o m oz", by k_extra "o m oz", fun y hy => by have := Z.fr hy; k_extra "o m oz", ?_, ?_, ?_, ?_, ?_, fun y hy => Z.upr (Z.prs hy), ?_, hrow, ?_, ?_, by k_extra "o m oz", ?_⟩
  · intro _
    unfold leftL
    refine List.mem_map.mpr ⟨x, List.mem_filter.mpr ⟨Z.xf, ?_⟩, ?_⟩
    · have : x ∉ farL btw := fun h => Z.bx.1 (List.mem_of_mem_take h)
      simp [this]
    · rw [cpOf_eq Z, cpi_out Z.kx]
  · intro y hy
    rw [kept_eq, List.mem_reverse] at hy
    rw [cpAll_look Z, if_pos hy]
    exact ⟨_, rfl⟩
  · intro hk
    have hl : (keptL S btw).length ≠ 0 := fun e => hk (List.length_eq_zero_iff.mp e)
    have hm : (keptL S btw).getD ((keptL S btw).length - 1) 0 ∈ keptL S btw := getD_mem (by k_extra "o m oz")
    generalize (keptL S btw).getD ((keptL S btw).length - 1) 0 = y at hm
    rw [kept_eq, List.mem_reverse] at hm
    unfold leftL
    refine List.mem_map.mpr ⟨y, List.mem_filter.mpr ⟨(kp_sub hm).2, ?_⟩, rfl⟩
    have : y ∉ farL btw := fun h => by
      rw [far_eq, List.mem_reverse] at h
      exact kd.2.2 y (List.mem_filter.mp hm).1 y h rfl
    simp [this]
  · intro l hl
    obtain ⟨p, p0, p1, e⟩ := kid_get Z.good.tr.coh hl
    rw [e]
    have := kids_len Z.good.tr.coh p0 p1
    k_extra "o m oz"
  · obtain ⟨h0, h1, h2⟩ := Z.pbr
    exact ⟨h0, h1, by rw [Z.ch0l h0 h1]; exact h2⟩
  · intro y hy _
    have f := Z.fr (Z.prs hy)
    obtain ⟨d0, d1, d2⟩ := Z.good.tr.coh.dn y (by k_extra "o m oz") f.2 (Z.good.st y (Z.prs hy)).2.2.1
    refine ⟨d0, d1, ?_⟩
    obtain ⟨h0, h1, h2⟩ := Z.pbr
    have hne : y ≠ b := fun e => Z.bx.2.1 (e ▸ hy)
    unfold ch1
    rw [getD_set _ _ _ _ _ (by unfold ch0; rw [List.length_append, Z.good.ln.ch]; k_extra "o m oz"), Z.ch0l h0 h1]
    split
    · rename_i e
      have e2 : par S y = par S b := by k_extra "o m oz"
      rw [← e2]
      exact (List.mem_erase_of_ne hne).mpr d2
    · rw [Z.ch0l d0 d1]; exact d2
  · intro l hl
    obtain ⟨i, hi⟩ := List.mem_iff_getElem?.mp hl
    have := Z.good.az (i : Int)
    unfold attrOf at this
    rw [Int.toNat_natCast, List.getD_eq_getElem?_getD, hi] at this
    exact Nat.le_trans this (by decide)
  · show CB (chD S pre btw b) _
    unfold chD ch3
    refine CB.set (CB.set (cK _) (fun c hc => (cK _).get _ c hc) _) (fun c hc => ?_) _
    rw [List.mem_singleton] at hc
    subst hc
    unfold wrapD
    rw [Z.good.ln.ki]; k_extra "o m oz"
  · intro k hk
    have e : (keptL S btw).getD ((keptL S btw).length - 1 - k) 0 = (kp S btw.reverse).getD k 0 := by
      rw [kept_eq, List.getD_eq_getElem?_getD, List.getElem?_reverse (by simp only [List.length_reverse]; k_extra "o m oz"), List.getD_eq_getElem?_getD]
      congr 2
      simp only [List.length_reverse]; k_extra "o m oz"
    rw [e, kept_eq, cpL_look Z.knd _ (by k_extra "o m oz"), idx_getD Z.knd (by k_extra "o m oz"), if_neg (by k_extra "o m oz")]
end

theorem lastD_snoc (l : List Int) (y : Int) : lastD (l ++ [y]) = y := by
  unfold lastD
  rw [List.length_append, getD_snoc, if_pos (by simp)]
theorem foster_down {T : St} {l r : List Int} (hst : T.stack = l ++ r) (h : ∀ y ∈ r, holder T y = false) (hl : 0 < l.length) : ∀ k, k < r.length + 1 → fosterIdx T (l.length - 1 + k) = fosterIdx T (l.length - 1)
  | 0, _ => rfl
  | k + 1, hk => by
    have e : l.length - 1 + (k + 1) = (l.length - 1 + k) + 1 := by k_extra "o m oz"
    rw [e, fosterIdx, hst, getD_right _ _ _ (by k_extra "o m oz"), h _ (getD_mem (by k_extra "o m oz")), if_neg (by decide)]
    exact foster_down hst h hl k (by k_extra "o m oz")
theorem foster_at {T : St} {l r : List Int} (hst : T.stack = l ++ r) : ∀ k, k < l.length → T.stack.getD (fosterIdx T k) 0 = if (l.take (k + 1)).filter (holder T) ≠ [] then lastD ((l.take (k + 1)).filter (holder T)) else l.getD 0 0
  | 0, hk => by
    have e : l.take 1 = [l.getD 0 0] := by
      cases l with
      | nil => exact absurd hk (Nat.not_lt_zero _)
      | cons a l => rfl
    rw [fosterIdx, hst, getD_left _ _ _ hk, e, List.filter_cons]
    split
    · rw [if_pos (by simp)]; rfl
    · rfl
  | k + 1, hk => by
    have ih := foster_at hst k (by k_extra "o m oz")
    have e : l.take (k + 1 + 1) = l.take (k + 1) ++ [l.getD (k + 1) 0] := by
      rw [List.take_add_one, List.getD_eq_getElem?_getD, List.getElem?_eq_getElem hk]; rfl
    have e1 : T.stack.getD (k + 1) 0 = l.getD (k + 1) 0 := by rw [hst, getD_left _ _ _ hk]
    rw [fosterIdx, e1, e, List.filter_append, List.filter_cons]
    split
    · rename_i hh
      rw [e1, List.filter_nil, if_pos (by simp), lastD_snoc]
    · rw [List.filter_nil, List.append_nil]; exact ih
theorem parts_eq : ∀ nm ∈ sHtml :: abvN, (tableParts.any fun y => y == nm) = (partNames.any fun y => y == nm) := by decide
section
variable {S : St} {n : Nat} {pre : List Int} {x : Int} {btw : List Int} {b : Int} {post : List Int} {T : St} {last mark : Int} {d todo : List Int}
theorem Inn.spc (Z : Scene S n pre x btw b post) (I : Inn S n pre x btw b post d todo T last mark) {y : Int} (h0 : 0 ≤ y) (h1 : y < n) : spaceOf T y = spaceOf S y := by
  unfold spaceOf; rw [I.sp]; exact getD_left _ _ _ (by rw [Z.good.ln.sp]; k_extra "o m oz")
theorem low_nhold : ∀ x ∈ lowN, x ≠ sTable ∧ x ≠ sTempl := by decide
theorem html_iff (T : St) (y : Int) (z : Str) : htmlIs T y z = ((spaceOf T y == sHtml) && (nameOf T y == z)) := rfl
theorem Inn.nohold (Z : Scene S n pre x btw b post) (I : Inn S n pre x btw b post d todo T last mark) {y : Int} (h : nameOf T y ∈ lowN) : htmlIs T y sTable = false ∧ htmlIs T y sTempl = false := by
  obtain ⟨h1, h2⟩ := low_nhold _ h
  rw [html_iff, html_iff, beq_false_of_ne h1, beq_false_of_ne h2]
  simp
theorem Inn.cpn (Z : Scene S n pre x btw b post) (I : Inn S n pre x btw b post d todo T last mark) {y : Int} (h : y ∈ cps n (kp S d).length) : nameOf T y ∈ lowN := by
  obtain ⟨h0, h1⟩ := cps_mem h
  unfold nameOf
  rw [I.na, getD_right _ _ _ (by rw [Z.good.ln.na]; k_extra "o m oz"), getD_map (nameOf S) _ 0 _ (by rw [Z.good.ln.na]; k_extra "o m oz")]
  have hm : (kp S d).getD (y.toNat - S.names.length) 0 ∈ kp S d := getD_mem (by rw [Z.good.ln.na]; k_extra "o m oz")
  have hd := (kp_sub hm).1
  have hb : (kp S d).getD (y.toNat - S.names.length) 0 ∈ btw.reverse := by rw [I.dd]; exact List.mem_append_left _ hd
  exact (Z.lnm _ (.tail _ (List.mem_append_left _ (List.mem_reverse.mp hb)))).1
theorem Inn.tail_low (Z : Scene S n pre x btw b post) (I : Inn S n pre x btw b post btw.reverse [] T last mark) {y : Int} (h : y ∈ x :: (cps n (kp S btw.reverse).length ++ b :: post)) : nameOf T y ∈ lowN := by
  have old : y ∈ x :: (btw ++ b :: post) → nameOf T y ∈ lowN := fun h => by
    have f := Z.fr (Z.lst h)
    rw [I.nm Z (by k_extra "o m oz") f.2]; exact (Z.lnm y h).1
  rcases List.mem_cons.mp h with rfl | h
  · exact old (.head _)
  · rcases List.mem_append.mp h with h | h
    · exact I.cpn Z h
    · exact old (.tail _ (List.mem_append_right _ h))
theorem Inn.st0 (I : Inn S n pre x btw b post btw.reverse [] T last mark) : T.stack = pre ++ x :: (cps n (kp S btw.reverse).length ++ b :: post) := by rw [I.st]; simp
theorem Scene.preb (Z : Scene S n pre x btw b post) {y : Int} (h : y ∈ pre) : y < x ∧ y ≠ b := by
  have hs := Z.good.so
  rw [Z.hst, List.pairwise_append] at hs
  exact ⟨hs.2.2 y h x (.head _), fun e => Z.bx.2.1 (e ▸ h)⟩
theorem Scene.xb (Z : Scene S n pre x btw b post) : x < b := by
  have hs := Z.good.so
  rw [Z.hst, List.pairwise_append] at hs
  exact (List.pairwise_cons.mp hs.2.1).1 b (by simp)
theorem Scene.uplt (Z : Scene S n pre x btw b post) {y : Int} (h : y ∈ pre) : 0 ≤ upOf S y ∧ upOf S y < x := by
  have h0 := (Z.upr (Z.prs h)).1
  have h1 := (Z.preb h).1
  refine ⟨h0, ?_⟩
  unfold upOf
  cases e : List.lookup y S.contents with
  | none => exact h1
  | some v =>
    have k := Z.good.ck _ (look_some e)
    have hx := (Z.good.st x Z.xs).2.2.2
    have hne : x ≠ v := fun q => hx (by rw [q]; exact k.2.2.2.2)
    rw [Option.getD_some]
    have := k.2.1
    dsimp only at this
    k_extra "o m oz"
theorem place_spot (Z : Scene S n pre x btw b post) (I : Inn S n pre x btw b post btw.reverse [] T last mark) :
    ∃ i bf, placeFor T (lastD pre) = (i, bf) ∧ (∀ cs, spotS S cs pre = (i, if bf = -1 then ((cs.getD i.toNat []).length : Int) else (((cs.getD i.toNat []).idxOf bf : Nat) : Int))) ∧ 0 ≤ i ∧ i < x ∧ (bf ≠ -1 → bf ∈ pre ∧ par S bf = i) := by
  have p0 := Z.p0
  have hl : lastD pre ∈ pre := getD_mem (by k_extra "o m oz")
  have hin : ∀ y ∈ pre, 0 ≤ y ∧ y < n := fun y hy => by have := Z.fr (Z.prs hy); k_extra "o m oz"
  have hname : ∀ y ∈ pre, nameOf T y = nameOf S y := fun y hy => I.nm Z (hin y hy).1 (hin y hy).2
  have hspace : ∀ y ∈ pre, spaceOf T y = sHtml := fun y hy => (I.spc Z (hin y hy).1 (hin y hy).2).trans (Z.pnm y hy).1
  have hhtml : ∀ y ∈ pre, ∀ z, htmlIs T y z = (nameOf S y == z) := fun y hy z => by
    rw [html_iff, hspace y hy, hname y hy]; simp
  have hnm : ∀ (l : List Str) (y : Int), nmIs S l y = l.any fun z => z == nameOf S y := fun l y => rfl
  have bc : ∀ u v : Str, (u == v) = (v == u) := fun u v => by
    by_cases e : u = v
    · subst e; rfl
    · rw [beq_false_of_ne e, beq_false_of_ne (Ne.symm e)]
  have hhold : ∀ y ∈ pre, holder T y = nmIs S holdNames y := fun y hy => by
    unfold holder
    rw [hhtml y hy, hhtml y hy, hnm]
    unfold holdNames
    rw [List.any_cons, List.any_cons, List.any_nil, Bool.or_false, bc (nameOf S y), bc (nameOf S y)]
  have htab : ∀ y ∈ pre, htmlIs T y sTable = nmIs S [Str.ofString "table"] y := fun y hy => by
    rw [hhtml y hy, hnm, List.any_cons, List.any_nil, Bool.or_false, bc]
  have hfil : pre.filter (holder T) = pre.filter (nmIs S holdNames) := List.filter_congr fun y hy => hhold y hy
  have hst := I.st0
  have hlen : T.stack.length = pre.length + (x :: (cps n (kp S btw.reverse).length ++ b :: post)).length := by rw [hst, List.length_append]
  have hfo : T.stack.getD (fosterIdx T (T.stack.length - 1)) 0 = spotInto S pre := by
    have h1 := foster_down hst (fun y hy => by
      have := I.nohold Z (I.tail_low Z hy)
      unfold holder; rw [this.1, this.2]; rfl) p0 ((x :: (cps n (kp S btw.reverse).length ++ b :: post)).length) (by k_extra "o m oz")
    have h2 := foster_at hst (pre.length - 1) (by k_extra "o m oz")
    rw [show pre.length - 1 + (x :: (cps n (kp S btw.reverse).length ++ b :: post)).length = T.stack.length - 1 by k_extra "o m oz"] at h1
    rw [h1, h2, show pre.length - 1 + 1 = pre.length by k_extra "o m oz", List.take_length, hfil]
    rfl
  have hsi : spotInto S pre ∈ pre := by
    unfold spotInto
    split
    · rename_i hne
      have : (pre.filter (nmIs S holdNames)).length ≠ 0 := fun e => hne (List.length_eq_zero_iff.mp e)
      exact (List.mem_filter.mp (getD_mem (l := pre.filter (nmIs S holdNames)) (i := (pre.filter (nmIs S holdNames)).length - 1) (d := 0) (by k_extra "o m oz"))).1
    · exact getD_mem p0
  have hpar : ∀ y ∈ pre, par T y = par S y := fun y hy => by
    rw [I.pa y (hin y hy).1 (hin y hy).2, if_neg (fun q => (Z.preb hy).2 q.1)]
  have hpart : ∀ y ∈ pre, partIs T y = nmIs S partNames y := fun y hy => by
    have e1 : partIs T y = ((spaceOf T y == sHtml) && tableParts.any fun z => z == nameOf T y) := rfl
    rw [e1, hspace y hy, hname y hy, hnm, parts_eq _ (List.mem_cons.mpr (Z.pnm y hy).2)]
    simp
  -- no table
  have endc : ∀ z ∈ pre, (match conOf T z with | some y => (y, (-1 : Int)) | none => (z, -1)) = (upOf S z, -1) := fun z hz => by
    unfold conOf upOf
    rw [I.co]
    cases List.lookup z S.contents <;> rfl
  have ends : ∀ z ∈ pre, ∀ cs, spotEnd S cs z = (upOf S z, ((cs.getD (upOf S z).toNat []).length : Int)) := fun z hz cs => rfl
  by_cases hc : S.foster = true ∧ nmIs S partNames (lastD pre) = true
  · have hp : placeFor T (lastD pre) = match conOf T (fosterOf T).1 with | some y => (y, -1) | none => fosterOf T := by
      unfold placeFor
      rw [I.fo, hc.1, hpart _ hl, hc.2]; rfl
    have hf : fosterOf T = if htmlIs T (spotInto S pre) sTable then (par T (spotInto S pre), spotInto S pre) else (spotInto S pre, -1) := by
      unfold fosterOf; rw [hfo]
    by_cases ht : nmIs S [Str.ofString "table"] (spotInto S pre) = true
    · rw [htab _ hsi, ht, if_pos rfl, hpar _ hsi] at hf
      have f := Z.fr (Z.prs hsi)
      have g := Z.good.st _ (Z.prs hsi)
      have hcp := Z.good.cp _ (by k_extra "o m oz") f.2 g.2.2.1
      have dn := Z.good.tr.coh.dn _ (by k_extra "o m oz") f.2 g.2.2.1
      have as := Z.good.tr.asc _ (by k_extra "o m oz") f.2
      refine ⟨par S (spotInto S pre), spotInto S pre, ?_, ?_, dn.1, by have := (Z.preb hsi).1; k_extra "o m oz", fun _ => ⟨hsi, rfl⟩⟩
      · rw [hp, hf]
        unfold conOf
        rw [I.co]
        dsimp only
        rw [hcp]
      · intro cs
        unfold spotS
        rw [if_pos hc, if_pos ht, if_neg (by k_extra "o m oz")]
    · rw [htab _ hsi, if_neg ht] at hf
      refine ⟨upOf S (spotInto S pre), -1, ?_, ?_, (Z.uplt hsi).1, (Z.uplt hsi).2, fun h => absurd rfl h⟩
      · rw [hp, hf]; exact endc _ hsi
      · intro cs
        unfold spotS
        rw [if_pos hc, if_neg ht, ends _ hsi, if_pos rfl]
  · have hp : placeFor T (lastD pre) = match conOf T (lastD pre) with | some y => (y, -1) | none => (lastD pre, -1) := by
      have e : (T.foster && partIs T (lastD pre)) = false := by
        rw [I.fo, hpart _ hl]
        cases h1 : S.foster
        · rfl
        · cases h2 : nmIs S partNames (lastD pre)
          · rfl
          · exact absurd ⟨h1, h2⟩ hc
      unfold placeFor
      rw [e]; rfl
    refine ⟨upOf S (lastD pre), -1, ?_, ?_, (Z.uplt hl).1, (Z.uplt hl).2, fun h => absurd rfl h⟩
    · rw [hp]; exact endc _ hl
    · intro cs
      unfold spotS
      rw [if_neg hc, ends _ hl, if_pos rfl]
end

theorem move_facts {N : Nat} {p q : Int} (p0 : 0 ≤ p) (p1 : p < N) (q0 : 0 ≤ q) (q1 : q < N) (hpq : p ≠ q) : ∀ (cs rest : List Int) (S0 : St), Coh S0 N → kidsOf S0 p = cs ++ rest →
    Coh (moveKids S0 q cs) N ∧ kidsOf (moveKids S0 q cs) p = rest ∧ kidsOf (moveKids S0 q cs) q = kidsOf S0 q ++ cs ∧ (∀ y : Int, 0 ≤ y → y < N → y ≠ p → y ≠ q → kidsOf (moveKids S0 q cs) y = kidsOf S0 y) ∧ (∀ y : Int, 0 ≤ y → par (moveKids S0 q cs) y = if y ∈ cs then q else par S0 y)
  | [], rest, S0, C, h => ⟨C, h, by rw [List.append_nil]; rfl, fun _ _ _ _ _ => rfl, fun y _ => by rw [if_neg (List.not_mem_nil)]; rfl⟩
  | c :: cs, rest, S0, C, h => by
    have hc := C.up p c p0 p1 (by rw [h]; simp)
    have e0 : moveKids S0 q (c :: cs) = moveKids (insertE S0 q c) q cs := rfl
    have C1 := C.insE (x := c) (p := q) hc.1 hc.2.1 q0 q1
    have hk : ∀ y : Int, 0 ≤ y → y < N → y ≠ p → (kidsOf S0 y).erase c = kidsOf S0 y := fun y y0 y1 hy => List.erase_of_not_mem fun hm => by
      have := (C.up y c y0 y1 hm).2.2
      rw [hc.2.2] at this; exact hy this.symm
    have h1 : kidsOf (insertE S0 q c) p = cs ++ rest := by
      rw [kids_insE C hc.1 hc.2.1 q0 q1 p0 p1, if_neg hpq, h, List.cons_append, List.erase_cons_head]
    obtain ⟨r1, r2, r3, r4, r5⟩ := move_facts p0 p1 q0 q1 hpq cs rest _ C1 h1
    rw [e0]
    refine ⟨r1, r2, ?_, ?_, ?_⟩
    · rw [r3, kids_insE C hc.1 hc.2.1 q0 q1 q0 q1, if_pos rfl, hk q q0 q1 (Ne.symm hpq)]; simp
    · intro y y0 y1 hyp hyq
      rw [r4 y y0 y1 hyp hyq, kids_insE C hc.1 hc.2.1 q0 q1 y0 y1, if_neg hyq, hk y y0 y1 hyp]
    · intro y y0
      rw [r5 y y0, par_insE C hc.1 hc.2.1 y0]
      by_cases hm : y ∈ cs
      · rw [if_pos hm, if_pos (List.mem_cons_of_mem _ hm)]
      · rw [if_neg hm]
        by_cases e : y = c
        · rw [if_pos e, if_pos (by rw [e]; exact .head _)]
        · rw [if_neg e, if_neg (fun q => by rcases List.mem_cons.mp q with q | q; exact e q; exact hm q)]
theorem parIn_get : ∀ (l ps : List Int) (up : Int) (y : Nat), (∀ c ∈ l, 0 ≤ c ∧ c < (ps.length : Int)) → y < ps.length → (parIn ps up l).getD y 0 = if (y : Int) ∈ l then up else ps.getD y 0
  | [], ps, up, y, _, _ => by rw [if_neg (List.not_mem_nil)]; rfl
  | c :: l, ps, up, y, h, hy => by
    have hc := h c (.head _)
    have e : parIn ps up (c :: l) = parIn (ps.set c.toNat up) up l := rfl
    rw [e, parIn_get l (ps.set c.toNat up) up y (fun c' hc' => by rw [List.length_set]; exact h c' (.tail _ hc')) (by rw [List.length_set]; exact hy)]
    by_cases hm : (y : Int) ∈ l
    · rw [if_pos hm, if_pos (List.mem_cons_of_mem _ hm)]
    · rw [if_neg hm, getD_set _ _ _ _ _ (by k_extra "o m oz")]
      by_cases e2 : y = c.toNat
      · rw [if_pos e2, if_pos (by rw [show (y : Int) = c by k_extra "o m oz"]; exact .head _)]
      · rw [if_neg e2, if_neg (fun q => by rcases List.mem_cons.mp q with q | q; exact e2 (by k_extra "o m oz"); exact hm q)]
theorem parIn_len2 : ∀ (l ps : List Int) (up : Int), (parIn ps up l).length = ps.length
  | [], _, _ => rfl
  | c :: l, ps, up => by
    have e : parIn ps up (c :: l) = parIn (ps.set c.toNat up) up l := rfl
    rw [e, parIn_len2 l, List.length_set]
theorem parents_of {R : St} {N : Nat} (C : Coh R N) : R.parents = parentsOf R.children := by
  have key : ∀ k, k ≤ N → ((List.range k).foldl (fun ps (up : Nat) => parIn ps (up : Int) (R.children.getD up [])) (List.replicate R.children.length (-1))).length = N ∧
      ∀ y : Nat, y < N → ((List.range k).foldl (fun ps (up : Nat) => parIn ps (up : Int) (R.children.getD up [])) (List.replicate R.children.length (-1))).getD y 0 = if par R y ≠ -1 ∧ par R y < k then par R y else -1 := by
    intro k
    induction k with
    | zero =>
      intro _
      refine ⟨by rw [List.range_zero, List.foldl_nil, List.length_replicate, C.ch], fun y hy => ?_⟩
      rw [List.range_zero, List.foldl_nil, if_neg, List.getD_eq_getElem?_getD, List.getElem?_replicate, if_pos (by rw [C.ch]; exact hy)]
      · rfl
      · rintro ⟨h1, h2⟩
        have := (C.dn y (by k_extra "o m oz") (by k_extra "o m oz") h1).1
        k_extra "o m oz"
    | succ k ih =>
      intro hk
      obtain ⟨i1, i2⟩ := ih (by k_extra "o m oz")
      rw [List.range_succ, List.foldl_append, List.foldl_cons, List.foldl_nil]
      refine ⟨by rw [parIn_len2, i1], fun y hy => ?_⟩
      have ek : R.children.getD k [] = kidsOf R (k : Int) := by unfold kidsOf; rw [Int.toNat_natCast]
      rw [ek, parIn_get _ _ _ _ (fun c hc => by
        have := C.up (k : Int) c (by k_extra "o m oz") (by k_extra "o m oz") hc
        rw [i1]; k_extra "o m oz") (by rw [i1]; exact hy), i2 y hy]
      by_cases hm : (y : Int) ∈ kidsOf R (k : Int)
      · have := (C.up (k : Int) y (by k_extra "o m oz") (by k_extra "o m oz") hm).2.2
        rw [if_pos hm, this, if_pos (by k_extra "o m oz")]
      · rw [if_neg hm]
        have hne : par R y ≠ (k : Int) := fun e => hm (by
          have := (C.dn y (by k_extra "o m oz") (by k_extra "o m oz") (by k_extra "o m oz")).2.2
          rw [e] at this; exact this)
        by_cases h1 : par R y ≠ -1 ∧ par R y < (k : Int)
        · rw [if_pos h1, if_pos ⟨h1.1, by k_extra "o m oz"⟩]
        · rw [if_neg h1, if_neg (fun q => h1 ⟨q.1, by k_extra "o m oz"⟩)]
  obtain ⟨k1, k2⟩ := key N (Nat.le_refl _)
  unfold parentsOf
  rw [C.ch] at k1 k2 ⊢
  refine ext_getD 0 (by rw [C.pa, k1]) fun y hy => ?_
  rw [C.pa] at hy
  rw [k2 y hy]
  have e : R.parents.getD y 0 = par R y := by unfold par; rw [Int.toNat_natCast]
  rw [e]
  by_cases h : par R y = -1
  · rw [if_neg (fun q => q.1 h), h]
  · rw [if_pos ⟨h, (C.dn y (by k_extra "o m oz") (by k_extra "o m oz") h).2.1⟩]
theorem Up.agree {S T : St} (hl : S.parents.length ≤ T.parents.length) {p : Int} {l : List Int} (h : Up S p l) : (∀ y, y = p ∨ y ∈ l → par T y = par S y) → Up T p l := by
  induction h with
  | top h => exact fun hp => .top (by rw [hp _ (.inl rfl)]; exact h)
  | @up x l h0 h1 h2 ih =>
    intro hp
    have e := hp x (.inl rfl)
    have := ih fun y hy => hp y (.inr (by rcases hy with rfl | hy; exact .head _; exact .tail _ hy))
    rw [← e] at this ⊢
    exact .up (by rw [e]; exact h0) (by rw [e]; k_extra "o m oz") this
theorem sized_insAt {T : St} {N : Nat} (Z : Sized T N) (p x b : Int) : Sized (insertAt T p x b) N ∧ Same T (insertAt T p x b) := by
  have hs : Same T (insertAt T p x b) := by unfold insertAt; split; exact same_insE _ _ _; exact same_insB _ _ _ _
  refine ⟨⟨?_, Z.n2, by rw [hs.st]; exact Z.st, by rw [hs.fm]; exact Z.fm, by rw [hs.co]; exact Z.co, by rw [hs.co]; exact Z.nk, fun y => ?_⟩, hs⟩
  · unfold insertAt; split; exact Z.ln.insE _ _; exact Z.ln.insB _ _ _
  · unfold attrOf; rw [hs.ar]; exact Z.az y
theorem coh_insAt {T : St} {N : Nat} {p x b : Int} (C : Coh T N) (h0 : 0 ≤ x) (h1 : x < N) (p0 : 0 ≤ p) (p1 : p < N) : Coh (insertAt T p x b) N ∧ (∀ y : Int, 0 ≤ y → par (insertAt T p x b) y = if y = x then p else par T y) ∧
    (∀ q : Int, 0 ≤ q → q < N → kidsOf (insertAt T p x b) q = if q = p then putIn ((kidsOf T p).erase x) (if b = -1 then ((kidsOf T p).erase x).length else ((kidsOf T p).erase x).idxOf b) x else (kidsOf T q).erase x) := by
  unfold insertAt
  by_cases hb : b = -1
  · rw [if_pos hb]
    refine ⟨C.insE h0 h1 p0 p1, fun y y0 => par_insE C h0 h1 y0, fun q q0 q1 => ?_⟩
    rw [kids_insE C h0 h1 p0 p1 q0 q1, if_pos hb, putIn_len]
  · rw [if_neg hb]
    refine ⟨C.insB h0 h1 p0 p1, fun y y0 => par_insB C h0 h1 y0, fun q q0 q1 => ?_⟩
    rw [kids_insB C h0 h1 p0 p1 q0 q1, if_neg hb]
theorem cps_get {n : Nat} : ∀ {c k : Nat}, k < c → (cps n c).getD k 0 = (n : Int) + (c - 1 - k : Nat)
  | c + 1, 0, _ => by rw [cps, List.getD_cons_zero]; simp
  | c + 1, k + 1, h => by rw [cps, List.getD_cons_succ, cps_get (by k_extra "o m oz")]; congr 2; k_extra "o m oz"

section
variable {S : St} {n : Nat} {pre : List Int} {x : Int} {btw : List Int} {b : Int} {post : List Int} {T : St} {last mark : Int}
theorem Inn.la2 (Z : Scene S n pre x btw b post) (I : Inn S n pre x btw b post btw.reverse [] T last mark) :
    0 ≤ last ∧ last < ((n + (kp S btw.reverse).length : Nat) : Int) ∧ (last = b ∨ (n : Int) ≤ last) ∧ (∀ q : Int, 0 ≤ q → q < n → (kidsOf T q).erase last = (kidsOf S q).erase b) ∧
    (∀ j : Nat, j < (kp S btw.reverse).length → (kidsOf T ((n : Int) + j)).erase last = [if j = 0 then b else (n : Int) + j - 1]) := by
  have bf := Z.fr Z.bs
  have hla := I.la
  by_cases hc : (kp S btw.reverse).length = 0
  · rw [if_pos hc] at hla
    refine ⟨by k_extra "o m oz", by k_extra "o m oz", .inl hla, fun q q0 q1 => ?_, fun j hj => absurd hj (by k_extra "o m oz")⟩
    rw [hla, I.kd q q0 q1, if_neg (fun h => h hc)]
  · rw [if_neg hc] at hla
    have lp : par T last = -1 := by
      have := I.pc ((kp S btw.reverse).length - 1) (by k_extra "o m oz")
      rw [if_pos (by k_extra "o m oz")] at this
      rw [← this, hla]; congr 1; k_extra "o m oz"
    have no : ∀ q : Int, 0 ≤ q → q < ((n + (kp S btw.reverse).length : Nat) : Int) → (kidsOf T q).erase last = kidsOf T q := fun q q0 q1 => List.erase_of_not_mem fun hm => by
      have := (I.coh.up q last q0 q1 hm).2.2
      rw [lp] at this; k_extra "o m oz"
    refine ⟨by k_extra "o m oz", by k_extra "o m oz", .inr (by k_extra "o m oz"), fun q q0 q1 => ?_, fun j hj => ?_⟩
    · rw [no q q0 (by k_extra "o m oz"), I.kd q q0 q1, if_pos hc]
    · rw [no _ (by k_extra "o m oz") (by k_extra "o m oz"), I.kc j hj]
theorem Scene.bself (Z : Scene S n pre x btw b post) : (kidsOf S b).erase b = kidsOf S b := List.erase_of_not_mem fun hm => by
  have bf := Z.fr Z.bs
  have h1 := (Z.good.tr.coh.up b b (by k_extra "o m oz") bf.2 hm).2.2
  have h2 := Z.good.tr.asc b (by k_extra "o m oz") bf.2
  k_extra "o m oz"
noncomputable def EK (S : St) (n c : Nat) (i pos last b : Int) (q : Int) : List Int :=
  if q = b then [((n + c : Nat) : Int)] else if q = ((n + c : Nat) : Int) then kidsOf S b else if (n : Int) ≤ q then [if q = n then b else q - 1]
  else if q = i then putIn ((kidsOf S i).erase b) pos.toNat last else (kidsOf S q).erase b
theorem getI_set {α : Type} {l : List α} {i q : Int} (m : Nat) (v d : α) (hl : l.length = m) (i0 : 0 ≤ i) (i1 : i < m) (q0 : 0 ≤ q) : (l.set i.toNat v).getD q.toNat d = if q = i then v else l.getD q.toNat d := by
  rw [getD_set _ _ _ _ _ (by rw [hl]; exact (Int.toNat_lt i0).mpr i1)]
  by_cases e : q = i
  · rw [if_pos e, if_pos (by rw [e])]
  · rw [if_neg e, if_neg (fun h => e ((toNat_ne q0 i0).mp h))]
theorem ne_ge {n q p : Int} (h : n ≤ q) (h2 : p < n) : ¬ q = p := fun e => Int.not_lt.mpr (e ▸ h) h2
theorem chD_get (Z : Scene S n pre x btw b post) (I : Inn S n pre x btw b post btw.reverse [] T last mark) {i pos : Int} (hi0 : 0 ≤ i) (hix : i < x) (hsp : spotS S (ch1 S btw b) pre = (i, pos)) :
    (chD S pre btw b).length = n + (kp S btw.reverse).length + 1 ∧ ∀ q : Int, 0 ≤ q → q < ((n + (kp S btw.reverse).length + 1 : Nat) : Int) → (chD S pre btw b).getD q.toNat [] = EK S n (kp S btw.reverse).length i pos last b q := by
  obtain ⟨b00, b1⟩ := Z.fr Z.bs
  have b0 := Int.le_of_lt b00
  have xb := Z.xb
  have xn := (Z.fr Z.xs).2
  have hin := Int.lt_trans hix xn
  have hkl : (keptL S btw).length = (kp S btw.reverse).length := kept_len
  have hro := row_eq Z
  have hr0 := row0 Z I
  generalize (kp S btw.reverse).length = K at hkl hro ⊢
  have l0 : (ch0 S btw).length = n + K + 1 := by unfold ch0; rw [List.length_append, List.length_replicate, Z.good.ln.ch, hkl, Nat.add_assoc]
  have l1 : (ch1 S btw b).length = n + K + 1 := by unfold ch1; rw [List.length_set, l0]
  have l2 : (ch2 S pre btw b).length = n + K + 1 := by unfold ch2; dsimp only; rw [List.length_set, l1]
  have lK : ∀ k, (chK S pre btw b k).length = n + K + 1 := fun k => by
    induction k with
    | zero => exact l2
    | succ k ih => rw [chK, List.length_set, ih]
  obtain ⟨pb0, pb1, pb2⟩ := Z.pbr
  have nK : ∀ y : Int, y < n → y < ((n + K + 1 : Nat) : Int) := fun y h => Int.lt_of_lt_of_le h (Int.ofNat_le.mpr (by rw [Nat.add_assoc]; exact Nat.le_add_right _ _))
  have g1 : ∀ q : Int, 0 ≤ q → (ch1 S btw b).getD q.toNat [] = if (n : Int) ≤ q then [] else (kidsOf S q).erase b := fun q q0 => by
    unfold ch1
    rw [getI_set _ _ _ l0 pb0 (nK _ pb1) q0, Z.ch0l pb0 pb1]
    by_cases hq : (n : Int) ≤ q
    · rw [if_pos hq, if_neg (ne_ge hq pb1)]
      unfold ch0
      rw [getD_right _ _ _ (by rw [Z.good.ln.ch]; exact (Int.le_toNat q0).mpr hq)]; exact getD_repl _ _ _
    · rw [if_neg hq, Z.ch0l q0 (Int.not_le.mp hq)]
      by_cases e : q = par S b
      · rw [if_pos e, e]
      · rw [if_neg e]; exact (List.erase_of_not_mem fun hm => e (Z.good.tr.coh.up q b q0 (Int.not_le.mp hq) hm).2.2.symm).symm
  have g2 : ∀ q : Int, 0 ≤ q → (ch2 S pre btw b).getD q.toNat [] = if q = i then putIn ((kidsOf S i).erase b) pos.toNat last else if (n : Int) ≤ q then [] else (kidsOf S q).erase b := fun q q0 => by
    unfold ch2
    dsimp only
    rw [hsp]
    dsimp only
    rw [getI_set _ _ _ l1 hi0 (nK _ hin) q0, g1 i hi0, if_neg (Int.not_le.mpr hin), hr0, g1 q q0]
  have rowk : ∀ k j, k + 1 + j = K → (rowD S btw b).getD k 0 = (n : Int) + (j : Nat) := fun k j h => by
    rw [hro, getD_left _ _ _ (by rw [cps_len]; k_extra "o m oz"), cps_get (by k_extra "o m oz"), show K - 1 - k = j by k_extra "o m oz"]
  have rowb : (rowD S btw b).getD K 0 = b := by rw [hro, getD_right _ _ _ (by rw [cps_len]; exact Nat.le_refl _), cps_len, Nat.sub_self]; rfl
  have gK : ∀ k j, k + j = K → ∀ q : Int, 0 ≤ q → (chK S pre btw b k).getD q.toNat [] = if (n : Int) + (j : Nat) ≤ q ∧ q < (n : Int) + (K : Nat) then [if q = n then b else q - 1] else (ch2 S pre btw b).getD q.toNat [] := fun k => by
    induction k with
    | zero =>
      intro j hj q q0
      rw [if_neg (by k_extra "o m oz")]; rfl
    | succ k ih =>
      intro j hj q q0
      have r1 : (rowD S btw b).getD (k + 1) 0 = if (n : Int) + (j : Nat) = n then b else (n : Int) + (j : Nat) - 1 := by
        cases j with
        | zero => rw [if_pos (show (n : Int) + ((0 : Nat) : Int) = n from Int.add_zero _), show k + 1 = K from hj]; exact rowb
        | succ j => rw [if_neg (by k_extra "o m oz"), rowk (k + 1) j (by k_extra "o m oz")]; k_extra "o m oz"
      have hh : 0 ≤ (n : Int) + (j : Nat) := Int.natCast_nonneg (n + j)
      have h1 : (n : Int) ≤ (n : Int) + (j : Nat) := Int.le_add_of_nonneg_right (Int.natCast_nonneg j)
      have h2 := g2 ((n : Int) + (j : Nat)) hh
      rw [if_neg (ne_ge h1 hin), if_pos h1] at h2
      have i1 := ih (j + 1) (by k_extra "o m oz")
      have hk0 : (chK S pre btw b k).getD ((n : Int) + (j : Nat)).toNat [] = [] := by
        rw [i1 _ hh, if_neg (by k_extra "o m oz"), h2]
      rw [chK, rowk k j hj, r1, hk0, getI_set _ _ _ (lK k) hh (by k_extra "o m oz") q0, i1 q q0]
      by_cases e : q = (n : Int) + (j : Nat)
      · rw [if_pos e, if_pos (show (n : Int) + (j : Nat) ≤ q ∧ q < (n : Int) + (K : Nat) by k_extra "o m oz"), List.nil_append, e]
      · rw [if_neg e]
        by_cases e4 : (n : Int) + ((j + 1 : Nat) : Int) ≤ q ∧ q < (n : Int) + (K : Nat)
        · rw [if_pos e4, if_pos (show (n : Int) + (j : Nat) ≤ q ∧ q < (n : Int) + (K : Nat) by k_extra "o m oz")]
        · rw [if_neg e4, if_neg (show ¬ ((n : Int) + (j : Nat) ≤ q ∧ q < (n : Int) + (K : Nat)) by k_extra "o m oz")]
  have hw : wrapD S btw = ((n + K : Nat) : Int) := by unfold wrapD; rw [Z.good.ln.ki, hkl]; rfl
  refine ⟨by unfold chD ch3; rw [List.length_set, List.length_set, lK], fun q q0 q1 => ?_⟩
  unfold chD ch3
  have gk := gK K 0 rfl
  have z0 : (n : Int) + ((0 : Nat) : Int) = n := Int.add_zero _
  have hb2 : (chK S pre btw b (keptL S btw).length).getD b.toNat [] = kidsOf S b := by
    rw [hkl, gk b b0, if_neg (fun h => Int.not_lt.mpr h.1 (z0.symm ▸ b1)), g2 b b0, if_neg (ne_ge (Int.le_of_lt xb) hix), if_neg (Int.not_le.mpr b1), Z.bself]
  rw [hb2, hw, getI_set (n + K + 1) _ _ (by rw [List.length_set, lK]) b0 (nK _ b1) q0, getI_set _ _ _ (lK _) (Int.natCast_nonneg _) (Int.ofNat_lt.mpr (Nat.lt_succ_self _)) q0, hkl, gk q q0, g2 q q0]
  unfold EK
  by_cases e1 : q = b
  · rw [if_pos e1, if_pos e1]
  · rw [if_neg e1, if_neg e1]
    by_cases e2 : q = ((n + K : Nat) : Int)
    · rw [if_pos e2, if_pos e2]
    · rw [if_neg e2, if_neg e2]
      by_cases e3 : (n : Int) ≤ q
      · rw [if_pos (show (n : Int) + ((0 : Nat) : Int) ≤ q ∧ q < (n : Int) + (K : Nat) by k_extra "o m oz"), if_pos e3]
      · rw [if_neg (show ¬ ((n : Int) + ((0 : Nat) : Int) ≤ q ∧ q < (n : Int) + (K : Nat)) from fun h => e3 (z0 ▸ h.1)), if_neg e3]
        by_cases e4 : q = i
        · rw [if_pos e4, if_neg e3]
        · rw [if_neg e4, if_neg e3]
theorem filt_split : ∀ {l : List Int} {x : Int} (k : Nat), l.count x ≤ 1 → x ∈ l → k ≤ l.length →
    (l.take k).filter (fun y => !decide (y = x)) = (l.erase x).take (if l.idxOf x < k then k - 1 else k) ∧ (l.drop k).filter (fun y => !decide (y = x)) = (l.erase x).drop (if l.idxOf x < k then k - 1 else k)
  | a :: l, x, 0, hc, hx, _ => by
    rw [if_neg (by k_extra "o m oz")]
    refine ⟨rfl, ?_⟩
    rw [List.drop_zero, List.drop_zero, erase_filter hc]
  | a :: l, x, k + 1, hc, hx, hk => by
    by_cases e : a = x
    · subst e
      rw [List.count_cons_self] at hc
      have hn : a ∉ l := fun hm => by have := List.count_pos_iff.mpr hm; k_extra "o m oz"
      rw [List.idxOf_cons_self, if_pos (by k_extra "o m oz"), List.erase_cons_head, Nat.add_sub_cancel, List.take_succ_cons, List.drop_succ_cons, List.filter_cons, if_neg (by simp)]
      exact ⟨filter_ne_self fun h => hn (List.mem_of_mem_take h), filter_ne_self fun h => hn (List.mem_of_mem_drop h)⟩
    · rw [List.count_cons_of_ne e] at hc
      have hx2 : x ∈ l := (List.mem_cons.mp hx).resolve_left (Ne.symm e)
      obtain ⟨h1, h2⟩ := filt_split (l := l) (x := x) k hc hx2 (by simpa using hk)
      rw [idx_cons_ne e, List.erase_cons_tail (by simpa using e), List.take_succ_cons, List.drop_succ_cons, List.filter_cons, if_pos (by simpa using e), h1, h2]
      by_cases hlt : l.idxOf x < k
      · rw [if_pos hlt, if_pos (by k_extra "o m oz"), show k + 1 - 1 = (k - 1) + 1 by k_extra "o m oz", List.take_succ_cons, List.drop_succ_cons]
        exact ⟨rfl, rfl⟩
      · rw [if_neg hlt, if_neg (by k_extra "o m oz"), List.take_succ_cons, List.drop_succ_cons]
        exact ⟨rfl, rfl⟩
end

section
variable {S : St} {n : Nat} {pre : List Int} {x : Int} {btw : List Int} {b : Int} {post : List Int} {T : St} {last mark : Int} {r : Nat}
structure Eq10 (F G : St) : Prop where
  st : F.stack = G.stack
  fm : F.fmt = G.fmt
  ki : F.kinds = G.kinds
  sp : F.spaces = G.spaces
  na : F.names = G.names
  ar : F.attrs = G.attrs
  te : F.texts = G.texts
  pa : F.parents = G.parents
  ch : F.children = G.children
  co : F.contents = G.contents
theorem fin_stack {c : Nat} (h1 : x ∉ pre) (h2 : b ∉ pre ++ cps n c) (m : Int) :
    putIn ((pre ++ x :: (cps n c ++ b :: post)).erase x) (((pre ++ x :: (cps n c ++ b :: post)).erase x).idxOf b + 1) m = ((pre ++ (cps n c ++ [b])) ++ [m]) ++ post := by
  rw [erase_mid h1, show pre ++ (cps n c ++ b :: post) = (pre ++ cps n c) ++ b :: post by simp, idx_mid h2]
  have e : (pre ++ cps n c) ++ b :: post = (pre ++ cps n c ++ [b]) ++ post := by simp
  unfold putIn
  rw [e, List.take_left' (by simp only [List.length_append, List.length_cons, List.length_nil]), List.drop_left' (by simp only [List.length_append, List.length_cons, List.length_nil])]
  simp
theorem up_more {M : St} {x i N : Int} {l : List Int} {k : Nat} (e : par M x = i) (i0 : 0 ≤ i) (iN : i < N) (hN : N ≤ M.parents.length) (hu : Up M i l) (hl : l.length ≤ k) (hr : ∀ y ∈ l, 0 ≤ y ∧ y < N) :
    ∃ l, Up M x l ∧ l.length ≤ k + 1 ∧ ∀ y ∈ l, 0 ≤ y ∧ y < N := by
  subst e
  exact ⟨_, Up.up i0 (Int.lt_of_lt_of_le iN hN) hu, Nat.succ_le_succ hl, fun y hy => (List.mem_cons.mp hy).elim (fun e => e ▸ ⟨i0, iN⟩) (hr y)⟩
end
namespace E_move_all
noncomputable def St_ (S : St) (n : Nat) (pre : List Int) (x : Int) (btw : List Int) (b : Int) (post : List Int) (T : St) (last : Int) (mark : Int) (r : Nat) : Prop :=
  ∀ (Z : Scene S n pre x btw b post) (J : Jn S n pre x btw b post [] T last mark r), MoveOk T last mark x b (lastD pre) ∧ Eq10 (finalS T last mark x b (lastD pre)) (wholeD S pre x btw b post)
noncomputable def v : St × Nat × (List Int) × Int × (List Int) × Int × (List Int) × St × Int × Int × Nat := @Classical.epsilon _ ⟨(({} : St), default, default, default, default, default, default, ({} : St), default, default, default)⟩ fun v => ¬ St_ v.1 v.2.1 v.2.2.1 v.2.2.2.1 v.2.2.2.2.1 v.2.2.2.2.2.1 v.2.2.2.2.2.2.1 v.2.2.2.2.2.2.2.1 v.2.2.2.2.2.2.2.2.1 v.2.2.2.2.2.2.2.2.2.1 v.2.2.2.2.2.2.2.2.2.2
@[irreducible] noncomputable def S : St := v.1
@[irreducible] noncomputable def n : Nat := v.2.1
@[irreducible] noncomputable def pre : List Int := v.2.2.1
@[irreducible] noncomputable def x : Int := v.2.2.2.1
@[irreducible] noncomputable def btw : List Int := v.2.2.2.2.1
@[irreducible] noncomputable def b : Int := v.2.2.2.2.2.1
@[irreducible] noncomputable def post : List Int := v.2.2.2.2.2.2.1
@[irreducible] noncomputable def T : St := v.2.2.2.2.2.2.2.1
@[irreducible] noncomputable def last : Int := v.2.2.2.2.2.2.2.2.1
@[irreducible] noncomputable def mark : Int := v.2.2.2.2.2.2.2.2.2.1
@[irreducible] noncomputable def r : Nat := v.2.2.2.2.2.2.2.2.2.2
theorem core : St_ S n pre x btw b post T last mark r := by
  intro Z J
  have I := J.inn
  obtain ⟨la0, la1, laN, lE, lC⟩ := I.la2 Z
  obtain ⟨i, bf, ep, es, i0, ix, hbf⟩ := place_spot Z I
  have k3 := kp_len (S := S) (d := btw.reverse)
  have n1 := Z.n1
  have bF := Z.fr Z.bs
  have xF := Z.fr Z.xs
  have xb := Z.xb
  have ZT := I.sized Z
  have stl := (I.stl Z).1
  have fml := I.fml Z
  have hst := I.st0
  have p0 := Z.p0
  have hrow := row_eq Z
  have hleft := left_eq Z I
  have hmark := mark_eq Z I
  have htold := row0 Z I
  have hbx := Z.bx
  have hxm := I.x_mem Z
  have hpl : lastD pre ∈ pre := getD_mem (by k_extra "o m oz")
  have hplF := Z.fr (Z.prs hpl)
  obtain ⟨A, eA⟩ : ∃ A, A = insertAt T i last bf := ⟨_, rfl⟩
  have hA : afterIns T last (lastD pre) = A := by unfold afterIns; rw [ep, eA]
  obtain ⟨CA, pA, kA⟩ := coh_insAt (b := bf) I.coh la0 la1 i0 (by k_extra "o m oz")
  obtain ⟨ZA, sA⟩ := sized_insAt ZT i last bf
  rw [← eA] at CA pA kA ZA sA
  have ekA : A.kinds.length = n + (kp S btw.reverse).length := ZA.ln.ki
  have CT := I.coh
  generalize hc : (kp S btw.reverse).length = c at *
  have b1 := bF.2
  have b0 : 0 ≤ b := by k_extra "o m oz"
  have x0 : 0 ≤ x := by k_extra "o m oz"
  have i1 : i < n := by k_extra "o m oz"
  have nN : (n : Int) ≤ ((n + c : Nat) : Int) := by k_extra "o m oz"
  have NN1 : ((n + c : Nat) : Int) < ((n + c + 1 : Nat) : Int) := by k_extra "o m oz"
  have N0 : 0 ≤ ((n + c : Nat) : Int) := Int.natCast_nonneg _
  have bN := Int.lt_of_lt_of_le b1 nN
  have iN := Int.lt_of_lt_of_le i1 nN
  have xN := Int.lt_of_lt_of_le xF.2 nN
  have bN1 := Int.lt_trans bN NN1
  have iN1 := Int.lt_trans iN NN1
  have bN' : ¬ b = ((n + c : Nat) : Int) := Int.ne_of_lt bN
  have bi : ¬ b = i := by k_extra "o m oz"
  have nmx : nameOf A x = nameOf S x := by
    have : nameOf A x = nameOf T x := by unfold nameOf; rw [sA.na]
    rw [this]; exact I.nm Z (by k_extra "o m oz") xF.2
  have atx : attrOf A x = attrOf S x := by
    have : attrOf A x = attrOf T x := by unfold attrOf; rw [sA.ar]
    rw [this]; exact I.at' Z (by k_extra "o m oz") xF.2
  obtain ⟨W, eW⟩ : ∃ W, W = addN A sElem sHtml (nameOf S x) (attrOf S x) Str.empty := ⟨_, rfl⟩
  have hW : copyS A x = W := by
    unfold copyS
    rw [nmx, atx, eW]
    exact if_neg fun q => low_ntempl _ (Z.lnm x (.head _)).1 q.2
  have CW : Coh W (n + c + 1) := by rw [eW]; exact CA.addN
  have pW : ∀ y : Int, 0 ≤ y → par W y = if y = ((n + c : Nat) : Int) then -1 else par A y := fun y y0 => by rw [eW]; exact par_addN CA y0
  have kW : ∀ y : Int, 0 ≤ y → kidsOf W y = if y = ((n + c : Nat) : Int) then [] else kidsOf A y := fun y y0 => by rw [eW]; exact kids_addN CA y0
  -- the children of A
  have kA2 : ∀ q : Int, 0 ≤ q → q < n → kidsOf A q = if q = i then putIn ((kidsOf S i).erase b) (if bf = -1 then ((kidsOf S i).erase b).length else ((kidsOf S i).erase b).idxOf bf) last else (kidsOf S q).erase b := fun q q0 q1 => by
    rw [kA q q0 (by k_extra "o m oz"), lE i i0 (by k_extra "o m oz"), lE q q0 q1]
  have kA3 : ∀ q : Int, (n : Int) ≤ q → q < ((n + c : Nat) : Int) → kidsOf A q = [if q = n then b else q - 1] := fun q q0 q1 => by
    obtain ⟨j, hj⟩ : ∃ j : Nat, q = (n : Int) + j := ⟨(q - n).toNat, by k_extra "o m oz"⟩
    rw [kA q (by k_extra "o m oz") q1, if_neg (by k_extra "o m oz"), hj, lC j (by k_extra "o m oz")]
    congr 1
    by_cases e : j = 0
    · rw [if_pos e, if_pos (by k_extra "o m oz")]
    · rw [if_neg e, if_neg (by k_extra "o m oz")]
  have hkb : kidsOf W b = kidsOf S b := by
    rw [kW b (by k_extra "o m oz"), if_neg (by k_extra "o m oz"), kA2 b (by k_extra "o m oz") bF.2, if_neg (by k_extra "o m oz"), Z.bself]
  have hkbr : ∀ y ∈ kidsOf S b, b < y ∧ y < n := fun y hy => by
    have h1 := Z.good.tr.coh.up b y (by k_extra "o m oz") bF.2 hy
    have h2 := Z.good.tr.asc y h1.1 h1.2.1
    rw [h1.2.2] at h2
    exact ⟨h2, h1.2.1⟩
  have mv0 := move_facts (N := n + c + 1) (p := b) (q := ((n + c : Nat) : Int)) (by k_extra "o m oz") (by k_extra "o m oz") (by k_extra "o m oz") (by k_extra "o m oz") (by k_extra "o m oz")
  obtain ⟨CM, mb, mm, mo, mp⟩ := mv0 (kidsOf S b) [] W CW (by rw [hkb, List.append_nil])
  obtain ⟨M, eM⟩ : ∃ M, M = moveKids W ((n + c : Nat) : Int) (kidsOf S b) := ⟨_, rfl⟩
  rw [← eM] at CM mb mm mo mp
  have pMm : par M ((n + c : Nat) : Int) = -1 := by
    rw [mp _ (by k_extra "o m oz"), if_neg (fun h => by have := hkbr _ h; k_extra "o m oz"), pW _ (by k_extra "o m oz"), if_pos rfl]
  obtain ⟨R, eR⟩ : ∃ R, R = insertE M b ((n + c : Nat) : Int) := ⟨_, rfl⟩
  have CR : Coh R (n + c + 1) := by rw [eR]; exact CM.insE (by k_extra "o m oz") (by k_extra "o m oz") (by k_extra "o m oz") (by k_extra "o m oz")
  have hR : afterWrap T last x b (lastD pre) = R := by
    have e : afterWrap T last x b (lastD pre) = insertE (moveKids (copyS (afterIns T last (lastD pre)) x) (afterIns T last (lastD pre)).kinds.length (kidsOf (copyS (afterIns T last (lastD pre)) x) b)) b (afterIns T last (lastD pre)).kinds.length := rfl
    rw [e, hA, hW, ekA, hkb, eR, eM]
  have noM : ∀ q : Int, 0 ≤ q → q < ((n + c + 1 : Nat) : Int) → (kidsOf M q).erase ((n + c : Nat) : Int) = kidsOf M q := fun q q0 q1 => List.erase_of_not_mem fun hm => by
    have := (CM.up q _ q0 q1 hm).2.2
    rw [pMm] at this; k_extra "o m oz"
  have sW : Same A { W with kinds := A.kinds, spaces := A.spaces, names := A.names, attrs := A.attrs, texts := A.texts } := by rw [eW]; exact ⟨rfl, rfl, rfl, rfl, rfl, rfl, rfl, rfl, rfl, rfl⟩
  have sM : Same W M := by rw [eM]; exact same_move _ _ _
  have sR : Same M R := by rw [eR]; exact same_insE _ _ _
  have Rst : R.stack = T.stack := ((sR.st.trans sM.st).trans sW.st).trans sA.st
  have Rfm : R.fmt = T.fmt := ((sR.fm.trans sM.fm).trans sW.fm).trans sA.fm
  have Rco : R.contents = S.contents := (((sR.co.trans sM.co).trans sW.co).trans sA.co).trans I.co
  have Wki : W.kinds = T.kinds ++ [sElem] := by rw [eW, ← sA.ki]; rfl
  have Wsp : W.spaces = T.spaces ++ [sHtml] := by rw [eW, ← sA.sp]; rfl
  have Wna : W.names = T.names ++ [nameOf S x] := by rw [eW, ← sA.na]; rfl
  have War : W.attrs = T.attrs ++ [attrOf S x] := by rw [eW, ← sA.ar]; rfl
  have Wte : W.texts = T.texts ++ [Str.empty] := by rw [eW, ← sA.te]; rfl
  have bne : ∀ y ∈ pre, y ≠ b := fun y hy => (Z.preb hy).2
  have cpb : b ∉ pre ++ cps n c := fun h => by
    rcases List.mem_append.mp h with h | h
    · exact hbx.2.1 h
    · have := cps_mem h; k_extra "o m oz"
  have hUi : ∀ (X : St), S.parents.length ≤ X.parents.length → (∀ y : Int, 0 ≤ y → y < x → par X y = par S y) → ∃ l, Up X i l ∧ l.length ≤ 100 ∧ ∀ y ∈ l, 0 ≤ y ∧ y < i := fun X hX hp => by
    obtain ⟨l, hu, hl, hr⟩ := up_asc Z.good.tr i.toNat i rfl i0 (by k_extra "o m oz")
    refine ⟨l, hu.agree hX fun y hy => ?_, by k_extra "o m oz", hr⟩
    rcases hy with rfl | hy
    · exact hp _ i0 ix
    · have := hr y hy; exact hp y this.1 (by k_extra "o m oz")
  have parT : ∀ y : Int, 0 ≤ y → y < x → par T y = par S y := fun y y0 y1 => by
    rw [I.pa y y0 (by k_extra "o m oz"), if_neg (fun q => by k_extra "o m oz")]
  have hz0 : 0 < T.stack.length := by rw [hst, List.length_append]; k_extra "o m oz"
  constructor
  · refine ⟨⟨_, ZT, by k_extra "o m oz", by k_extra "o m oz", ?_⟩, hz0, ?_, ?_, ?_, ?_, ?_, ?_, ?_, ?_, ?_, ?_, ?_, ?_, ?_, ?_, ?_, ?_⟩
    · intro y hy
      rw [hst] at hy
      rcases List.mem_append.mp hy with hy | hy
      · have := Z.fr (Z.prs hy); k_extra "o m oz"
      · rcases List.mem_cons.mp hy with rfl | hy
        · k_extra "o m oz"
        · rcases List.mem_append.mp hy with hy | hy
          · have := cps_mem hy; k_extra "o m oz"
          · have := Z.fr (Z.lst (.tail _ (List.mem_append_right _ hy))); k_extra "o m oz"
    · intro y hy ht
      rw [hst] at hy
      rcases List.mem_append.mp hy with hy | hy
      · have f := Z.fr (Z.prs hy)
        rw [parT y (by k_extra "o m oz") (Z.preb hy).1]
        exact (Z.good.st y (Z.prs hy)).2.2.1
      · have := I.nohold Z (I.tail_low Z (by rw [hc]; exact hy))
        rw [this.1] at ht; cases ht
    · rw [ep]
      obtain ⟨l, hu, hl, hr⟩ := hUi T (by rw [CT.pa, Z.good.ln.pa]; k_extra "o m oz") parT
      exact ⟨l, insOk_gen CT (by k_extra "o m oz") la0 la1 i0 (by show i < _; k_extra "o m oz") hu (by k_extra "o m oz") (by show last ≠ i; k_extra "o m oz") fun hm => by have := hr _ hm; k_extra "o m oz"⟩
    · rw [ep]
      intro h
      obtain ⟨hm, hp⟩ := hbf h
      have f := Z.fr (Z.prs hm)
      have hd := Z.good.tr.coh.dn bf (by k_extra "o m oz") f.2 (by rw [hp]; k_extra "o m oz")
      rw [hp] at hd
      have hk : bf ∈ kidsOf T i := by
        rw [I.kd i i0 (by k_extra "o m oz")]
        split
        · exact (List.mem_erase_of_ne (bne _ hm)).mpr hd.2.2
        · exact hd.2.2
      have hne : bf ≠ last := by have := bne _ hm; k_extra "o m oz"
      refine ⟨hne, hk, ?_⟩
      rw [kids_unlink CT la0 la1 i0 (by show i < _; k_extra "o m oz")]
      exact (List.mem_erase_of_ne hne).mpr hk
    · rw [hA]; exact ⟨_, ZA, by k_extra "o m oz", by k_extra "o m oz", by k_extra "o m oz", by k_extra "o m oz"⟩
    · rw [hA, hW, ekA]; exact .top (by rw [pW _ (by k_extra "o m oz"), if_pos rfl])
    · rw [hA, hW, ekA]
      refine ⟨n + c + 1, ?_, by k_extra "o m oz", by k_extra "o m oz"⟩
      rw [eW]; exact ZA.ln.addN (by k_extra "o m oz") _ _ _ _ _
    · rw [hA, hW, hkb]
      have := kids_len Z.good.tr.coh (p := b) (by k_extra "o m oz") bF.2
      k_extra "o m oz"
    · rw [hA, hW, ekA, hkb]
      intro pr c' po e
      have hcm := hkbr c' (by rw [e]; simp)
      obtain ⟨C2, -, -, -, q5⟩ := mv0 pr (c' :: po) W CW (by rw [hkb, e])
      refine ⟨[], insOk_gen C2 (by k_extra "o m oz") (by k_extra "o m oz") (by k_extra "o m oz") (by k_extra "o m oz") (by k_extra "o m oz") (.top ?_) (Nat.zero_le _) (by k_extra "o m oz") (by simp)⟩
      rw [q5 _ (by k_extra "o m oz"), if_neg (fun h => by have := hkbr ((n + c : Nat) : Int) (by rw [e]; exact List.mem_append_left _ h); k_extra "o m oz"), pW _ (by k_extra "o m oz"), if_pos rfl]
    · rw [hA, hW, ekA, hkb, ← eM]
      -- the chain above b
      have pM : ∀ y : Int, 0 ≤ y → y ≠ ((n + c : Nat) : Int) → y ∉ kidsOf S b → par M y = if y = last then i else par T y := fun y y0 hy hn => by
        rw [mp y y0, if_neg hn, pW y y0, if_neg hy, pA y y0]
      obtain ⟨l, hu, hl, hr⟩ := hUi M (by rw [CM.pa, Z.good.ln.pa]; k_extra "o m oz") (fun y y0 y1 => by
        rw [pM y y0 (by k_extra "o m oz") (fun h => by have := hkbr y h; k_extra "o m oz"), if_neg (by k_extra "o m oz"), parT y y0 y1])
      have hMl : ((n + c : Nat) : Int) ≤ M.parents.length := by rw [CM.pa]; exact Int.le_of_lt NN1
      have hr2 : ∀ y ∈ l, 0 ≤ y ∧ y < ((n + c : Nat) : Int) := fun y hy => ⟨(hr y hy).1, Int.lt_trans (hr y hy).2 iN⟩
      have hk2 : ∀ {y : Int}, y ∈ kidsOf S b → ¬ (n : Int) ≤ y := fun h => Int.not_le.mpr (hkbr _ h).2
      have hnn : ∀ j : Nat, 0 ≤ (n : Int) + j ∧ (n : Int) ≤ (n : Int) + j := fun j => ⟨Int.natCast_nonneg (n + j), Int.le_add_of_nonneg_right (Int.natCast_nonneg j)⟩
      have hlast : ¬ c = 0 → last = (n : Int) + c - 1 := fun h => by rw [I.la, hc, if_neg h]
      have chain : ∀ k j : Nat, k + 1 + j = c → ∃ l, Up M ((n : Int) + j) l ∧ l.length ≤ 101 + k ∧ ∀ y ∈ l, 0 ≤ y ∧ y < ((n + c : Nat) : Int) := fun k => by
        induction k with
        | zero =>
          intro j h
          have e := pM ((n : Int) + j) (hnn j).1 (by k_extra "o m oz") fun h => hk2 h (hnn j).2
          rw [if_pos (by rw [hlast (by k_extra "o m oz")]; k_extra "o m oz")] at e
          exact up_more e i0 iN hMl hu hl hr2
        | succ k ih =>
          intro j h
          obtain ⟨l2, u2, z2, r2⟩ := ih (j + 1) (by k_extra "o m oz")
          have e := pM ((n : Int) + j) (hnn j).1 (by k_extra "o m oz") fun h => hk2 h (hnn j).2
          rw [if_neg (by rw [hlast (by k_extra "o m oz")]; k_extra "o m oz"), I.pc j (by rw [hc]; k_extra "o m oz"), hc, if_neg (by k_extra "o m oz")] at e
          exact up_more (e.trans (Int.add_assoc (n : Int) j 1)) (hnn (j + 1)).1 (by k_extra "o m oz") hMl u2 z2 r2
      have hub : ∃ l, Up M b l ∧ l.length ≤ 200 ∧ ∀ y ∈ l, 0 ≤ y ∧ y < ((n + c : Nat) : Int) := by
        have e := pM b b0 bN' fun h => Int.lt_irrefl _ (hkbr _ h).1
        by_cases h0 : c = 0
        · rw [if_pos (show b = last by rw [I.la, hc, if_pos h0])] at e
          obtain ⟨l, h1, h2, h3⟩ := up_more e i0 iN hMl hu hl hr2
          exact ⟨l, h1, by k_extra "o m oz", h3⟩
        · obtain ⟨l2, u2, z2, r2⟩ := chain (c - 1) 0 (by k_extra "o m oz")
          rw [if_neg (by rw [hlast h0]; k_extra "o m oz"), I.pa b b0 b1, if_pos ⟨rfl, by rw [hc]; exact h0⟩] at e
          obtain ⟨l, h1, h2, h3⟩ := up_more (e.trans (Int.add_zero _).symm) (hnn 0).1 (by k_extra "o m oz") hMl u2 z2 r2
          exact ⟨l, h1, by k_extra "o m oz", h3⟩
      obtain ⟨l3, u3, z3, r3⟩ := hub
      exact ⟨l3, insOk_gen CM (by k_extra "o m oz") (by k_extra "o m oz") (by k_extra "o m oz") (by k_extra "o m oz") (by k_extra "o m oz") u3 (by k_extra "o m oz") (by k_extra "o m oz") fun h => by have := r3 _ h; k_extra "o m oz"⟩
    · rw [hR, Rfm]; exact hxm
    · rw [hR, Rfm]; k_extra "o m oz"
    · rw [← hmark]; unfold markD; split <;> k_extra "o m oz"
    · rw [hR, Rfm]
      have hx3 := List.idxOf_lt_length_of_mem hxm
      have hm2 : mark ≤ T.fmt.length := by
        rw [I.mrk, hc]
        split
        · k_extra "o m oz"
        · have := List.idxOf_lt_length_of_mem (I.head_mem Z (by rw [hc]; assumption)); k_extra "o m oz"
      split <;> k_extra "o m oz"
    · rw [hR, Rst, hst]; simp
    · rw [hR, Rst]; k_extra "o m oz"
    · rw [hR, Rst, hst, erase_mid hbx.2.2.1]; simp
  · have hF : finalS T last mark x b (lastD pre) = { R with fmt := putIn (R.fmt.erase x) (if (R.fmt.idxOf x : Int) < mark then mark - 1 else mark).toNat ((n + c : Nat) : Int), stack := putIn (R.stack.erase x) ((R.stack.erase x).idxOf b + 1) ((n + c : Nat) : Int) } := by
      unfold finalS
      rw [hR, hA, ekA]
    rw [hF]
    have hwr : wrapD S btw = ((n + c : Nat) : Int) := by unfold wrapD; rw [Z.good.ln.ki, kept_len, hc]; k_extra "o m oz"
    have hfr : freshD S btw x = kp S btw.reverse ++ [x] := by unfold freshD; rw [kept_eq, List.reverse_reverse]
    have hfl : (freshD S btw x).length = c + 1 := by rw [hfr, List.length_append, hc]; rfl
    obtain ⟨dl, dg⟩ := chD_get Z I i0 ix (es (ch1 S btw b))
    have hch : R.children = chD S pre btw b := by
      refine ext_getD [] (by rw [CR.ch, dl, hc]) fun q hq => ?_
      rw [CR.ch] at hq
      have hq2 := dg (q : Int) (by k_extra "o m oz") (by rw [hc]; k_extra "o m oz")
      rw [Int.toNat_natCast] at hq2
      rw [hq2]
      have e : R.children.getD q [] = kidsOf R (q : Int) := by unfold kidsOf; rw [Int.toNat_natCast]
      rw [e, eR, kids_insE CM (by k_extra "o m oz") (by k_extra "o m oz") (by k_extra "o m oz") (by k_extra "o m oz") (by k_extra "o m oz") (by k_extra "o m oz"), noM _ (by k_extra "o m oz") (by k_extra "o m oz"), noM _ (by k_extra "o m oz") (by k_extra "o m oz")]
      unfold EK
      rw [hc]
      by_cases e1 : (q : Int) = b
      · rw [if_pos e1, if_pos e1, mb]; rfl
      · rw [if_neg e1, if_neg e1]
        by_cases e2 : (q : Int) = ((n + c : Nat) : Int)
        · rw [if_pos e2, e2, mm, kW _ (by k_extra "o m oz"), if_pos rfl]; rfl
        · rw [if_neg e2, mo _ (by k_extra "o m oz") (by k_extra "o m oz") e1 e2, kW _ (by k_extra "o m oz"), if_neg e2]
          by_cases e3 : (n : Int) ≤ q
          · rw [if_pos e3, kA3 _ e3 (by k_extra "o m oz")]
          · rw [if_neg e3, kA2 _ (by k_extra "o m oz") (by k_extra "o m oz")]
            by_cases e4 : (q : Int) = i
            · rw [if_pos e4, if_pos e4]
              congr 1
              have e5 : (ch1 S btw b).getD i.toNat [] = (kidsOf S i).erase b := by
                obtain ⟨pb0, pb1, pb2⟩ := Z.pbr
                unfold ch1
                rw [getD_set _ _ _ _ _ (by unfold ch0; rw [List.length_append, Z.good.ln.ch]; k_extra "o m oz"), Z.ch0l pb0 pb1, Z.ch0l i0 (by k_extra "o m oz")]
                split
                · rw [show i = par S b by k_extra "o m oz"]
                · exact (List.erase_of_not_mem fun hm => by
                    have := (Z.good.tr.coh.up i b i0 (by k_extra "o m oz") hm).2.2
                    k_extra "o m oz").symm
              rw [e5]
              split <;> rw [Int.toNat_natCast]
            · rw [if_neg e4, if_neg e4]
    refine ⟨?_, ?_, ?_, ?_, ?_, ?_, ?_, ?_, hch, Rco⟩
    · show putIn (R.stack.erase x) ((R.stack.erase x).idxOf b + 1) _ = ((pre ++ rowD S btw b) ++ [wrapD S btw]) ++ post
      rw [Rst, hst, fin_stack hbx.2.2.1 cpb, hrow, hwr]
    · show putIn (R.fmt.erase x) _ _ = itemsD S x btw
      unfold itemsD
      rw [hleft, hmark, hwr, Rfm]
      have hcx : T.fmt.count x ≤ 1 := by
        have e : cpi n (kp S btw.reverse) x = x := cpi_out Z.kx
        rw [I.fm]
        have := count_map' (f := cpi n (kp S btw.reverse)) (a := x) (l := S.fmt.filter fun y => !decide (y ∈ btw.reverse.drop 3)) fun y _ q => cpi_inj xF.2 (q.trans e)
        rw [e] at this
        rw [this]
        exact Nat.le_trans (count_filter_le _ _ _) (Z.good.fc x (by k_extra "o m oz"))
      have hm0 : 0 ≤ mark := by rw [← hmark]; unfold markD; split <;> k_extra "o m oz"
      have hm2 : mark ≤ T.fmt.length := by
        rw [I.mrk, hc]
        split
        · have := List.idxOf_lt_length_of_mem hxm; k_extra "o m oz"
        · have := List.idxOf_lt_length_of_mem (I.head_mem Z (by rw [hc]; assumption)); k_extra "o m oz"
      obtain ⟨f1, f2⟩ := filt_split (l := T.fmt) (x := x) mark.toNat hcx hxm (by k_extra "o m oz")
      have hmx : ((n + c : Nat) : Int) ≠ x := by k_extra "o m oz"
      have hfx : [((n + c : Nat) : Int)].filter (fun y => !decide (y = x)) = [((n + c : Nat) : Int)] := by rw [List.filter_cons, if_pos (by simpa using hmx), List.filter_nil]
      rw [List.filter_append, List.filter_append, f1, f2, hfx]
      have e9 : (if (T.fmt.idxOf x : Int) < mark then mark - 1 else mark).toNat = if T.fmt.idxOf x < mark.toNat then mark.toNat - 1 else mark.toNat := by
        by_cases h : (T.fmt.idxOf x : Int) < mark
        · rw [if_pos h, if_pos (Int.lt_toNat.mpr h)]; exact Int.pred_toNat _
        · rw [if_neg h, if_neg (fun q => h (Int.lt_toNat.mp q))]
      rw [e9]
      unfold putIn
      simp
    · show R.kinds = S.kinds ++ _
      rw [(sR.ki.trans sM.ki).trans Wki, I.ki, hc, hfl, List.append_assoc, List.replicate_succ']
    · show R.spaces = S.spaces ++ _
      rw [(sR.sp.trans sM.sp).trans Wsp, I.sp, hc, hfl, List.append_assoc, List.replicate_succ']
    · show R.names = S.names ++ _
      rw [(sR.na.trans sM.na).trans Wna, I.na, hfr, List.append_assoc, List.map_append]; rfl
    · show R.attrs = S.attrs ++ _
      rw [(sR.ar.trans sM.ar).trans War, I.ar, hfr, List.append_assoc, List.map_append]; rfl
    · show R.texts = S.texts ++ _
      rw [(sR.te.trans sM.te).trans Wte, I.te, hc, hfl, List.append_assoc, List.replicate_succ']
    · show R.parents = parentsOf (chD S pre btw b)
      rw [← hch]; exact parents_of CR
theorem all (v : St × Nat × (List Int) × Int × (List Int) × Int × (List Int) × St × Int × Int × Nat) : St_ v.1 v.2.1 v.2.2.1 v.2.2.2.1 v.2.2.2.2.1 v.2.2.2.2.2.1 v.2.2.2.2.2.2.1 v.2.2.2.2.2.2.2.1 v.2.2.2.2.2.2.2.2.1 v.2.2.2.2.2.2.2.2.2.1 v.2.2.2.2.2.2.2.2.2.2 := eps_all ⟨v⟩ (P := fun v => St_ v.1 v.2.1 v.2.2.1 v.2.2.2.1 v.2.2.2.2.1 v.2.2.2.2.2.1 v.2.2.2.2.2.2.1 v.2.2.2.2.2.2.2.1 v.2.2.2.2.2.2.2.2.1 v.2.2.2.2.2.2.2.2.2.1 v.2.2.2.2.2.2.2.2.2.2) (by with_unfolding_all exact core) v
end E_move_all
section
variable {S : St} {n : Nat} {pre : List Int} {x : Int} {btw : List Int} {b : Int} {post : List Int} {T : St} {last mark : Int} {r : Nat}
theorem move_all (Z : Scene S n pre x btw b post) (J : Jn S n pre x btw b post [] T last mark r) :
    MoveOk T last mark x b (lastD pre) ∧ Eq10 (finalS T last mark x b (lastD pre)) (wholeD S pre x btw b post) :=
  E_move_all.all (S, n, pre, x, btw, b, post, T, last, mark, r) Z J
end

theorem pairs_any {p1 p2 : Program} {w1 w2 : World} {es : List DictEntry} {kvs : List (Int × Value)} (h : Pairs (PySem.intKind p1 w1) es kvs) : Pairs (PySem.intKind p2 w2) es kvs := by
  induction h with
  | nil => exact .nil
  | cons a b _ ih => exact .cons a b ih
theorem idict_any {p1 p2 : Program} {w1 w2 : World} {o : Obj} {kvs : List (Int × Value)} (h : o.IsDictOf (PySem.intKind p1 w1) kvs) : o.IsDictOf (PySem.intKind p2 w2) kvs := by
  obtain ⟨es, ep, h1, h2, h3, h4, h5⟩ := h
  exact ⟨es, ep, h1, h2, fun e he => let ⟨k, a, b⟩ := h3 e he; ⟨k, a, b⟩, pairs_any h4, h5⟩
theorem value_at : ∀ {pre : List (Int × Value)} {k : Int} {v : Value} {post : List (Int × Value)}, ((pre ++ (k, v) :: post).map (·.1)).Nodup → valueAt (pre ++ (k, v) :: post) k = some v
  | [], k, v, post, _ => by unfold valueAt; simp
  | (a, u) :: pre, k, v, post, h => by
    rw [List.cons_append, List.map_cons, List.nodup_cons] at h
    have hne : a ≠ k := fun e => h.1 (by rw [e]; simp)
    have ih := value_at h.2
    unfold valueAt at ih ⊢
    rw [List.cons_append, List.find?_cons]
    simp only [hne, decide_false]
    exact ih
section
variable {A : Around} {s : Shared}
theorem hits_self {kb : List (Int × Value)} : ∀ {c : List (Int × Int)} {ka pre rest : List (Int × Value)}, FlatPairs PyData.int ka (encC c) → FlatPairs PyData.int rest (encC c) → kb = pre ++ rest → (kb.map (·.1)).Nodup → KeqHits A s kb ka true
  | [], ka, pre, rest, ha, _, _, _ => by
    generalize hD : encC [] = D at ha
    cases ha with
    | nil => exact .nil
    | cons _ _ => cases hD
  | (a, b) :: c, ka, pre, rest, ha, hb, e, hn => by
    generalize hD : encC ((a, b) :: c) = D at ha hb
    cases ha with
    | nil => cases hD
    | @cons k v d kvs D' f r =>
      cases hb with
      | cons f2 r2 =>
        rename_i v2 kvs2
        have hD' : (PyData.int a, PyData.int b) :: encC c = (PyData.int k, d) :: D' := hD
        injection hD' with q1 q2
        injection q1 with q3 q4
        subst q4
        subst q2
        have hv : valueAt kb k = some v2 := by rw [e]; exact value_at (by rw [← e]; exact hn)
        have hq := keq_flat (A := A) (s := s) f f2
        have he : PyData.eqv (.int b) (.int b) = true := by simp [PyData.eqv]
        rw [he] at hq
        exact .hit hv hq (hits_self r r2 (pre := pre ++ [(k, v2)]) (by rw [e]; simp) hn)
theorem dict_eqAt {prog : Program} {w : World} {news : List (Addr × Obj)} {h₀ : Heap} {L : Addr} {a b : Addr} {oa ob : Obj} {c : List (Int × Int)} (N : News h₀ L s.heap news) (ma : (a, oa) ∈ news) (mb : (b, ob) ∈ news)
    (da : IDict prog w oa c) (db : IDict prog w ob c) (la : (a == sysModules) = false) (lb : (b == sysModules) = false) (hu : A.units < cLine) : SeqAt.EqAt A s (.ref a) (.ref b) true := by
  by_cases hab : a = b
  · subst hab; exact SeqAt.EqAt.same _
  · refine SeqAt.EqAt.of_refs hab fun prog' w' E Q h => ?_
    obtain ⟨ka, ia, fa⟩ := da
    obtain ⟨kb, ib, fb⟩ := db
    have hn : (kb.map (·.1)).Nodup := by obtain ⟨_, _, _, _, _, _, q⟩ := ib; exact q
    have hl : ka.length = kb.length := fa.length.symm.trans fb.length
    have key := keq_pairs (prog := prog') (w := w') (A := A) (E := E) (Q := Q) N ma mb (idict_any ia) (idict_any ib) la lb hl hu (hits_self fa fb (pre := []) rfl hn) h
    exact key
section
variable {prog : Program} {w : World} {E : Value → Shared → Prop} {h₀ : Heap} {L a b : Addr} {news : List (Addr × Obj)} {Q : Value → Shared → Prop} {d : Nat}
theorem dat_eqAt {n₁ n₂ : List (Addr × Obj)} {v u : Value} {e : Dat} (N : News h₀ L s.heap news) (Da : DatIn n₁ v e) (sa : ∀ p ∈ n₁, p ∈ news) (Db : DatIn n₂ u e) (sb : ∀ p ∈ n₂, p ∈ news) (he : kqdOk 8 e = true) (hu : A.in1.units + 64 < cLine) : SeqAt.EqAt A.in1 s v u true := by
  obtain ⟨as, ra⟩ := kqd_in N 8 (Da.mono sa) he
  obtain ⟨bs, rb⟩ := kqd_in N 8 (Db.mono sb) he
  have l := kqd_lay 8 e he
  have sh : SeqAt.shaped (kqdP e) = true := by
    unfold SeqAt.shaped; rw [l.1, Bool.true_and]; exact decide_eq_true (Nat.le_trans l.2 (by decide))
  have q := keq_at (A := A) ra rb sh sh hu
  rw [(kqd_eqv 8 e e 8 he he).mpr rfl] at q
  exact q
theorem l_neD {n₁ n₂ : List (Addr × Obj)} {v u : Value} {e : Dat} (N : News h₀ L s.heap news) (Da : DatIn n₁ v e) (sa : ∀ p ∈ n₁, p ∈ news) (Db : DatIn n₂ u e) (sb : ∀ p ∈ n₂, p ∈ news) (he : kqdOk 8 e = true) (hu : A.units + 64 < cLine) (h : Q (.bool false) s) :
    wpAny (model prog w) A (compareOp .NotEq v u) Q E s := by
  obtain ⟨as, ra⟩ := kqd_in N 8 (Da.mono sa) he
  obtain ⟨bs, rb⟩ := kqd_in N 8 (Db.mono sb) he
  have l := kqd_lay 8 e he
  have sh : SeqAt.shaped (kqdP e) = true := by
    unfold SeqAt.shaped; rw [l.1, Bool.true_and]; exact decide_eq_true (Nat.le_trans l.2 (by decide))
  refine ne_dataH ra rb sh sh hu ?_
  rw [(kqd_eqv 8 e e 8 he he).mpr rfl]; exact h
theorem dats_at {n₁ : List (Addr × Obj)} : ∀ {us : List Value} {ds : List Dat} {j : Nat} {v : Value}, DatAll n₁ us ds → us[j]? = some v → ∃ e, ds[j]? = some e ∧ DatIn n₁ v e
  | _, _, _, _, .nil, h => by simp at h
  | _, _, 0, _, .cons hd _, h => by
    simp only [List.getElem?_cons_zero, Option.some.injEq] at h
    subst h; exact ⟨_, rfl, hd⟩
  | _, _, j + 1, _, .cons _ r, h => by
    simp only [List.getElem?_cons_succ] at h ⊢
    exact dats_at r h
theorem l_neW {n₁ n₂ : List (Addr × Obj)} {vs us : List Value} {ka kb : Nat} {S T : St} (N : News h₀ L s.heap news) (ma : (a, listOf vs.toArray ka) ∈ news) (mb : (b, listOf us.toArray kb) ∈ news) (Wa : WholeAt prog w n₁ vs S) (sa : ∀ p ∈ n₁, p ∈ news) (Wb : WholeAt prog w n₂ us T) (sb : ∀ p ∈ n₂, p ∈ news)
    (hd : datsOf S = datsOf T) (hc : S.contents = T.contents) (hk : ∀ e ∈ datsOf T, kqdOk 8 e = true) (hu : A.units + 100 < cLine) (h : Q (.bool false) s) : wpAny (model prog w) A (compareOp .NotEq (.ref a) (.ref b)) Q E s := by
  obtain ⟨va, Da, oa, rfl, da, mda, ia, la⟩ := Wa
  obtain ⟨vb, Db, ob, rfl, db, mdb, ib, lb⟩ := Wb
  rw [hd] at da
  rw [hc] at ia
  have l1 := da.length
  have l2 := db.length
  have hi : A.in1.units ≤ A.units + 10 := by unfold Around.in1; simp
  have key := SeqAt.RcNeAt.lists (A := A) (e := fun _ => true) (N.isList ma) (N.isList mb) (by simp [l1, l2]) (by (first | lia | omega)) (fun j h1 h2 => ?_)
  · have q := key prog w E Q
    have e : (List.range ((va ++ [Value.ref Da]).toArray.size)).all (fun _ => true) = true := by simp
    rw [e] at q
    exact q h
  · simp only [List.size_toArray, List.length_append, List.length_cons, List.length_nil] at h1 h2
    by_cases hj : j < va.length
    · have e1 : (va ++ [Value.ref Da]).toArray[j] = va[j] := by simp [hj]
      have e2 : (vb ++ [Value.ref Db]).toArray[j] = vb[j] := by simp [show j < vb.length by (first | lia | omega)]
      rw [e1, e2]
      obtain ⟨d1, g1, i1⟩ := dats_at da (List.getElem?_eq_getElem hj)
      obtain ⟨d2, g2, i2⟩ := dats_at db (List.getElem?_eq_getElem (show j < vb.length by (first | lia | omega)))
      rw [g1] at g2
      cases g2
      exact dat_eqAt N i1 sa i2 sb (hk _ (List.mem_of_getElem? g1)) (by (first | lia | omega))
    · have e0 : j = va.length := by (first | lia | omega)
      have e1 : (va ++ [Value.ref Da]).toArray[j] = Value.ref Da := by subst e0; simp
      have e2 : (vb ++ [Value.ref Db]).toArray[j] = Value.ref Db := by
        have : j = vb.length := by (first | lia | omega)
        subst this; simp
      rw [e1, e2]
      exact dict_eqAt N (sa _ mda) (sb _ mdb) ia ib la lb (by (first | lia | omega))
end
end

noncomputable abbrev ok1 (x : Str) : Prop := PyData.strOk x = true
structure TxOk (S : St) : Prop where
  ki : ∀ x ∈ S.kinds, ok1 x
  sp : ∀ x ∈ S.spaces, ok1 x
  na : ∀ x ∈ S.names, ok1 x
  ar : ∀ ps ∈ S.attrs, ∀ p ∈ ps, ok1 p.1 ∧ ok1 p.2
  te : ∀ x ∈ S.texts, ok1 x
theorem TxOk.congr {S T : St} (h : TxOk S) (e1 : T.kinds = S.kinds) (e2 : T.spaces = S.spaces) (e3 : T.names = S.names) (e4 : T.attrs = S.attrs) (e5 : T.texts = S.texts) : TxOk T :=
  ⟨by rw [e1]; exact h.ki, by rw [e2]; exact h.sp, by rw [e3]; exact h.na, by rw [e4]; exact h.ar, by rw [e5]; exact h.te⟩
theorem TxOk.same {S T : St} (h : TxOk S) (s : Same S T) : TxOk T := h.congr s.ki s.sp s.na s.ar s.te
theorem snoc_all {α : Type} {P : α → Prop} {l : List α} {x : α} (h : ∀ y ∈ l, P y) (hx : P x) : ∀ y ∈ l ++ [x], P y := fun y hy => by
  rcases List.mem_append.mp hy with hy | hy
  · exact h y hy
  · rw [List.mem_singleton.mp hy]; exact hx
theorem TxOk.addN {S : St} (h : TxOk S) {kind sp na te : Str} {ps : List (Str × Str)} (h1 : ok1 kind) (h2 : ok1 sp) (h3 : ok1 na) (h4 : ∀ p ∈ ps, ok1 p.1 ∧ ok1 p.2) (h5 : ok1 te) : TxOk (addN S kind sp na ps te) :=
  ⟨snoc_all h.ki h1, snoc_all h.sp h2, snoc_all h.na h3, snoc_all h.ar h4, snoc_all h.te h5⟩
theorem TxOk.elem {S : St} (h : TxOk S) {na sp : Str} {ps : List (Str × Str)} (h2 : ok1 sp) (h3 : ok1 na) (h4 : ∀ p ∈ ps, ok1 p.1 ∧ ok1 p.2) : TxOk (elemS S na sp ps) := by
  have h1 := h.addN (kind := sElem) (te := Str.empty) (by decide +kernel) h2 h3 h4 (by decide +kernel)
  unfold elemS
  split
  · exact (h1.addN (kind := Str.ofString "fragment") (sp := Str.empty) (na := Str.empty) (ps := []) (te := Str.empty) (by decide +kernel) (by decide +kernel) (by decide +kernel) (fun p hp => nomatch hp) (by decide +kernel)).congr rfl rfl rfl rfl rfl
  · exact h1
theorem ok_chr {c : Int} (h0 : 0 ≤ c) (h1 : c < 1000) : ok1 (chrS c) := by
  show PyData.strOk ⟨#[c.toNat]⟩ = true
  unfold PyData.strOk
  simp
  first | lia | omega
theorem abv_ok : ∀ x ∈ abvN, PyData.strOk x = true := by decide +kernel
theorem low_ok : ∀ x ∈ lowN, PyData.strOk x = true := by decide +kernel
theorem growName_ok (d r0 : Int) (ab : Bool) : ok1 (growName d r0 ab) := by
  have h := growName_mem d r0 ab
  cases ab
  · exact low_ok _ h
  · exact abv_ok _ h
theorem growSpace_ok (nm : Str) : ok1 (growSpace nm) := by unfold growSpace; split <;> decide +kernel
theorem growPairs_ok {d kk : Int} (h0 : 0 ≤ kk) (h1 : kk < 100) : ∀ p ∈ growPairs d kk, ok1 p.1 ∧ ok1 p.2 := by
  unfold growPairs
  have e1 : ok1 (Str.ofString "n") := by decide +kernel
  have e2 : ok1 (Str.ofString "x") := by decide +kernel
  have e3 : ok1 Str.empty := by decide +kernel
  split
  · intro p hp
    rw [List.mem_singleton.mp hp]
    exact ⟨e1, ok_chr (by (first | lia | omega)) (by (first | lia | omega))⟩
  · intro p hp
    rcases List.mem_cons.mp hp with rfl | hp
    · exact ⟨e1, ok_chr (by (first | lia | omega)) (by (first | lia | omega))⟩
    · rw [List.mem_singleton.mp hp]; exact ⟨e2, e3⟩
theorem TxOk.grow {S : St} (h : TxOk S) {d r0 kk : Int} {ab : Bool} (h0 : 0 ≤ kk) (h1 : kk < 100) : TxOk (growS S d r0 kk ab) := by
  have t1 : TxOk (g1 S d r0 kk ab) := h.elem (growSpace_ok _) (growName_ok ..) (growPairs_ok h0 h1)
  have t2 : TxOk (g2 S d r0 kk ab) := t1.addN (by decide +kernel) (by decide +kernel) (by decide +kernel) (fun p hp => nomatch hp) (ok_chr (by (first | lia | omega)) (by (first | lia | omega)))
  have t3 : TxOk (g3 S d r0 kk ab) := t2.same (same_insE _ _ _)
  have t4 : TxOk (g4 S d r0 kk ab) := t3.same (same_insE _ _ _)
  have t5 : TxOk (g5 S d r0 kk ab) := t4.addN (by decide +kernel) (by decide +kernel) (by decide +kernel) (fun p hp => nomatch hp) (ok_chr (by (first | lia | omega)) (by (first | lia | omega)))
  have t6 : TxOk (g6 S d r0 kk ab) := t5.same (same_insE _ _ _)
  have t7 : TxOk (g7 S d r0 kk ab) := by unfold g7; split; exact t6; exact t4
  exact t7.congr rfl rfl rfl rfl rfl
theorem TxOk.listIn {S : St} (h : TxOk S) (d r1 r2 : Int) (told : Bool) : TxOk (Mine.Internal.listIn S d r1 r2 told) := by
  unfold Mine.Internal.listIn; split
  · exact h.congr rfl rfl rfl rfl rfl
  · exact h
theorem TxOk.listEx {S : St} (h : TxOk S) (d kk r3 : Int) : TxOk (Mine.Internal.listEx S d kk r3) := by
  unfold Mine.Internal.listEx; split
  · exact h.congr rfl rfl rfl rfl rfl
  · split
    · exact (h.elem (na := Str.ofString "b") (sp := sHtml) (ps := [(Str.ofString "n", Str.ofString "z")]) (by decide +kernel) (by decide +kernel) (by decide +kernel)).congr rfl rfl rfl rfl rfl
    · exact h
theorem tx_loop (ns : List Int) (i : Nat) : ∀ k, k ≤ 12 → TxOk (loopS ns i k)
  | 0, _ => by
    have h : TxOk (S0f (fosOf ns i)) := ⟨(by decide +kernel : ∀ x ∈ S00.kinds, ok1 x), (by decide +kernel : ∀ x ∈ S00.spaces, ok1 x), (by decide +kernel : ∀ x ∈ S00.names, ok1 x), (by decide +kernel : ∀ ps ∈ S00.attrs, ∀ p ∈ ps, ok1 p.1 ∧ ok1 p.2), (by decide +kernel : ∀ x ∈ S00.texts, ok1 x)⟩
    have h2 : TxOk (S0e (fosOf ns i)) := h.elem (by decide +kernel) (by decide +kernel) (fun p hp => nomatch hp)
    exact (h2.same (same_insE _ 0 1)).congr rfl rfl rfl rfl rfl
  | k + 1, hk => by
    have ih := tx_loop ns i k (by (first | lia | omega))
    exact ((ih.grow (by (first | lia | omega)) (by (first | lia | omega))).listIn _ _ _ _).listEx _ _ _
theorem tx_built (ns : List Int) (i : Nat) : TxOk (builtS ns i) := by
  have h := tx_loop ns i (tot ns i) (tot_le ns i)
  have h2 : TxOk (endS (loopS ns i (tot ns i))) := h.addN (by decide +kernel) (by decide +kernel) (by decide +kernel) (fun p hp => nomatch hp) (by decide +kernel)
  exact h2.same (same_insE _ _ _)
theorem getD_all {α : Type} {P : α → Prop} {l : List α} {d : α} (h : ∀ y ∈ l, P y) (hd : P d) (i : Nat) : P (l.getD i d) := by
  by_cases hi : i < l.length
  · exact h _ (getD_mem hi)
  · rw [List.getD_eq_getElem?_getD, List.getElem?_eq_none (by (first | lia | omega))]; exact hd
theorem TxOk.whole {S : St} (h : TxOk S) (pre : List Int) (x : Int) (btw : List Int) (b : Int) (post : List Int) : TxOk (wholeD S pre x btw b post) := by
  have rep : ∀ (l : List Str) (n : Nat) (s : Str), (∀ y ∈ l, ok1 y) → ok1 s → ∀ y ∈ l ++ List.replicate n s, ok1 y := fun l n s hl hs y hy => by
    rcases List.mem_append.mp hy with hy | hy
    · exact hl y hy
    · rw [(List.mem_replicate.mp hy).2]; exact hs
  refine ⟨rep _ _ _ h.ki (by decide +kernel), rep _ _ _ h.sp (by decide +kernel), ?_, ?_, rep _ _ _ h.te (by decide +kernel)⟩
  · intro y hy
    rcases List.mem_append.mp hy with hy | hy
    · exact h.na y hy
    · obtain ⟨z, -, rfl⟩ := List.mem_map.mp hy
      exact getD_all h.na (by decide +kernel) _
  · intro y hy
    rcases List.mem_append.mp hy with hy | hy
    · exact h.ar y hy
    · obtain ⟨z, -, rfl⟩ := List.mem_map.mp hy
      exact getD_all (P := fun (ps : List (Str × Str)) => ∀ p ∈ ps, ok1 p.1 ∧ ok1 p.2) h.ar (fun p hp => absurd hp List.not_mem_nil) _
theorem okI (l : List Int) : kqdOk 8 (dI l) = true := by
  unfold dI
  rw [kqdOk, List.all_eq_true]
  intro d hd
  obtain ⟨z, -, rfl⟩ := List.mem_map.mp hd
  rfl
theorem okIn (n : Nat) (l : List Int) : kqdOk (n + 1) (dI l) = true := by
  unfold dI
  rw [kqdOk, List.all_eq_true]
  intro d hd
  obtain ⟨z, -, rfl⟩ := List.mem_map.mp hd
  cases n <;> rfl
theorem okS {l : List Str} (h : ∀ x ∈ l, ok1 x) : kqdOk 8 (dS l) = true := by
  unfold dS
  rw [kqdOk, List.all_eq_true]
  intro d hd
  obtain ⟨z, hz, rfl⟩ := List.mem_map.mp hd
  exact h z hz
theorem dats_ok {T : St} (h : TxOk T) : ∀ e ∈ datsOf T, kqdOk 8 e = true := by
  intro e he
  unfold datsOf at he
  simp only [List.mem_cons, List.not_mem_nil, or_false] at he
  rcases he with rfl | rfl | rfl | rfl | rfl | rfl | rfl | rfl | rfl | rfl
  · exact okI _
  · exact okI _
  · rfl
  · exact okS h.ki
  · exact okS h.sp
  · exact okS h.na
  · unfold dA
    rw [kqdOk, List.all_eq_true]
    intro d hd
    obtain ⟨ps, hps, rfl⟩ := List.mem_map.mp hd
    rw [kqdOk, List.all_eq_true]
    intro d hd
    obtain ⟨p, hp, rfl⟩ := List.mem_map.mp hd
    have := h.ar ps hps p hp
    unfold dP
    rw [kqdOk, List.all_eq_true]
    intro d hd
    simp only [List.mem_cons, List.not_mem_nil, or_false] at hd
    rcases hd with rfl | rfl
    · exact this.1
    · exact this.2
  · exact okS h.te
  · exact okI _
  · unfold dL
    rw [kqdOk, List.all_eq_true]
    intro d hd
    obtain ⟨l, -, rfl⟩ := List.mem_map.mp hd
    exact okIn 6 l

theorem Good.keepS {S : St} {n : Nat} (G : Good S n) (K : List (Addr × Obj)) : Good { S with keep := K } n :=
  ⟨⟨G.ln.ki, G.ln.sp, G.ln.na, G.ln.ar, G.ln.te, G.ln.pa, G.ln.ch, G.ln.hn⟩, G.tr.congr rfl rfl, G.cl, G.ck, G.cp, G.st, G.so, G.fm, G.fc, G.az⟩
section
variable {S : St} {n : Nat} {pre : List Int} {x : Int} {btw : List Int} {b : Int} {post : List Int} {T : St} {last mark : Int} {r : Nat}
theorem Scene.keepS (Z : Scene S n pre x btw b post) (K : List (Addr × Obj)) : Scene { S with keep := K } n pre x btw b post :=
  ⟨Z.good.keepS K, Z.n1, Z.hst, Z.sz, Z.fz, Z.bz, Z.xf, Z.p0, Z.pnm, Z.lnm, Z.ch⟩
theorem low_cases : ∀ nm ∈ lowN, (growSpace nm = Str.ofString "html" ∧ nm ∈ lowNames) ∨ (growSpace nm = Str.ofString "svg" ∧ nm = Str.ofString "g") := by decide
theorem Scene.below (Z : Scene S n pre x btw b post) : S.stack.drop (S.stack.idxOf x + 1) = btw ++ b :: post := by
  rw [Z.xi, Z.hst, show pre ++ x :: (btw ++ b :: post) = (pre ++ [x]) ++ (btw ++ b :: post) by simp]
  exact List.drop_left' (by simp)
theorem Scene.lowOk (Z : Scene S n pre x btw b post) : ∀ y ∈ S.stack.drop (S.stack.idxOf x + 1), LowOk S y := fun y hy => by
  rw [Z.below] at hy
  obtain ⟨h1, h2⟩ := Z.lnm y (.tail _ hy)
  have h3 := low_cases _ h1
  rw [← h2] at h3
  exact h3
theorem find_filter (p : Int → Bool) : ∀ l : List Int, (l.filter p ++ [-1]).getD 0 0 = (l.find? p).getD (-1)
  | [] => rfl
  | a :: l => by
    rw [List.filter_cons, List.find?_cons]
    cases h : p a
    · rw [if_neg (by decide)]; exact find_filter p l
    · rw [if_pos rfl]; rfl
theorem Scene.com (Z : Scene S n pre x btw b post) : S.stack.getD (S.stack.idxOf x - 1) 0 = lastD pre := by
  have p0 := Z.p0
  rw [Z.xi, Z.hst]; exact getD_left _ _ _ (by (first | lia | omega))
theorem Scene.x1 (Z : Scene S n pre x btw b post) : 1 ≤ S.stack.idxOf x := by rw [Z.xi]; exact Z.p0
theorem Eq10.dats {F G : St} (h : Eq10 F G) : datsOf F = datsOf G := by
  unfold datsOf
  rw [h.st, h.fm, h.ki, h.sp, h.na, h.ar, h.te, h.pa, h.ch]
end

theorem with_cx {w : World} {A₀ : Around} {h₀ : Heap} {env : Env} {L : Addr} {loose : List Str} {mean : ExcName → Option Value} {mg mb : Str → Option Value} {M : Model} {α : Type} {t : Sem α} {Q : α → Shared → Prop} {E : Value → Shared → Prop} {sh : Heap} {sg : Array GenState} {sd : Drawn} {stk : Nat} {so : OsState}
    (K : Below A₀ h₀ [] h₀) (X : (hd.heap_1_1 w.params).In h₀) (T : Top hd.view_1_2 loose mean mg mb h₀) (hA : (A₀.deeper env).frames = some [env]) (hf : env.frame = some L) (hk : env.scope.kind = .function) (hr : (A₀.deeper env).depth + 20 ≤ 900) (hu : (A₀.deeper env).units + 4 * 20 ≤ 9000) (hh : (A₀.deeper env).handled = none)
    (h : Cx w h₀ (A₀.deeper env) L 20 → wpAny M (A₀.deeper env) t Q E (Shared.mk sh sg sd stk so)) : wpAny M (A₀.deeper env) t Q E (Shared.mk sh sg sd stk so) :=
  h ⟨A₀, h₀, [], env, loose, mean, mg, mb, ⟨K, X, T, hA, hf, hk, hr, hu, hh⟩⟩
theorem lk_front {a b : Str × Value} {f ext : List (Str × Value)} (h1 : List.lookup a.1 f = none) (h2 : List.lookup b.1 f = none) : (fun y => List.lookup y (f ++ a :: b :: ext)) = fun y => List.lookup y (a :: b :: (f ++ ext)) := by
  funext y
  rw [lookup_app, List.lookup_cons, List.lookup_cons, List.lookup_cons, List.lookup_cons, lookup_app]
  by_cases e : y = a.1
  · subst e; simp [h1]
  · have e' : (y == a.1) = false := by simpa using e
    rw [e']
    by_cases e2 : y = b.1
    · subst e2; simp [h2]
    · have e2' : (y == b.1) = false := by simpa using e2
      rw [e2']
theorem sub_nn {h₀ h : Heap} {L : Addr} {l r : List (Addr × Obj)} (p : List.Sublist r l) (N : News h₀ L h l) (Nd : (l.map (·.1)).Nodup) : NN h₀ L h r :=
  ⟨News.sub N fun _ hq => p.subset hq, Nd.sublist (p.map _)⟩
theorem perm_nn {h₀ h : Heap} {L : Addr} {l r : List (Addr × Obj)} (p : List.Perm l r) (N : News h₀ L h l) (Nd : (l.map (·.1)).Nodup) : NN h₀ L h r := perm_news p N Nd
example : True := by
  k_with "o m law" => ((
      k_fill
      intro w s₀ s₁ mg mb G Y fa o pm cd doc dV kV ho hd hcd hD hmg hg args vals as hpre hlay hrd hwl hlo
      have KX := kIn_of Y
      k_behind G ho hd hcd hD hmg hpre hlay hrd hwl hlo cd))
  k_with "o subscriptTail Attribute Slice ref ref" => ((k_here; (with_reducible show wpAny _ _ (subscriptTail (PySem.Expr.Attribute _ _ _) (PySem.Expr.Slice _ _ _ _) (Value.ref _) (Value.ref _)) _ _ _); k_dflt (refine kba_turn (value' := PySem.Expr.Name (PySem.Str.ofString "_") ⟨0, 0, 0, 0⟩) (fun _ => rfl) ?_)))
  k_with "o m wl" => (((fail_if_success (with_reducible show wpAny _ _ (subscriptTail _ (PySem.Expr.Slice _ _ _ _) _ _) _ _ _)); k_extra "o m wc"))
  k_with "o m gl" => (repeat' (first | k_extra "o m wl" | (dsimp only; k_extra "o m wl")))
  k_with "o m ws" => (((fail_if_success (with_reducible show wpAny _ _ (subscriptTail _ _ (.ref _) (.int _ _)) _ _ _)); k_extra "o m wc"))
  k_with "o m gs" => (repeat' (first | k_extra "o m ws" | (dsimp only; k_extra "o m ws")))
  k_with "o m cut" => ((try dsimp only [List.take_succ_cons, List.take_zero, List.drop_succ_cons, List.drop_zero]))
  trivial
theorem sub_app {α : Type} {k l r : List α} (h : List.Sublist r l) : List.Sublist r (k ++ l) := h.trans (List.sublist_append_right k l)
example : True := by
  k_with "o m sub" => (first | with_reducible exact List.Sublist.refl _ | with_reducible exact List.nil_sublist _ | ((with_reducible refine' List.Sublist.cons_cons _ ?zsb_197); (case zsb_197 => k_extra "o m sub")) | ((with_reducible refine' List.Sublist.cons _ ?zsb_197); (case zsb_197 => k_extra "o m sub")) | ((with_reducible refine' sub_app ?zsb_197); (case zsb_197 => k_extra "o m sub")))
  k_with "o m wn" => (((fail_if_success (with_reducible show wpAny _ _ (compareOp .NotEq (.ref _) (.ref _)) _ _ _)); k_extra "o m wc"))
  k_with "o m gn" => (repeat' (first | k_extra "o m wn" | (dsimp only; k_extra "o m wn")))
  trivial
theorem mem_inn {P : Params} {a : BA} {g : Sg} {p : Addr × Obj} (h : p ∈ g.inn) : p ∈ obs P a g := inn_mem (ex := []) h
theorem mem_kids {P : Params} {a : BA} {g : Sg} {p : Addr × Obj} (h : p ∈ g.kids) : p ∈ obs P a g := by simp [h]
theorem whole_sv {prog : Program} {w : World} {a : BA} {g : Sg} {F : St} (V : Sv prog w a g F) : WholeAt prog w (obs w.params a g) [.ref a.si, .ref a.fi, .ref a.er, .ref a.ki, .ref a.sp, .ref a.na, .ref a.ar, .ref a.te, .ref a.pa, .ref a.ch, .ref a.co] F :=
  ⟨[.ref a.si, .ref a.fi, .ref a.er, .ref a.ki, .ref a.sp, .ref a.na, .ref a.ar, .ref a.te, .ref a.pa, .ref a.ch], a.co, g.co, rfl,
    .cons (.list (by first | k_extra "o mem" | fail) (ints_dat V.si)) (.cons (.list (by first | k_extra "o mem" | fail) (ints_dat V.fi)) (.cons (.list (vs := []) (by first | k_extra "o mem" | fail) .nil) (.cons (.list (by first | k_extra "o mem" | fail) (strs_dat V.ki)) (.cons (.list (by first | k_extra "o mem" | fail) (strs_dat V.sp))
    (.cons (.list (by first | k_extra "o mem" | fail) (strs_dat V.na)) (.cons (.list (by first | k_extra "o mem" | fail) (attr_dat (fun p hp => mem_inn hp) V.ar)) (.cons (.list (by first | k_extra "o mem" | fail) (strs_dat V.te)) (.cons (.list (by first | k_extra "o mem" | fail) (ints_dat V.pa))
    (.cons (.list (by first | k_extra "o mem" | fail) (kid_dat (fun p hp => mem_kids hp) V.ch)) .nil))))))))), by first | k_extra "o mem" | fail, V.co, V.nosys⟩
theorem Cx.room2 {w : World} {h₀ : Heap} {A : Around} {L : Addr} {d : Nat} (C : Cx w h₀ A L d) : A.units + 100 < PySem.cLine := by
  obtain ⟨_, _, _, _, _, _, _, _, C⟩ := C
  have := C.units
  have e : PySem.cLine = 9900 := rfl
  k_extra "o m oz"
theorem ok2 (l r : List Int) : kqdOk 8 (.list [dI l, dI r]) = true := by
  rw [kqdOk, List.all_cons, List.all_cons, List.all_nil, okIn 6 l, okIn 6 r]; rfl
theorem okT (p q : Int) : kqdOk 8 (.tuple [.int p, .int q]) = true := rfl
theorem cpL_keep (S : St) (K : List (Addr × Obj)) (l : List Int) : ∀ k, cpL { S with keep := K } l k = cpL S l k
  | 0 => rfl
  | k + 1 => by rw [cpL, cpL, cpL_keep S K l k]
theorem cpOf_keep (S : St) (K : List (Addr × Obj)) (btw : List Int) : cpOf { S with keep := K } btw = cpOf S btw := by
  funext y
  have e : cpAll { S with keep := K } btw = cpAll S btw := cpL_keep S K _ _
  unfold cpOf
  rw [e]
theorem keep_same (S : St) (K : List (Addr × Obj)) (x : Int) (btw : List Int) (b : Int) : rowD { S with keep := K } btw b = rowD S btw b ∧ markD { S with keep := K } x btw = markD S x btw ∧ leftL { S with keep := K } btw = leftL S btw := by
  have e := cpOf_keep S K btw
  have e2 : keptL { S with keep := K } btw = keptL S btw := rfl
  have e3 : leftL { S with keep := K } btw = leftL S btw := by unfold leftL; rw [e]
  refine ⟨by unfold rowD; rw [e, e2], by unfold markD; rw [e, e2, e3], e3⟩
theorem the_law : PySem.Challenge.rw_nz0096_01.Holds := by
  refine look (Mine.hd._proof_1_847 ?_)
  k_extra "o m law"
  rename Top _ _ _ _ _ _ => T
  rename_i ns hs hlay0 hL0 hr0 hl2 wa wb sc vs wc hsL ra w1 r0 hsI hr hz hz2 K0 h₁ tk₁ F0 o1 right N0 X0
  clear X0 hr w1 r0 ra hz2 hs hlay0 hL0 hr0 hl2
  have hz' : ns.length ≤ 63 := by k_extra "o m oz"
  clear hz
  obtain ⟨hG, sg, sd, stk, so⟩ := s₁
  replace right : o1.data = .cell none := right
  replace F0 : Fr hG hG.objs.size h₁ (fun y => List.lookup y [bd "script" (.ref sc)]) := fr_bindL F0 rfl
  refine with_cx K0 KX T rfl rfl rfl (Nat.le_of_ble_eq_true rfl) (Nat.le_of_ble_eq_true rfl) rfl ?_
  intro CC
  have hh : callerA.handled = none := rfl
  rename Flt.MathXP _ _ _ => q1
  rename LooseAre _ _ _ => q2
  rename Glob _ _ _ _ _ _ _ _ => q3
  rename Tables _ _ _ _ => q4
  rename TopE _ _ _ _ => q5
  rename TopW _ _ _ => q6
  rename BMod _ _ _ _ _ => q7
  clear q1 q2 q3 q4 q5 q6 q7 G Y ho hcd hD K0
  (try dsimp only at *)
  generalize hG.objs.size = L' at *
  have Nd0 : (([(L' + 1, o1)] : List (Addr × Obj)).map (·.1)).Nodup := by simp
  try dsimp only
  refine seg_cutC 1 (fun s₂ => ∀ G : Shared → Prop, (∀ h' tk' l co, (Fr hG L' h' (fun y => List.lookup y l)) → News hG L' h' [(L' + 1, co)] → G (Shared.mk h' sg sd tk' so)) → G s₂) ?_ ?_
  · intro P hP
    k_extra "o m cut"
    rename Fr _ _ _ _ => F'
    rename News _ _ _ _ => N'
    k_extra "o m go"
    refine For_invV hG (by rfl) (by rfl) ?_
    k_extra "o m go"
    rename IsRange _ _ _ _ _ _ _ _ => hr0
    rename Fr _ _ _ _ => F'
    rename News _ _ _ _ => N'
    replace N' := News.sub N' (l' := [(L' + 1, o1)]) (fun p hp => by rw [List.mem_singleton.mp hp]; k_extra "o mem")
    refine for_range (σ := Obj × { l : List (Str × Value) // List.lookup (Str.ofString "scene") l = none }) (n := 4) (fun c => bd "script" (.ref sc) :: c.2.1) (fun c => [(L' + 1, c.1)]) (fun i c => ∃ v, c.1.data = .cell v) (o1, ⟨[], rfl⟩)
      (fun c => look_app_none (l := [bd "script" (.ref sc)]) rfl c.2.2) rfl hr0 (by decide) F' N' Nd0 ⟨_, right⟩ ?_ ?_
    · clear N' F' hr0 right
      rintro i t ⟨co, ext, hext⟩ I it h tk hi4 ⟨vc, hvc⟩ F' N' Nd
      dsimp only at hvc F' N' Nd
      replace F' : Fr hG L' h (fun y => List.lookup y (bd "scene" (.int (i : Int) t) :: bd "script" (.ref sc) :: ext)) := F'
      replace N' : News hG L' h ((I, it) :: [(L' + 1, co)]) := N'
      obtain ⟨n, Z⟩ := scene_ok ns i
      obtain ⟨N', Nd⟩ := perm_nn (List.Perm.swap (L' + 1, co) (I, it) []) N' Nd
      have BO := buildOk ns i
      have TX := tx_built ns i
      generalize eS : builtS ns i = S
      generalize ex0 : subjOf ns i = x
      generalize eb0 : blkOf ns i = b
      generalize ep0 : preOf ns i = pre
      generalize et0 : btwOf ns i = btw
      generalize eo0 : postOf ns i = post
      rw [eS, ex0, eb0, ep0, et0, eo0] at Z
      rw [eS] at TX
      -- a1
      refine seg_cutC 1 (fun s₂ => ∀ G : Shared → Prop, (∀ h' tk' a g co u v, (Fr hG L' h' (fun y => List.lookup y (bd "block" (.int b v) :: bd "subject" (.int x u) :: bd "scene" (.int (i : Int) t) :: bd "script" (.ref sc) :: ext))) → NN hG L' h' ((L' + 1, co) :: (I, it) :: obs w.params a g) → (co.data = .cell (some (.ref a.b))) → Sv PySem.Challenge.rw_nz0096_01.row.prog w a g S → G (Shared.mk h' sg sd tk' so)) → G s₂) ?_ ?_
      · intro P hP
        k_extra "o m cut"
        k_extra "o m gc"
        refine c_built (CC.mono (by decide)) F' N' Nd hsL hsI hz' hi4 BO ?_
        clear N' F' Nd
        intro h' tk D a ex' u v c F' W'
        obtain ⟨g, N', Nd, V⟩ := W'
        rw [eS] at V
        rw [ex0, eb0] at N' Nd
        replace N' : News hG L' h' (((D, ({ cls := .type "tuple", data := .seq #[.ref a.b, .int x u, .int b v] c } : Obj)) :: ex') ++ (L' + 1, co) :: ((I, it) :: obs w.params a g)) := by simpa only [List.cons_append, List.append_assoc, List.nil_append] using N'
        replace Nd : ((((D, ({ cls := .type "tuple", data := .seq #[.ref a.b, .int x u, .int b v] c } : Obj)) :: ex') ++ (L' + 1, co) :: ((I, it) :: obs w.params a g)).map (·.1)).Nodup := by simpa only [List.cons_append, List.append_assoc, List.nil_append] using Nd
        obtain ⟨N', Nd⟩ := mid_news N' Nd
        simp only [List.cons_append] at N' Nd
        k_extra "o m gc"
        exact hP _ (fun G kk => kk _ _ a g _ u v F' (sub_nn (by first | k_extra "o m sub" | fail) N' Nd) (by assumption) V)
      clear N' F' Nd hvc
      intro s₂ hX
      refine hX _ ?_
      clear hX
      rintro h' tk' a g co u v F' NN' dc V
      have N' := NN'.1
      have Nd := NN'.2
      clear NN'
      dsimp only [List.map] at Nd
      k_extra "o m cut"
      -- a2
      refine seg_cutC 1 (fun s₂ => ∀ G : Shared → Prop, (∀ h' tk' g T1 T2 T3 X, (Fr hG L' h' (fun y => List.lookup y (bd "whole" (.ref T3) :: bd "inner" (.ref T2) :: bd "told" (.ref T1) :: bd "block" (.int b v) :: bd "subject" (.int x u) :: bd "scene" (.int (i : Int) t) :: bd "script" (.ref sc) :: ext))) → NN hG L' h' ((L' + 1, co) :: (I, it) :: (X ++ obs w.params a g)) → Sv PySem.Challenge.rw_nz0096_01.row.prog w a g S → DueAt PySem.Challenge.rw_nz0096_01.row.prog w X g.inn T1 T2 T3 S pre x btw b post → G (Shared.mk h' sg sd tk' so)) → G s₂) ?_ ?_
      · intro P hP
        k_extra "o m cut"
        k_extra "o m gc"
        refine c_due (ex := [(L' + 1, co), (I, it)]) (CC.mono (by decide)) F' ⟨_, N', Nd, V⟩ (scene_due Z) ?_
        clear N' F' Nd V
        intro h' tk D T1 T2 T3 c X g F' NN' V DA
        obtain ⟨N', Nd⟩ := NN'
        simp only [List.cons_append, List.nil_append] at N' Nd
        k_extra "o m gc"
        (try refine wpAny_execs_nil ?_)
        exact hP _ (fun G kk => kk _ _ g T1 T2 T3 X F' (perm_nn (((List.perm_middle (l₁ := X) (a := (L' + 1, co))).trans (.cons _ List.perm_middle))) (News.tl N') (nd_tl Nd)) V DA)
      clear N' F' Nd V
      intro s₂ hX
      refine hX _ ?_
      clear hX
      rintro h' tk' g T1 T2 T3 X F' NN' V DA
      have N' := NN'.1
      have Nd := NN'.2
      clear NN'
      generalize egi : g.inn = gi
      rw [egi] at DA
      replace V : Sv PySem.Challenge.rw_nz0096_01.row.prog w a g { S with keep := gi } := { V with kp := fun p hp => by rw [egi]; exact hp }
      have Z2 := Z.keepS gi
      have ks := keep_same S gi x btw b
      have hkp : ({ S with keep := gi } : St).keep = gi := rfl
      generalize ({ S with keep := gi } : St) = S1 at V Z2 ks hkp
      obtain ⟨ks1, ks2, ks3⟩ := ks
      obtain ⟨⟨ut, vt, ct, mt⟩, ⟨l1, l2, ci, v1, n1, v2, n2, m2, ml1, i1, ml2, i2⟩, ⟨v3, n3, m3, W3⟩⟩ := DA
      rw [← ks1, ← ks2] at mt
      rw [← ks1] at i1
      rw [← ks3] at i2
      clear ks1 ks2 ks3
      dsimp only [List.map] at Nd
      k_extra "o m cut"
      have hsz := Z2.sz
      have hsl := V.si.length
      have hxm := Z2.xs
      have hxl := List.idxOf_lt_length_of_mem hxm
      -- a3
      refine seg_cutC 1 (fun s₂ => ∀ G : Shared → Prop, (∀ h' tk' Dn wn nn, (Fr hG L' h' (fun y => List.lookup y (bd "line" (.ref Dn) :: bd "whole" (.ref T3) :: bd "inner" (.ref T2) :: bd "told" (.ref T1) :: bd "block" (.int b v) :: bd "subject" (.int x u) :: bd "scene" (.int (i : Int) t) :: bd "script" (.ref sc) :: ext))) → NN hG L' h' ((L' + 1, co) :: (Dn, listOf (List.toArray wn) nn) :: (I, it) :: (X ++ obs w.params a g)) → IntsAre wn (S1.stack.drop (S1.stack.idxOf x + 1)) → G (Shared.mk h' sg sd tk' so)) → G s₂) ?_ ?_
      · intro P hP
        k_extra "o m cut"
        k_extra "o m gl"
        refine kba_turn (value' := PySem.Expr.Name (PySem.Str.ofString "_") ⟨0, 0, 0, 0⟩) (fun _ => rfl) ?_
        first | walk_at "subscriptTail Name Slice ref ref" | fail
        k_extra "o m gc"
        (try refine wpAny_execs_nil ?_)
        have e1 : ((S1.stack.idxOf x : Int) + 1).toNat = S1.stack.idxOf x + 1 := by k_extra "o m oz"
        rw [e1] at hI'
        exact hP _ (fun G kk => kk _ _ D' _ 0 F' (perm_nn (.swap _ _ _) N' Nd) hI')
      clear N' F' Nd
      intro s₂ hX
      refine hX _ ?_
      clear hX
      rintro h' tk' Dn wn nn F' NN' hnI
      have N' := NN'.1
      have Nd := NN'.2
      clear NN'
      dsimp only [List.map] at Nd
      k_extra "o m cut"
      have hna := V.na.length
      have hnl := Z2.good.ln.na
      have hnn := Z2.n1
      -- a4
      refine seg_cutC 1 (fun s₂ => ∀ G : Shared → Prop, (∀ h' tk' Db wb nb, (Fr hG L' h' (fun y => List.lookup y (bd "blocks" (.ref Db) :: bd "line" (.ref Dn) :: bd "whole" (.ref T3) :: bd "inner" (.ref T2) :: bd "told" (.ref T1) :: bd "block" (.int b v) :: bd "subject" (.int x u) :: bd "scene" (.int (i : Int) t) :: bd "script" (.ref sc) :: ext))) → NN hG L' h' ((L' + 1, co) :: (Db, listOf (List.toArray wb) nb) :: (I, it) :: (X ++ obs w.params a g)) → IntsAre wb ((S1.stack.drop (S1.stack.idxOf x + 1)).filter (nmIs S1 blockNames)) → G (Shared.mk h' sg sd tk' so)) → G s₂) ?_ ?_
      · intro P hP
        k_extra "o m cut"
        k_extra "o m gc"
        refine LCt.Assign_ListComp_T (F₀ := F') rfl (by with_unfolding_all rfl) (by with_unfolding_all rfl) (by decide) rfl (by decide) rfl rfl rfl ?_
        k_extra "o m gc"
        refine comp_filter rfl F' N' Nd (.tail _ (.head _)) hnI (by rw [List.length_drop]; k_extra "o m oz") (nmIs S1 blockNames) ?_ ?_ (fun _ => rfl) (fun _ => rfl) (by decide)
        · clear F' N' Nd
          intro y2 t2 I2 oI C oC D ys m₂ h tk E' P2 hym2 hC hx F' N' Nd' hP2
          have hyr2 := Z2.fr (List.mem_of_mem_drop hym2)
          have Nd := Nd'
          k_extra "o m gs"
          refine l_subs N' (by first | k_extra "o mem" | fail) V.na (by k_extra "o m oz") (by k_extra "o m oz") (by k_extra "o m oz") ?_ (by with_unfolding_all rfl)
          intro tn2
          k_extra "o m gc"
          exact hP2 _ _ F' (News.tl N')
        · intro gg ys hys D3 h3 tk3 F3 N3 o3
          replace F3 := fr_up F3 .new
          replace N3 : News hG L' h3 ((D3, listOf (List.toArray ys) ys.length) :: _) := N3
          replace Nd := off1_nodup o3 Nd
          clear F' N' o3
          dsimp only
          (try refine wpAny_execs_nil ?_)
          exact hP _ (fun G kk => kk _ _ D3 _ _ F3 (perm_nn (.swap _ _ _) (sub_nn (.cons_cons _ (.cons_cons _ (.cons _ (List.Sublist.refl _)))) N3 Nd).1 (sub_nn (.cons_cons _ (.cons_cons _ (.cons _ (List.Sublist.refl _)))) N3 Nd).2) hys)
      clear N' F' Nd hnI
      intro s₂ hX
      refine hX _ ?_
      clear hX
      rintro h' tk' Db wb nb F' NN' hbI
      have N' := NN'.1
      have Nd := NN'.2
      clear NN'
      dsimp only [List.map] at Nd
      k_extra "o m cut"
      have hbl : ((S1.stack.drop (S1.stack.idxOf x + 1)).filter (nmIs S1 blockNames)).length ≤ 13 := Nat.le_trans (List.length_filter_le _ _) (by rw [List.length_drop]; k_extra "o m oz")
      have hff : _ = ((S1.stack.drop (S1.stack.idxOf x + 1)).find? (isBlock S1)).getD (-1) := find_filter (nmIs S1 blockNames) (S1.stack.drop (S1.stack.idxOf x + 1))
      -- a5
      refine seg_cutC 1 (fun s₂ => ∀ G : Shared → Prop, (∀ h' tk' g, (Fr hG L' h' (fun y => List.lookup y (bd "blocks" (.ref Db) :: bd "line" (.ref Dn) :: bd "whole" (.ref T3) :: bd "inner" (.ref T2) :: bd "told" (.ref T1) :: bd "block" (.int b v) :: bd "subject" (.int x u) :: bd "scene" (.int (i : Int) t) :: bd "script" (.ref sc) :: ext))) → NN hG L' h' ((L' + 1, co) :: (I, it) :: (X ++ obs w.params a g)) → Sv PySem.Challenge.rw_nz0096_01.row.prog w a g S1 → G (Shared.mk h' sg sd tk' so)) → G s₂) ?_ ?_
      · intro P hP
        k_extra "o m cut"
        k_extra "o m gc"
        refine c_furthest (ex := (L' + 1, co) :: (Db, listOf (List.toArray wb) nb) :: (I, it) :: X) (CC.mono (by decide)) F' ⟨_, N', Nd, V⟩ Z2.good.ln hxm (by k_extra "o m oz") (fun y hy => by have := Z2.fr hy; k_extra "o m oz") Z2.lowOk ?_
        clear N' F' Nd V
        intro h' tk uf vf F' W' e
        obtain ⟨g, N', Nd, V⟩ := W'
        simp only [List.cons_append, List.map_cons] at N' Nd
        k_extra "o m gs"
        refine l_sub N' (by first | k_extra "o mem" | fail) hI' (by decide) (by rw [List.length_append]; simp only [List.length_cons, List.length_nil]; k_extra "o m oz") (by decide) ?_ (by with_unfolding_all rfl)
        intro tk0
        have hvw : vf = ((S1.stack.drop (S1.stack.idxOf x + 1)).filter (nmIs S1 blockNames) ++ [-1]).getD (Int.toNat 0) 0 := e.trans hff.symm
        rw [← hvw]
        k_extra "o m gc"
        · exact absurd (Eq.refl vf) (by assumption)
        (try refine wpAny_execs_nil ?_)
        exact hP _ (fun G kk => kk _ _ g F' (sub_nn (by first | k_extra "o m sub" | fail) N' Nd) V)
      clear N' F' Nd V hbI hbl hff
      intro s₂ hX
      refine hX _ ?_
      clear hX
      rintro h' tk' g F' NN' V
      have N' := NN'.1
      have Nd := NN'.2
      clear NN'
      dsimp only [List.map] at Nd
      k_extra "o m cut"
      -- a6
      refine seg_cutC 1 (fun s₂ => ∀ G : Shared → Prop, (∀ h' tk' g T last mark r, (Fr hG L' h' (fun y => List.lookup y (bd "blocks" (.ref Db) :: bd "line" (.ref Dn) :: bd "whole" (.ref T3) :: bd "inner" (.ref T2) :: bd "told" (.ref T1) :: bd "block" (.int b v) :: bd "subject" (.int x u) :: bd "scene" (.int (i : Int) t) :: bd "script" (.ref sc) :: ext))) → NN hG L' h' ((L' + 1, co) :: (I, it) :: (X ++ obs w.params a g)) → Sv PySem.Challenge.rw_nz0096_01.row.prog w a g T → Jn S1 n pre x btw b post [] T last mark r → G (Shared.mk h' sg sd tk' so)) → G s₂) ?_ ?_
      · intro P hP
        k_extra "o m cut"
        k_extra "o m gc"
        refine c_inner (ex := (L' + 1, co) :: (I, it) :: X) (S := S1) (p := pre.length) (todo0 := btw.reverse) (Jn S1 n pre x btw b post) (CC.mono (by decide)) F' ⟨_, N', Nd, V⟩ (jstep Z2) Z2.xf Z2.bs Z2.bi (jinit Z2) ?_
        clear N' F' Nd V
        intro h' tk D w1 w2 c T last mark r F' hJ W'
        obtain ⟨g, N', Nd, V⟩ := W'
        simp only [List.cons_append, List.map_cons] at N' Nd
        obtain ⟨q1, q2, q3, q4⟩ := inner_told Z2 hJ
        rw [q1, q2] at mt
        k_extra "o m gn"
        refine l_neD (e := .tuple [.int last, .int mark]) (n₁ := _) (n₂ := _) N' (.tuple (vs := [_, _]) (by first | k_extra "o mem" | fail) (.cons (.int _ _) (.cons (.int _ _) .nil))) (fun _ h => h) (.tuple (vs := [_, _]) (by first | k_extra "o mem" | fail) (.cons (.int _ _) (.cons (.int _ _) .nil))) (fun _ h => h) (okT _ _) CC.room ?_
        k_extra "o m gc"
        (try refine wpAny_execs_nil ?_)
        exact hP _ (fun G kk => kk _ _ g T last mark r F' (sub_nn (by first | k_extra "o m sub" | fail) N' Nd) V hJ)
      clear N' F' Nd V
      intro s₂ hX
      refine hX _ ?_
      clear hX
      rintro h' tk' g T last mark r F' NN' V hJ
      have N' := NN'.1
      have Nd := NN'.2
      clear NN'
      obtain ⟨q1, q2, q3, q4⟩ := inner_told Z2 hJ
      rw [← q3] at i1
      rw [← q4] at i2
      have hke : T.keep = gi := hJ.inn.ke.trans hkp
      dsimp only [List.map] at Nd
      k_extra "o m cut"
      -- a7
      refine seg_cutC 1 (fun s₂ => ∀ G : Shared → Prop, (∀ h' tk' Y, (Fr hG L' h' (fun y => List.lookup y (bd "blocks" (.ref Db) :: bd "line" (.ref Dn) :: bd "whole" (.ref T3) :: bd "inner" (.ref T2) :: bd "told" (.ref T1) :: bd "block" (.int b v) :: bd "subject" (.int x u) :: bd "scene" (.int (i : Int) t) :: bd "script" (.ref sc) :: ext))) → NN hG L' h' ((L' + 1, co) :: (I, it) :: Y) → (T3, listOf (List.toArray v3) n3) ∈ Y → WholeAt PySem.Challenge.rw_nz0096_01.row.prog w Y v3 (wholeD S pre x btw b post) → G (Shared.mk h' sg sd tk' so)) → G s₂) ?_ ?_
      · intro P hP
        k_extra "o m cut"
        k_extra "o m gn"
        refine l_neD (e := .list [dI T.stack, dI T.fmt]) (n₁ := _) (n₂ := _) N' (.list (vs := [_, _]) (by first | k_extra "o mem" | fail) (.cons (.list (by first | k_extra "o mem" | fail) (ints_dat V.si)) (.cons (.list (by first | k_extra "o mem" | fail) (ints_dat V.fi)) .nil))) (fun _ h => h) (.list (vs := [_, _]) (by first | k_extra "o mem" | fail) (.cons (.list (by first | k_extra "o mem" | fail) (ints_dat i1)) (.cons (.list (by first | k_extra "o mem" | fail) (ints_dat i2)) .nil))) (fun _ h => h) (ok2 _ _) CC.room ?_
        k_extra "o m gn"
        refine l_neD (e := .list []) (n₁ := _) (n₂ := _) N' (.list (vs := []) (by first | k_extra "o mem" | fail) .nil) (fun _ h => h) (.list (vs := []) (by first | k_extra "o mem" | fail) .nil) (fun _ h => h) rfl CC.room ?_
        k_extra "o m gc"
        (try refine wpAny_execs_nil ?_)
        refine hP _ (fun G kk => kk _ _ (X ++ obs w.params a g) F' (sub_nn (by first | k_extra "o m sub" | fail) N' Nd) (List.mem_append_left _ m3) (W3.mono fun p hp => ?_))
        rcases List.mem_append.mp hp with hp | hp
        · exact List.mem_append_left _ hp
        · exact List.mem_append_right _ (mem_inn (V.kp p (by rw [hke]; exact hp)))
      clear N' F' Nd V i1 i2 m2 ml1 ml2 mt W3 m3 hke q1 q2 q3 q4 hJ hsl hsz hxm hxl hna hnl hnn Z2 hkp egi
      intro s₂ hX
      refine hX _ ?_
      clear hX
      rintro h' tk' Y F' NN' m3 W3
      have N' := NN'.1
      have Nd := NN'.2
      clear NN'
      dsimp only [List.map] at Nd
      k_extra "o m cut"
      -- a8
      refine seg_cutC 1 (fun s₂ => ∀ G : Shared → Prop, (∀ h' tk' a g co u v, (Fr hG L' h' (fun y => List.lookup y (bd "blocks" (.ref Db) :: bd "line" (.ref Dn) :: bd "whole" (.ref T3) :: bd "inner" (.ref T2) :: bd "told" (.ref T1) :: bd "block" (.int b v) :: bd "subject" (.int x u) :: bd "scene" (.int (i : Int) t) :: bd "script" (.ref sc) :: ext))) → NN hG L' h' ((L' + 1, co) :: (I, it) :: (Y ++ obs w.params a g)) → (co.data = .cell (some (.ref a.b))) → Sv PySem.Challenge.rw_nz0096_01.row.prog w a g S → G (Shared.mk h' sg sd tk' so)) → G s₂) ?_ ?_
      · intro P hP
        k_extra "o m cut"
        k_extra "o m gc"
        refine c_built (CC.mono (by decide)) F' N' Nd hsL hsI hz' hi4 BO ?_
        clear N' F' Nd
        intro h' tk D a ex' u v c F' W'
        obtain ⟨g, N', Nd, V⟩ := W'
        rw [eS] at V
        rw [ex0, eb0] at N' Nd
        replace N' : News hG L' h' (((D, ({ cls := .type "tuple", data := .seq #[.ref a.b, .int x u, .int b v] c } : Obj)) :: ex') ++ (L' + 1, co) :: ((I, it) :: (Y ++ obs w.params a g))) := by simpa only [List.cons_append, List.append_assoc, List.nil_append] using N'
        replace Nd : ((((D, ({ cls := .type "tuple", data := .seq #[.ref a.b, .int x u, .int b v] c } : Obj)) :: ex') ++ (L' + 1, co) :: ((I, it) :: (Y ++ obs w.params a g))).map (·.1)).Nodup := by simpa only [List.cons_append, List.append_assoc, List.nil_append] using Nd
        obtain ⟨N', Nd⟩ := mid_news N' Nd
        simp only [List.cons_append] at N' Nd
        k_extra "o m gc"
        (try refine wpAny_execs_nil ?_)
        exact hP _ (fun G kk => kk _ _ a g _ u v F' (sub_nn (by first | k_extra "o m sub" | fail) N' Nd) (by assumption) V)
      clear N' F' Nd
      intro s₂ hX
      refine hX _ ?_
      clear hX
      rintro h' tk' a g co u v F' NN' dc V
      have N' := NN'.1
      have Nd := NN'.2
      clear NN'
      dsimp only [List.map] at Nd
      k_extra "o m cut"
      -- a9
      refine seg_cutC 1 (fun s₂ => ∀ G : Shared → Prop, (∀ h' tk' g F, (Fr hG L' h' (fun y => List.lookup y (bd "blocks" (.ref Db) :: bd "line" (.ref Dn) :: bd "whole" (.ref T3) :: bd "inner" (.ref T2) :: bd "told" (.ref T1) :: bd "block" (.int b v) :: bd "subject" (.int x u) :: bd "scene" (.int (i : Int) t) :: bd "script" (.ref sc) :: ext))) → NN hG L' h' ((L' + 1, co) :: (I, it) :: (Y ++ obs w.params a g)) → Sv PySem.Challenge.rw_nz0096_01.row.prog w a g F → Eq10 F (wholeD S pre x btw b post) → G (Shared.mk h' sg sd tk' so)) → G s₂) ?_ ?_
      · intro P hP
        k_extra "o m cut"
        k_extra "o m gc"
        refine c_move (ex := (L' + 1, co) :: (I, it) :: Y) (S := S) (p := pre.length) (common := lastD pre) (todo0 := btw.reverse) (Jn S n pre x btw b post) (CC.mono (by decide)) F' ⟨_, N', Nd, V⟩ (jstep Z) Z.xf Z.bs Z.bi (jinit Z) Z.xs Z.x1 Z.com (fun S1 last mark r J => (move_all Z J).1) ?_
        clear N' F' Nd V
        intro h' tk ex' T last mark r F' hJ W'
        have E10 := (move_all Z hJ).2
        generalize finalS T last mark x b (lastD pre) = F at W' E10
        obtain ⟨g, N', Nd, V⟩ := W'
        simp only [List.cons_append, List.append_assoc, List.map_cons, List.map_append] at N' Nd
        k_extra "o m gc"
        (try refine wpAny_execs_nil ?_)
        exact hP _ (fun G kk => kk _ _ g F F' (sub_nn (by first | k_extra "o m sub" | fail) N' (by simpa only [List.map_cons, List.map_append] using Nd)) V E10)
      clear N' F' Nd V
      intro s₂ hX
      refine hX _ ?_
      clear hX
      rintro h' tk' g F F' NN' V E10
      have N' := NN'.1
      have Nd := NN'.2
      clear NN'
      dsimp only [List.map] at Nd
      k_extra "o m cut"
      -- a10
      refine seg_cutC 1 (fun s₂ => ∀ G : Shared → Prop, (∀ h' tk', (Fr hG L' h' (fun y => List.lookup y (bd "blocks" (.ref Db) :: bd "line" (.ref Dn) :: bd "whole" (.ref T3) :: bd "inner" (.ref T2) :: bd "told" (.ref T1) :: bd "block" (.int b v) :: bd "subject" (.int x u) :: bd "scene" (.int (i : Int) t) :: bd "script" (.ref sc) :: ext))) → NN hG L' h' ((I, it) :: [(L' + 1, co)]) → G (Shared.mk h' sg sd tk' so)) → G s₂) ?_ ?_
      · intro P hP
        k_extra "o m cut"
        k_extra "o m gc"
        refine c_all (ex := (L' + 1, co) :: (I, it) :: Y) (CC.mono (by decide)) F' ⟨_, N', Nd, V⟩ ?_
        clear N' F' Nd V
        intro h' tk D F' W'
        obtain ⟨g, N', Nd, V⟩ := W'
        simp only [List.cons_append, List.map_cons] at N' Nd
        k_extra "o m gn"
        refine l_neW (S := F) (T := wholeD S pre x btw b post) N' (by first | k_extra "o mem" | fail) (by first | k_extra "o mem" | fail) (whole_sv V) (fun p hp => ?_) W3 (fun p hp => ?_) E10.dats E10.co (dats_ok (TX.whole pre x btw b post)) CC.room2 ?_
        · exact .tail _ (.tail _ (.tail _ (List.mem_append_right _ hp)))
        · exact .tail _ (.tail _ (.tail _ (List.mem_append_left _ hp)))
        k_extra "o m gc"
        (try refine wpAny_execs_nil ?_)
        exact hP _ (fun G kk => kk _ _ F' (perm_nn (.swap _ _ _) (sub_nn (r := [(L' + 1, co), (I, it)]) (by first | k_extra "o m sub" | fail) N' Nd).1 (sub_nn (r := [(L' + 1, co), (I, it)]) (by first | k_extra "o m sub" | fail) N' Nd).2))
      clear N' F' Nd V
      intro s₂ hX
      refine hX _ ?_
      clear hX
      rintro h' tk' F' ⟨N', Nd⟩
      k_extra "o m cut"
      (try refine wpAny_execs_nil ?_)
      have hfr := lk_front (a := bd "scene" (.int (i : Int) t)) (b := bd "script" (.ref sc)) (f := [bd "blocks" (.ref Db), bd "line" (.ref Dn), bd "whole" (.ref T3), bd "inner" (.ref T2), bd "told" (.ref T1), bd "block" (.int b v), bd "subject" (.int x u)]) (ext := ext) rfl rfl
      exact ⟨(co, ⟨_, look_app_none (l := [bd "blocks" (.ref Db), bd "line" (.ref Dn), bd "whole" (.ref T3), bd "inner" (.ref T2), bd "told" (.ref T1), bd "block" (.int b v), bd "subject" (.int x u)]) rfl hext⟩), _, _, rfl, hfr ▸ F', N', Nd, _, dc⟩
    · clear N' F' hr0 right
      rintro ⟨co, ext, hext⟩ h tk o ⟨vc, hvc⟩ ho F' N' Nd
      (try refine wpAny_execs_nil ?_)
      exact hP _ (fun G kk => kk _ _ _ _ F' N')
  · intro s₂ hX
    refine hX _ ?_
    clear hX
    rintro h' tk' l co F' N'
    k_extra "o m cut"
    k_extra "o m gc"
    dsimp only
    skip
    refine' goodW_bool ?ga ?gb (raisesW_false ?gc) ?gd
    case ga => assumption
    case gb => assumption
    case gc => wrow_none_raised
    case gd => wrow_post

end Mine.Internal
theorem PySem.Challenge.cw_nz0096_01_holds : PySem.Challenge.rw_nz0096_01.Holds :=
  Mine.Internal.the_law
