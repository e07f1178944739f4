import PyProof.Rows.All
import Wide.All
import OpenK.AllK
import Wide.FinOn
import PySem.Challenge.RW_sa0158_01
open PySem PySem.W PyProof.Rows
set_option Elab.async false
set_option maxRecDepth 100000
set_option maxHeartbeats 0
set_option linter.all false
local macro_rules | `(tactic| walk_at $s:str) => `(tactic| k_extra $s)
local macro_rules | `(tactic| k_upd) => `(tactic| k_extra "k_upd")
local macro_rules | `(tactic| k_all) => `(tactic| k_extra "k_all")
local macro_rules | `(tactic| k_mem) => `(tactic| k_extra "k_mem")
local macro_rules | `(tactic| k_ne) => `(tactic| k_extra "k_ne")
namespace Mine
theorem self : PySem.Builtin.PosixPinned.interpreterIsAFile = PySem.Builtin.PosixPinned.interpreterIsAFile := rfl
name_quick tw2711585505577850959 for PySem.Builtin.PosixPinned.interpreterIsAFile by self
name_quick tw8620020772036689432 for PySem.Builtin.PosixPinned.interpreterIsAFile by self
name_quick tw12835720964997663042 for PySem.Builtin.PosixPinned.interpreterIsAFile by self
name_quick tw13987355940573415152 for PySem.Builtin.PosixPinned.interpreterIsAFile by self
name_quick tw6004533443673955352 for PySem.Builtin.PosixPinned.interpreterIsAFile by self
name_quick tw17517737089405305841 for PySem.Builtin.PosixPinned.interpreterIsAFile by self
name_quick tw9674257727999782656 for PySem.Builtin.PosixPinned.interpreterIsAFile by self
name_quick tw7009043117176579089 for PySem.Builtin.PosixPinned.interpreterIsAFile by self
name_quick tw13160144027095335755 for PySem.Builtin.PosixPinned.interpreterIsAFile by self
name_quick tw1379578315556383370 for PySem.Builtin.PosixPinned.interpreterIsAFile by self
name_quick tw9011979029575296479 for PySem.Builtin.PosixPinned.interpreterIsAFile by self
name_quick tw17827458813498177553 for PySem.Builtin.PosixPinned.interpreterIsAFile by self
name_quick tw7250012664060256230 for PySem.Builtin.PosixPinned.interpreterIsAFile by self
name_quick tw1291980286583624508 for PySem.Builtin.PosixPinned.interpreterIsAFile by self
name_quick tw2718901123391026995 for PySem.Builtin.PosixPinned.interpreterIsAFile by self
name_quick tw2001226814458364393 for PySem.Builtin.PosixPinned.interpreterIsAFile by self
name_quick tw1258717718454355964 for PySem.Builtin.PosixPinned.interpreterIsAFile by self
name_quick tw15560500314895047343 for PySem.Builtin.PosixPinned.interpreterIsAFile by self
name_quick tw16145008321745377990 for PySem.Builtin.PosixPinned.interpreterIsAFile by self
name_quick tw4636218855388986860 for PySem.Builtin.PosixPinned.interpreterIsAFile by self
name_quick tw17244072584429378644 for PySem.Builtin.PosixPinned.interpreterIsAFile by self
name_quick tw13640514254501968386 for PySem.Builtin.PosixPinned.interpreterIsAFile by self
name_quick tw17804436615005485693 for PySem.Builtin.PosixPinned.interpreterIsAFile by self
name_quick tw3856783459128436802 for PySem.Builtin.PosixPinned.interpreterIsAFile by self
name_quick tw15079194523842364033 for PySem.Builtin.PosixPinned.interpreterIsAFile by self
name_quick tw10379131730601215995 for PySem.Builtin.PosixPinned.interpreterIsAFile by self
name_quick tw5758256569797452207 for PySem.Builtin.PosixPinned.interpreterIsAFile by self
name_quick tw3093977132361051618 for PySem.Builtin.PosixPinned.interpreterIsAFile by self
name_quick tw4172830789200971933 for PySem.Builtin.PosixPinned.interpreterIsAFile by self
name_quick tw7275051467321613617 for PySem.Builtin.PosixPinned.interpreterIsAFile by self
name_quick tw17846936440860909165 for PySem.Builtin.PosixPinned.interpreterIsAFile by self
name_quick tw973662469405803806 for PySem.Builtin.PosixPinned.interpreterIsAFile by self
name_quick tw17475289236778735526 for PySem.Builtin.PosixPinned.interpreterIsAFile by self
name_quick tw10528696920762540405 for PySem.Builtin.PosixPinned.interpreterIsAFile by self
name_quick tw12233582284571471492 for PySem.Builtin.PosixPinned.interpreterIsAFile by self
name_quick tw17352973434858128600 for PySem.Builtin.PosixPinned.interpreterIsAFile by self
name_quick tw17730448691065144110 for PySem.Builtin.PosixPinned.interpreterIsAFile by self
name_quick tw6135381517318000843 for PySem.Builtin.PosixPinned.interpreterIsAFile by self
name_quick tw10015664371746657536 for PySem.Builtin.PosixPinned.interpreterIsAFile by self
name_quick tw3619232141914619222 for PySem.Builtin.PosixPinned.interpreterIsAFile by self
name_quick tw1829445100760108279 for PySem.Builtin.PosixPinned.interpreterIsAFile by self
name_quick tw14570392475798078841 for PySem.Builtin.PosixPinned.interpreterIsAFile by self
name_quick tw6952355047532471503 for PySem.Builtin.PosixPinned.interpreterIsAFile by self
name_quick tw1184552218554016812 for PySem.Builtin.PosixPinned.interpreterIsAFile by self
name_quick tw2759451637364818457 for PySem.Builtin.PosixPinned.interpreterIsAFile by self
name_quick tw9376109419431680627 for PySem.Builtin.PosixPinned.interpreterIsAFile by self
name_quick tw189603312586018693 for PySem.Builtin.PosixPinned.interpreterIsAFile by self
name_quick tw3766158894648301139 for PySem.Builtin.PosixPinned.interpreterIsAFile by self
name_quick tw2736616831223182526 for PySem.Builtin.PosixPinned.interpreterIsAFile by self
name_quick tw757081541053455785 for PySem.Builtin.PosixPinned.interpreterIsAFile by self
name_quick tw16413264400604254196 for PySem.Builtin.PosixPinned.interpreterIsAFile by self
name_quick tw13471461260053382970 for PySem.Builtin.PosixPinned.interpreterIsAFile by self
name_quick tw11306939235166856333 for PySem.Builtin.PosixPinned.interpreterIsAFile by self
name_quick tw12268644228514654432 for PySem.Builtin.PosixPinned.interpreterIsAFile by self
name_quick tw13526986893379352335 for PySem.Builtin.PosixPinned.interpreterIsAFile by self
name_quick tw460243522976405022 for PySem.Builtin.PosixPinned.interpreterIsAFile by self
name_quick tw8704618095886561957 for PySem.Builtin.PosixPinned.interpreterIsAFile by self
name_quick tw4407734736301137906 for PySem.Builtin.PosixPinned.interpreterIsAFile by self
name_quick tw4434333111790514575 for PySem.Builtin.PosixPinned.interpreterIsAFile by self
name_quick tw13721567128424951087 for PySem.Builtin.PosixPinned.interpreterIsAFile by self
name_quick tw5978237884098788730 for PySem.Builtin.PosixPinned.interpreterIsAFile by self
name_quick tw9787463984185863102 for PySem.Builtin.PosixPinned.interpreterIsAFile by self
name_quick tw6144853644547557980 for PySem.Builtin.PosixPinned.interpreterIsAFile by self
name_quick tw18350330562280901221 for PySem.Builtin.PosixPinned.interpreterIsAFile by self
name_quick tw10010936943081839664 for PySem.Builtin.PosixPinned.interpreterIsAFile by self
name_quick tw17943406268862710625 for PySem.Builtin.PosixPinned.interpreterIsAFile by self
name_quick tw3315324234476444515 for PySem.Builtin.PosixPinned.interpreterIsAFile by self
name_quick tw18273839248471157720 for PySem.Builtin.PosixPinned.interpreterIsAFile by self
name_quick tw13377344109577151345 for PySem.Builtin.PosixPinned.interpreterIsAFile by self
name_quick tw16506674148738884859 for PySem.Builtin.PosixPinned.interpreterIsAFile by self
name_quick tw12821735335276811757 for PySem.Builtin.PosixPinned.interpreterIsAFile by self
name_quick tw15468230090516036684 for PySem.Builtin.PosixPinned.interpreterIsAFile by self
name_quick tw14896874001708588922 for PySem.Builtin.PosixPinned.interpreterIsAFile by self
name_quick tw151948405760981731 for PySem.Builtin.PosixPinned.interpreterIsAFile by self
name_quick tw5732905514179830355 for PySem.Builtin.PosixPinned.interpreterIsAFile by self
name_quick tw7035115661146626270 for PySem.Builtin.PosixPinned.interpreterIsAFile by self
name_quick tw607167704815816724 for PySem.Builtin.PosixPinned.interpreterIsAFile by self
name_quick tw14311459727803291754 for PySem.Builtin.PosixPinned.interpreterIsAFile by self
name_quick tw13607416678640721797 for PySem.Builtin.PosixPinned.interpreterIsAFile by self
name_quick tw14186486079044719983 for PySem.Builtin.PosixPinned.interpreterIsAFile by self
name_quick tw11277716924127702174 for PySem.Builtin.PosixPinned.interpreterIsAFile by self
name_quick tw13215998728584607739 for PySem.Builtin.PosixPinned.interpreterIsAFile by self
name_quick tw2968979199505139716 for PySem.Builtin.PosixPinned.interpreterIsAFile by self
name_quick tw16741492637210864865 for PySem.Builtin.PosixPinned.interpreterIsAFile by self
name_quick tw9285146279643344392 for PySem.Builtin.PosixPinned.interpreterIsAFile by self
name_quick tw4278798014809849964 for PySem.Builtin.PosixPinned.interpreterIsAFile by self
name_quick tw17954736447514056666 for PySem.Builtin.PosixPinned.interpreterIsAFile by self
name_quick tw10308316962582663543 for PySem.Builtin.PosixPinned.interpreterIsAFile by self
name_quick tw11130039905162102590 for PySem.Builtin.PosixPinned.interpreterIsAFile by self
name_quick tw18101931140130867144 for PySem.Builtin.PosixPinned.interpreterIsAFile by self
name_quick tw10073347824450446311 for PySem.Builtin.PosixPinned.interpreterIsAFile by self
name_quick tw5149714755402479525 for PySem.Builtin.PosixPinned.interpreterIsAFile by self
name_quick tw15007238320947547705 for PySem.Builtin.PosixPinned.interpreterIsAFile by self
name_quick tw7585139358526817783 for PySem.Builtin.PosixPinned.interpreterIsAFile by self
name_quick tw15168306246750427876 for PySem.Builtin.PosixPinned.interpreterIsAFile by self
name_quick tw1617757218408452269 for PySem.Builtin.PosixPinned.interpreterIsAFile by self
name_quick tw15560853006256673968 for PySem.Builtin.PosixPinned.interpreterIsAFile by self
name_quick tw951843321253372498 for PySem.Builtin.PosixPinned.interpreterIsAFile by self
name_quick tw12647630874787467225 for PySem.Builtin.PosixPinned.interpreterIsAFile by self
name_quick tw14386061602966655976 for PySem.Builtin.PosixPinned.interpreterIsAFile by self
name_quick tw3891137856419664920 for PySem.Builtin.PosixPinned.interpreterIsAFile by self
name_quick tw17101871299007795629 for PySem.Builtin.PosixPinned.interpreterIsAFile by self
name_quick tw13915792640404377917 for PySem.Builtin.PosixPinned.interpreterIsAFile by self
name_quick tw16643379632663270332 for PySem.Builtin.PosixPinned.interpreterIsAFile by self
name_quick tw16966814322356759819 for PySem.Builtin.PosixPinned.interpreterIsAFile by self
name_quick tw4658958612460137192 for PySem.Builtin.PosixPinned.interpreterIsAFile by self
name_quick tw17964007177503468958 for PySem.Builtin.PosixPinned.interpreterIsAFile by self
name_quick tw16413963553889246368 for PySem.Builtin.PosixPinned.interpreterIsAFile by self
name_quick tw6587116730350146372 for PySem.Builtin.PosixPinned.interpreterIsAFile by self
name_quick tw3355348695024010778 for PySem.Builtin.PosixPinned.interpreterIsAFile by self
name_quick tw16494616584097029746 for PySem.Builtin.PosixPinned.interpreterIsAFile by self
name_quick tw7299951869573292228 for PySem.Builtin.PosixPinned.interpreterIsAFile by self
name_quick tw17888162413812561239 for PySem.Builtin.PosixPinned.interpreterIsAFile by self
name_quick tw14537914154153760125 for PySem.Builtin.PosixPinned.interpreterIsAFile by self
name_quick tw503676674663206642 for PySem.Builtin.PosixPinned.interpreterIsAFile by self
name_quick tw5882768191206486792 for PySem.Builtin.PosixPinned.interpreterIsAFile by self
name_quick tw4275521005467322725 for PySem.Builtin.PosixPinned.interpreterIsAFile by self
name_quick tw14108194823987119177 for PySem.Builtin.PosixPinned.interpreterIsAFile by self
name_quick tw3577408171920636059 for PySem.Builtin.PosixPinned.interpreterIsAFile by self
name_quick tw912392155897948271 for PySem.Builtin.PosixPinned.interpreterIsAFile by self
name_quick tw17164873540382356111 for PySem.Builtin.PosixPinned.interpreterIsAFile by self
name_quick tw17071476683966804577 for PySem.Builtin.PosixPinned.interpreterIsAFile by self
name_quick tw17344680358763864322 for PySem.Builtin.PosixPinned.interpreterIsAFile by self
name_quick tw5152784196030571298 for PySem.Builtin.PosixPinned.interpreterIsAFile by self
name_quick tw18260038339965228139 for PySem.Builtin.PosixPinned.interpreterIsAFile by self
name_quick tw4613930686462287906 for PySem.Builtin.PosixPinned.interpreterIsAFile by self
name_quick tw39160002569200845 for PySem.Builtin.PosixPinned.interpreterIsAFile by self
name_quick tw8902219603052485911 for PySem.Builtin.PosixPinned.interpreterIsAFile by self
name_quick tw16180582048198870337 for PySem.Builtin.PosixPinned.interpreterIsAFile by self
name_quick tw1320183511955256522 for PySem.Builtin.PosixPinned.interpreterIsAFile by self
name_quick tw2011108890870493169 for PySem.Builtin.PosixPinned.interpreterIsAFile by self
name_quick tw9979284746773624096 for PySem.Builtin.PosixPinned.interpreterIsAFile by self
name_quick tw14126943448341045398 for PySem.Builtin.PosixPinned.interpreterIsAFile by self
name_quick tw10939839348159177617 for PySem.Builtin.PosixPinned.interpreterIsAFile by self
name_quick tw6589095468515690095 for PySem.Builtin.PosixPinned.interpreterIsAFile by self
name_quick tw11270796479367742343 for PySem.Builtin.PosixPinned.interpreterIsAFile by self
name_quick tw10948738476641704880 for PySem.Builtin.PosixPinned.interpreterIsAFile by self
name_quick tw17975652961387846372 for PySem.Builtin.PosixPinned.interpreterIsAFile by self
name_quick tw8032284361305108907 for PySem.Builtin.PosixPinned.interpreterIsAFile by self
name_quick tw8656719876789144132 for PySem.Builtin.PosixPinned.interpreterIsAFile by self
name_quick tw15278061642289888581 for PySem.Builtin.PosixPinned.interpreterIsAFile by self
name_quick tw3698559305507148144 for PySem.Builtin.PosixPinned.interpreterIsAFile by self
name_quick tw2180166888634067806 for PySem.Builtin.PosixPinned.interpreterIsAFile by self
name_quick tw4405960384096086239 for PySem.Builtin.PosixPinned.interpreterIsAFile by self
name_quick tw17274371674624000324 for PySem.Builtin.PosixPinned.interpreterIsAFile by self
name_quick tw5357591511691535388 for PySem.Builtin.PosixPinned.interpreterIsAFile by self
name_quick tw4527066259768149269 for PySem.Builtin.PosixPinned.interpreterIsAFile by self
name_quick tw7081425507203772304 for PySem.Builtin.PosixPinned.interpreterIsAFile by self
name_quick tw1055568401681811165 for PySem.Builtin.PosixPinned.interpreterIsAFile by self
name_quick tw14333388528381170442 for PySem.Builtin.PosixPinned.interpreterIsAFile by self
name_quick tw11853533878840232495 for PySem.Builtin.PosixPinned.interpreterIsAFile by self
name_quick tw17899373020297197333 for PySem.Builtin.PosixPinned.interpreterIsAFile by self
name_quick tw10045867985992453528 for PySem.Builtin.PosixPinned.interpreterIsAFile by self
name_quick tw16039550372008468697 for PySem.Builtin.PosixPinned.interpreterIsAFile by self
name_quick tw3362959441861295915 for PySem.Builtin.PosixPinned.interpreterIsAFile by self
name_quick tw1370275717833778536 for PySem.Builtin.PosixPinned.interpreterIsAFile by self
name_quick tw8579058602437062094 for PySem.Builtin.PosixPinned.interpreterIsAFile by self
name_quick tw12393455550290869266 for PySem.Builtin.PosixPinned.interpreterIsAFile by self
name_quick tw5068434257544371817 for PySem.Builtin.PosixPinned.interpreterIsAFile by self
name_quick tw12660628722211587041 for PySem.Builtin.PosixPinned.interpreterIsAFile by self
name_quick tw16406328271908756883 for PySem.Builtin.PosixPinned.interpreterIsAFile by self
name_quick tw17111948838632640456 for PySem.Builtin.PosixPinned.interpreterIsAFile by self
name_quick tw17139780236743587250 for PySem.Builtin.PosixPinned.interpreterIsAFile by self
name_quick tw16548257151911338427 for PySem.Builtin.PosixPinned.interpreterIsAFile by self
name_quick tw16817318245366136608 for PySem.Builtin.PosixPinned.interpreterIsAFile by self
name_quick tw17552769576498331613 for PySem.Builtin.PosixPinned.interpreterIsAFile by self
name_quick tw13580328829973926956 for PySem.Builtin.PosixPinned.interpreterIsAFile by self
name_quick tw1735497430108182060 for PySem.Builtin.PosixPinned.interpreterIsAFile by self
name_quick tw4978915544186085027 for PySem.Builtin.PosixPinned.interpreterIsAFile by self
name_quick tw15900120412870309639 for PySem.Builtin.PosixPinned.interpreterIsAFile by self
name_quick tw10007627690174824804 for PySem.Builtin.PosixPinned.interpreterIsAFile by self
name_quick tw4292500188555128830 for PySem.Builtin.PosixPinned.interpreterIsAFile by self
name_quick tw1749818173716722547 for PySem.Builtin.PosixPinned.interpreterIsAFile by self
name_quick tw5823794197072137003 for PySem.Builtin.PosixPinned.interpreterIsAFile by self
name_quick tw2315820567201803617 for PySem.Builtin.PosixPinned.interpreterIsAFile by self
name_quick tw16531745337717519161 for PySem.Builtin.PosixPinned.interpreterIsAFile by self
name_quick tw7496433998918960881 for PySem.Builtin.PosixPinned.interpreterIsAFile by self
name_quick tw17069979004554194336 for PySem.Builtin.PosixPinned.interpreterIsAFile by self
name_quick tw15902184279288820625 for PySem.Builtin.PosixPinned.interpreterIsAFile by self
name_quick tw13912434898499826684 for PySem.Builtin.PosixPinned.interpreterIsAFile by self
name_quick tw3953757239420563355 for PySem.Builtin.PosixPinned.interpreterIsAFile by self
name_quick tw11740888236361828772 for PySem.Builtin.PosixPinned.interpreterIsAFile by self
name_quick tw13016732220969518872 for PySem.Builtin.PosixPinned.interpreterIsAFile by self
name_quick tw1139862187096482527 for PySem.Builtin.PosixPinned.interpreterIsAFile by self
name_quick tw5076957145309523181 for PySem.Builtin.PosixPinned.interpreterIsAFile by self
name_quick tw17394056326795013819 for PySem.Builtin.PosixPinned.interpreterIsAFile by self
name_quick tw15263041282635125899 for PySem.Builtin.PosixPinned.interpreterIsAFile by self
name_quick tw14778209649434054790 for PySem.Builtin.PosixPinned.interpreterIsAFile by self
name_quick tw9931943479562821362 for PySem.Builtin.PosixPinned.interpreterIsAFile by self
name_quick tw2905824091091238844 for PySem.Builtin.PosixPinned.interpreterIsAFile by self
name_quick tw136631920214876835 for PySem.Builtin.PosixPinned.interpreterIsAFile by self
name_quick tw2378363196638174374 for PySem.Builtin.PosixPinned.interpreterIsAFile by self
name_quick tw5721027456603625697 for PySem.Builtin.PosixPinned.interpreterIsAFile by self
name_quick tw13317431791736044220 for PySem.Builtin.PosixPinned.interpreterIsAFile by self
name_quick tw12290603225136948437 for PySem.Builtin.PosixPinned.interpreterIsAFile by self
name_quick tw389472881494512206 for PySem.Builtin.PosixPinned.interpreterIsAFile by self
name_quick tw6122645084068987007 for PySem.Builtin.PosixPinned.interpreterIsAFile by self
name_quick tw15041003319150489328 for PySem.Builtin.PosixPinned.interpreterIsAFile by self
name_quick tw15562837088269578035 for PySem.Builtin.PosixPinned.interpreterIsAFile by self
name_quick tw10955440031540916060 for PySem.Builtin.PosixPinned.interpreterIsAFile by self
name_quick tw1537898542681612871 for PySem.Builtin.PosixPinned.interpreterIsAFile by self
name_quick tw14209830616999942402 for PySem.Builtin.PosixPinned.interpreterIsAFile by self
name_quick tw15880737140895825463 for PySem.Builtin.PosixPinned.interpreterIsAFile by self
name_quick tw14714103240675001986 for PySem.Builtin.PosixPinned.interpreterIsAFile by self
name_quick tw1041845030581493396 for PySem.Builtin.PosixPinned.interpreterIsAFile by self
name_quick tw17503288770812694035 for PySem.Builtin.PosixPinned.interpreterIsAFile by self
name_quick tw2422670821966735624 for PySem.Builtin.PosixPinned.interpreterIsAFile by self
name_quick tw8860024209350480642 for PySem.Builtin.PosixPinned.interpreterIsAFile by self
name_quick tw8719427161674164953 for PySem.Builtin.PosixPinned.interpreterIsAFile by self
name_quick tw7581816359482902497 for PySem.Builtin.PosixPinned.interpreterIsAFile by self
name_quick tw9594665118957945026 for PySem.Builtin.PosixPinned.interpreterIsAFile by self
name_quick tw10718892041063643863 for PySem.Builtin.PosixPinned.interpreterIsAFile by self
name_quick tw1708024556718086227 for PySem.Builtin.PosixPinned.interpreterIsAFile by self
name_quick tw3267979357774110234 for PySem.Builtin.PosixPinned.interpreterIsAFile by self
name_quick tw7397068168572129948 for PySem.Builtin.PosixPinned.interpreterIsAFile by self
name_quick tw17476080006546285661 for PySem.Builtin.PosixPinned.interpreterIsAFile by self
name_quick tw11333186260410459676 for PySem.Builtin.PosixPinned.interpreterIsAFile by self
name_quick tw16869277618539721502 for PySem.Builtin.PosixPinned.interpreterIsAFile by self
name_quick tw15423634916342008072 for PySem.Builtin.PosixPinned.interpreterIsAFile by self
name_quick tw9501820088010722379 for PySem.Builtin.PosixPinned.interpreterIsAFile by self
name_quick tw3282434896037501709 for PySem.Builtin.PosixPinned.interpreterIsAFile by self
name_quick tw2627984346626558326 for PySem.Builtin.PosixPinned.interpreterIsAFile by self
name_quick tw16752143609539240740 for PySem.Builtin.PosixPinned.interpreterIsAFile by self
name_quick tw183835017167291270 for PySem.Builtin.PosixPinned.interpreterIsAFile by self
name_quick tw16873187988247708562 for PySem.Builtin.PosixPinned.interpreterIsAFile by self
name_quick tw7198390536060210744 for PySem.Builtin.PosixPinned.interpreterIsAFile by self
name_quick tw4075660801711882420 for PySem.Builtin.PosixPinned.interpreterIsAFile by self
name_quick tw5565278806992967083 for PySem.Builtin.PosixPinned.interpreterIsAFile by self
name_quick tw11519604305632133818 for PySem.Builtin.PosixPinned.interpreterIsAFile by self
name_quick tw15823609455315575823 for PySem.Builtin.PosixPinned.interpreterIsAFile by self
name_quick tw12898947447245864913 for PySem.Builtin.PosixPinned.interpreterIsAFile by self
name_quick tw6426273055680023932 for PySem.Builtin.PosixPinned.interpreterIsAFile by self
name_quick tw2460228577881660442 for PySem.Builtin.PosixPinned.interpreterIsAFile by self
name_quick tw5189142188285759775 for PySem.Builtin.PosixPinned.interpreterIsAFile by self
name_quick tw16350708796919097252 for PySem.Builtin.PosixPinned.interpreterIsAFile by self
name_quick tw724751600484774222 for PySem.Builtin.PosixPinned.interpreterIsAFile by self
name_quick tw16487347958798203451 for PySem.Builtin.PosixPinned.interpreterIsAFile by self
name_quick tw2283851925072248500 for PySem.Builtin.PosixPinned.interpreterIsAFile by self
name_quick tw17954471519018878134 for PySem.Builtin.PosixPinned.interpreterIsAFile by self
name_quick tw4302124980754421698 for PySem.Builtin.PosixPinned.interpreterIsAFile by self
name_quick tw11518781747449614426 for PySem.Builtin.PosixPinned.interpreterIsAFile by self
name_quick tw725871291056497461 for PySem.Builtin.PosixPinned.interpreterIsAFile by self
name_quick tw6179359751918216688 for PySem.Builtin.PosixPinned.interpreterIsAFile by self
name_quick tw6789855027759293466 for PySem.Builtin.PosixPinned.interpreterIsAFile by self
name_quick tw9458956999447867950 for PySem.Builtin.PosixPinned.interpreterIsAFile by self
name_quick tw5529568453561195837 for PySem.Builtin.PosixPinned.interpreterIsAFile by self
name_quick tw5923252988546675246 for PySem.Builtin.PosixPinned.interpreterIsAFile by self
name_quick tw12734952128020822468 for PySem.Builtin.PosixPinned.interpreterIsAFile by self
name_quick tw12182807814244774211 for PySem.Builtin.PosixPinned.interpreterIsAFile by self
name_quick tw7094674258960923220 for PySem.Builtin.PosixPinned.interpreterIsAFile by self
name_quick tw13314330512976039754 for PySem.Builtin.PosixPinned.interpreterIsAFile by self
name_quick tw17803129079492736432 for PySem.Builtin.PosixPinned.interpreterIsAFile by self
name_quick tw8796240567053077481 for PySem.Builtin.PosixPinned.interpreterIsAFile by self
name_quick tw10919533547850550483 for PySem.Builtin.PosixPinned.interpreterIsAFile by self
name_quick tw1574873078441994576 for PySem.Builtin.PosixPinned.interpreterIsAFile by self
name_quick tw8450942572126056277 for PySem.Builtin.PosixPinned.interpreterIsAFile by self
name_quick tw14981143343336467331 for PySem.Builtin.PosixPinned.interpreterIsAFile by self
name_quick tw17000155066101142889 for PySem.Builtin.PosixPinned.interpreterIsAFile by self
name_quick tw196644378293983589 for PySem.Builtin.PosixPinned.interpreterIsAFile by self
name_quick tw2354101950205528012 for PySem.Builtin.PosixPinned.interpreterIsAFile by self
name_quick tw2334299552400917057 for PySem.Builtin.PosixPinned.interpreterIsAFile by self
name_quick tw16339471991904476338 for PySem.Builtin.PosixPinned.interpreterIsAFile by self
name_quick tw17280976486791472633 for PySem.Builtin.PosixPinned.interpreterIsAFile by self
name_quick tw14323765505736481980 for PySem.Builtin.PosixPinned.interpreterIsAFile by self
name_quick tw6993175162768986339 for PySem.Builtin.PosixPinned.interpreterIsAFile by self
name_quick tw16593013826814733010 for PySem.Builtin.PosixPinned.interpreterIsAFile by self
name_quick tw15490439104401381959 for PySem.Builtin.PosixPinned.interpreterIsAFile by self
name_quick tw16643706677886111943 for PySem.Builtin.PosixPinned.interpreterIsAFile by self
name_quick tw16374537267813192141 for PySem.Builtin.PosixPinned.interpreterIsAFile by self
name_quick tw10887116778572429059 for PySem.Builtin.PosixPinned.interpreterIsAFile by self
name_quick tw1419416864934026935 for PySem.Builtin.PosixPinned.interpreterIsAFile by self
name_quick tw10323183001455561277 for PySem.Builtin.PosixPinned.interpreterIsAFile by self
name_quick tw3424931102881643321 for PySem.Builtin.PosixPinned.interpreterIsAFile by self
name_quick tw1631149150583789468 for PySem.Builtin.PosixPinned.interpreterIsAFile by self
name_quick tw5349121933718820234 for PySem.Builtin.PosixPinned.interpreterIsAFile by self
name_quick tw9136488742655976645 for PySem.Builtin.PosixPinned.interpreterIsAFile by self
name_quick tw15919542637913265678 for PySem.Builtin.PosixPinned.interpreterIsAFile by self
name_quick tw15980859228951719591 for PySem.Builtin.PosixPinned.interpreterIsAFile by self
name_quick tw17532440430192770315 for PySem.Builtin.PosixPinned.interpreterIsAFile by self
name_quick tw11825729669827539873 for PySem.Builtin.PosixPinned.interpreterIsAFile by self
name_quick tw2478078296215019888 for PySem.Builtin.PosixPinned.interpreterIsAFile by self
name_quick tw11964429278604863157 for PySem.Builtin.PosixPinned.interpreterIsAFile by self
name_quick tw2611137233208623240 for PySem.Builtin.PosixPinned.interpreterIsAFile by self
name_quick tw15773981995205291829 for PySem.Builtin.PosixPinned.interpreterIsAFile by self
name_quick tw1102190903223815498 for PySem.Builtin.PosixPinned.interpreterIsAFile by self
name_quick tw8206430501311747189 for PySem.Builtin.PosixPinned.interpreterIsAFile by self
name_quick tw16758808235637498351 for PySem.Builtin.PosixPinned.interpreterIsAFile by self
name_quick tw3105397867545767578 for PySem.Builtin.PosixPinned.interpreterIsAFile by self
name_quick tw1402947280878808549 for PySem.Builtin.PosixPinned.interpreterIsAFile by self
name_quick tw3976722010076183465 for PySem.Builtin.PosixPinned.interpreterIsAFile by self
name_quick tw1258299570235058372 for PySem.Builtin.PosixPinned.interpreterIsAFile by self
name_quick tw6909570525239066004 for PySem.Builtin.PosixPinned.interpreterIsAFile by self
name_quick tw13833065179229638619 for PySem.Builtin.PosixPinned.interpreterIsAFile by self
name_quick tw6722154040420286063 for PySem.Builtin.PosixPinned.interpreterIsAFile by self
name_quick tw17988542015724977305 for PySem.Builtin.PosixPinned.interpreterIsAFile by self
name_quick tw9504726810853072989 for PySem.Builtin.PosixPinned.interpreterIsAFile by self
name_quick tw2370070277545300124 for PySem.Builtin.PosixPinned.interpreterIsAFile by self
name_quick tw16846860572762119324 for PySem.Builtin.PosixPinned.interpreterIsAFile by self
name_quick tw18410474027866654770 for PySem.Builtin.PosixPinned.interpreterIsAFile by self
name_quick tw17672482021469178181 for PySem.Builtin.PosixPinned.interpreterIsAFile by self
name_quick tw3972328310683599613 for PySem.Builtin.PosixPinned.interpreterIsAFile by self
name_quick tw5396446701170858492 for PySem.Builtin.PosixPinned.interpreterIsAFile by self
name_quick tw6679490504615227074 for PySem.Builtin.PosixPinned.interpreterIsAFile by self
name_quick tw4936483359421988267 for PySem.Builtin.PosixPinned.interpreterIsAFile by self
name_quick tw3327986453032591115 for PySem.Builtin.PosixPinned.interpreterIsAFile by self
name_quick tw9763268239775435451 for PySem.Builtin.PosixPinned.interpreterIsAFile by self
name_quick tw3695515675974049574 for PySem.Builtin.PosixPinned.interpreterIsAFile by self
name_quick tw14168537005229113720 for PySem.Builtin.PosixPinned.interpreterIsAFile by self
name_quick tw3442601649717412197 for PySem.Builtin.PosixPinned.interpreterIsAFile by self
name_quick tw8693227569615203950 for PySem.Builtin.PosixPinned.interpreterIsAFile by self
name_quick tw14821650378409806113 for PySem.Builtin.PosixPinned.interpreterIsAFile by self
name_quick tw8753696776887207221 for PySem.Builtin.PosixPinned.interpreterIsAFile by self
name_quick tw932993149863042379 for PySem.Builtin.PosixPinned.interpreterIsAFile by self
name_quick tw3264259588550801142 for PySem.Builtin.PosixPinned.interpreterIsAFile by self
name_quick tw11462045893675790159 for PySem.Builtin.PosixPinned.interpreterIsAFile by self
name_quick tw18263319221461684349 for PySem.Builtin.PosixPinned.interpreterIsAFile by self
name_quick tw6380047634161181297 for PySem.Builtin.PosixPinned.interpreterIsAFile by self
name_quick tw13678640442995254988 for PySem.Builtin.PosixPinned.interpreterIsAFile by self
name_quick tw16417370028952169744 for PySem.Builtin.PosixPinned.interpreterIsAFile by self
name_quick tw11543547407058413889 for PySem.Builtin.PosixPinned.interpreterIsAFile by self
name_quick tw1886563365779066154 for PySem.Builtin.PosixPinned.interpreterIsAFile by self
name_quick tw11256389202845128640 for PySem.Builtin.PosixPinned.interpreterIsAFile by self
name_quick tw4549333791460862111 for PySem.Builtin.PosixPinned.interpreterIsAFile by self
name_quick tw6019396324639902685 for PySem.Builtin.PosixPinned.interpreterIsAFile by self
name_quick tw2401699919119007470 for PySem.Builtin.PosixPinned.interpreterIsAFile by self
name_quick tw1085346719588807367 for PySem.Builtin.PosixPinned.interpreterIsAFile by self
name_quick tw8253183596043897158 for PySem.Builtin.PosixPinned.interpreterIsAFile by self
name_quick tw14285029430470858289 for PySem.Builtin.PosixPinned.interpreterIsAFile by self
name_quick tw5862295025349918931 for PySem.Builtin.PosixPinned.interpreterIsAFile by self
name_quick tw6363645014702824404 for PySem.Builtin.PosixPinned.interpreterIsAFile by self
name_quick tw8075568018651887793 for PySem.Builtin.PosixPinned.interpreterIsAFile by self
name_quick tw13725850141900786883 for PySem.Builtin.PosixPinned.interpreterIsAFile by self
name_quick tw9537544019596298400 for PySem.Builtin.PosixPinned.interpreterIsAFile by self
name_quick tw14433975572909055671 for PySem.Builtin.PosixPinned.interpreterIsAFile by self
name_quick tw5268983451555188008 for PySem.Builtin.PosixPinned.interpreterIsAFile by self
name_quick tw14971970265804392439 for PySem.Builtin.PosixPinned.interpreterIsAFile by self
name_quick tw3094477031063562474 for PySem.Builtin.PosixPinned.interpreterIsAFile by self
name_quick tw17100903815162463580 for PySem.Builtin.PosixPinned.interpreterIsAFile by self
name_quick tw15066959818950650227 for PySem.Builtin.PosixPinned.interpreterIsAFile by self
name_quick tw14214133299417103183 for PySem.Builtin.PosixPinned.interpreterIsAFile by self
name_quick tw4090926877573551719 for PySem.Builtin.PosixPinned.interpreterIsAFile by self
name_quick tw9577309144901391297 for PySem.Builtin.PosixPinned.interpreterIsAFile by self
name_quick tw15542691292777871779 for PySem.Builtin.PosixPinned.interpreterIsAFile by self
name_quick tw13335737130258781183 for PySem.Builtin.PosixPinned.interpreterIsAFile by self
name_quick tw16942194440817826258 for PySem.Builtin.PosixPinned.interpreterIsAFile by self
name_quick tw7987952416473584550 for PySem.Builtin.PosixPinned.interpreterIsAFile by self
name_quick tw10235743683206289983 for PySem.Builtin.PosixPinned.interpreterIsAFile by self
name_quick tw5450187663091677483 for PySem.Builtin.PosixPinned.interpreterIsAFile by self
name_quick tw7140130562030077042 for PySem.Builtin.PosixPinned.interpreterIsAFile by self
name_quick tw9151444980202551346 for PySem.Builtin.PosixPinned.interpreterIsAFile by self
name_quick tw313226197891681235 for PySem.Builtin.PosixPinned.interpreterIsAFile by self
name_quick tw16018607276475445134 for PySem.Builtin.PosixPinned.interpreterIsAFile by self
name_quick tw15034313371233782410 for PySem.Builtin.PosixPinned.interpreterIsAFile by self
name_quick tw3436264866546951355 for PySem.Builtin.PosixPinned.interpreterIsAFile by self
name_quick tw10942035263794033107 for PySem.Builtin.PosixPinned.interpreterIsAFile by self
name_quick tw1706496860858754268 for PySem.Builtin.PosixPinned.interpreterIsAFile by self
name_quick tw11108263761283441063 for PySem.Builtin.PosixPinned.interpreterIsAFile by self
name_quick tw2862820112641550484 for PySem.Builtin.PosixPinned.interpreterIsAFile by self
name_quick tw9396933662098498411 for PySem.Builtin.PosixPinned.interpreterIsAFile by self
name_quick tw14777955251499897993 for PySem.Builtin.PosixPinned.interpreterIsAFile by self
name_quick tw13254397897704925713 for PySem.Builtin.PosixPinned.interpreterIsAFile by self
name_quick tw7269565832213808900 for PySem.Builtin.PosixPinned.interpreterIsAFile by self
name_quick tw13776390136698705113 for PySem.Builtin.PosixPinned.interpreterIsAFile by self
name_quick tw11625766737575182897 for PySem.Builtin.PosixPinned.interpreterIsAFile by self
name_quick tw7503421922109321716 for PySem.Builtin.PosixPinned.interpreterIsAFile by self
name_quick tw6550987210724342151 for PySem.Builtin.PosixPinned.interpreterIsAFile by self
name_quick tw11186114360453789277 for PySem.Builtin.PosixPinned.interpreterIsAFile by self
name_quick tw900395245841561262 for PySem.Builtin.PosixPinned.interpreterIsAFile by self
name_quick tw6434265647005701932 for PySem.Builtin.PosixPinned.interpreterIsAFile by self
name_quick tw11445135464325071761 for PySem.Builtin.PosixPinned.interpreterIsAFile by self
name_quick tw4921902886906138986 for PySem.Builtin.PosixPinned.interpreterIsAFile by self
name_quick tw716658179208862652 for PySem.Builtin.PosixPinned.interpreterIsAFile by self
name_quick tw16328912562034613984 for PySem.Builtin.PosixPinned.interpreterIsAFile by self
name_quick tw7098571738820278039 for PySem.Builtin.PosixPinned.interpreterIsAFile by self
name_quick tw1401972060568974870 for PySem.Builtin.PosixPinned.interpreterIsAFile by self
name_quick tw14305139224198610471 for PySem.Builtin.PosixPinned.interpreterIsAFile by self
name_quick tw14761518105344179592 for PySem.Builtin.PosixPinned.interpreterIsAFile by self
name_quick tw3209381107111851631 for PySem.Builtin.PosixPinned.interpreterIsAFile by self
name_quick tw8098380416015320538 for PySem.Builtin.PosixPinned.interpreterIsAFile by self
name_quick tw11790162104776037713 for PySem.Builtin.PosixPinned.interpreterIsAFile by self
name_quick tw16874561944515371726 for PySem.Builtin.PosixPinned.interpreterIsAFile by self
name_quick tw7401281599722004195 for PySem.Builtin.PosixPinned.interpreterIsAFile by self
name_quick tw11310463157757771331 for PySem.Builtin.PosixPinned.interpreterIsAFile by self
name_quick tw5673025641062948296 for PySem.Builtin.PosixPinned.interpreterIsAFile by self
name_quick tw6127375697748050860 for PySem.Builtin.PosixPinned.interpreterIsAFile by self
name_quick tw4525517667737911620 for PySem.Builtin.PosixPinned.interpreterIsAFile by self
name_quick tw9265879793445154701 for PySem.Builtin.PosixPinned.interpreterIsAFile by self
name_quick tw17026713947507217902 for PySem.Builtin.PosixPinned.interpreterIsAFile by self
name_quick tw12224578244612797663 for PySem.Builtin.PosixPinned.interpreterIsAFile by self
name_quick tw3865406201487662470 for PySem.Builtin.PosixPinned.interpreterIsAFile by self
name_quick tw12095823642532355627 for PySem.Builtin.PosixPinned.interpreterIsAFile by self
name_quick tw16697116713213952808 for PySem.Builtin.PosixPinned.interpreterIsAFile by self
name_quick tw608726401823008365 for PySem.Builtin.PosixPinned.interpreterIsAFile by self
name_quick tw6148621092414575339 for PySem.Builtin.PosixPinned.interpreterIsAFile by self
name_quick tw5345256250457102556 for PySem.Builtin.PosixPinned.interpreterIsAFile by self
name_quick tw5248340912204065574 for PySem.Builtin.PosixPinned.interpreterIsAFile by self
name_quick tw14097648870716263351 for PySem.Builtin.PosixPinned.interpreterIsAFile by self
name_quick tw1962928258387122110 for PySem.Builtin.PosixPinned.interpreterIsAFile by self
name_quick tw16241802466949684156 for PySem.Builtin.PosixPinned.interpreterIsAFile by self
name_quick tw9315938663221665524 for PySem.Builtin.PosixPinned.interpreterIsAFile by self
name_quick tw6059929106960060952 for PySem.Builtin.PosixPinned.interpreterIsAFile by self
name_quick tw1204117194425446250 for PySem.Builtin.PosixPinned.interpreterIsAFile by self
name_quick tw9673203406766833760 for PySem.Builtin.PosixPinned.interpreterIsAFile by self
name_quick tw6662432510661729299 for PySem.Builtin.PosixPinned.interpreterIsAFile by self
name_quick tw2922074901204462755 for PySem.Builtin.PosixPinned.interpreterIsAFile by self
name_quick tw15663404670287596823 for PySem.Builtin.PosixPinned.interpreterIsAFile by self
name_quick tw11994158751524154303 for PySem.Builtin.PosixPinned.interpreterIsAFile by self
name_quick tw6214688769961185500 for PySem.Builtin.PosixPinned.interpreterIsAFile by self
name_quick tw4795878175735950430 for PySem.Builtin.PosixPinned.interpreterIsAFile by self
name_quick tw17300597898927385350 for PySem.Builtin.PosixPinned.interpreterIsAFile by self
name_quick tw8658103293671471659 for PySem.Builtin.PosixPinned.interpreterIsAFile by self
name_quick tw13615603153576403970 for PySem.Builtin.PosixPinned.interpreterIsAFile by self
name_quick tw4039474712603431140 for PySem.Builtin.PosixPinned.interpreterIsAFile by self
name_quick tw17554001833073541016 for PySem.Builtin.PosixPinned.interpreterIsAFile by self
name_quick tw8881496252177385917 for PySem.Builtin.PosixPinned.interpreterIsAFile by self
name_quick tw1218959903707654005 for PySem.Builtin.PosixPinned.interpreterIsAFile by self
name_quick tw11863081143760314161 for PySem.Builtin.PosixPinned.interpreterIsAFile by self
name_quick tw7483462131439158144 for PySem.Builtin.PosixPinned.interpreterIsAFile by self
name_quick tw10205541121877940668 for PySem.Builtin.PosixPinned.interpreterIsAFile by self
name_quick tw7299303143086499733 for PySem.Builtin.PosixPinned.interpreterIsAFile by self
name_quick tw16432479971616331241 for PySem.Builtin.PosixPinned.interpreterIsAFile by self
name_quick tw9575731206691268911 for PySem.Builtin.PosixPinned.interpreterIsAFile by self
name_quick tw7365555872484859036 for PySem.Builtin.PosixPinned.interpreterIsAFile by self
name_quick tw16916688483869632129 for PySem.Builtin.PosixPinned.interpreterIsAFile by self
name_quick tw8703263022893421829 for PySem.Builtin.PosixPinned.interpreterIsAFile by self
name_quick tw8017206721242287953 for PySem.Builtin.PosixPinned.interpreterIsAFile by self
name_quick tw9236875199018929784 for PySem.Builtin.PosixPinned.interpreterIsAFile by self
name_quick tw1620339239838986703 for PySem.Builtin.PosixPinned.interpreterIsAFile by self
name_quick tw12945968074294007009 for PySem.Builtin.PosixPinned.interpreterIsAFile by self
name_quick tw14553827428707814869 for PySem.Builtin.PosixPinned.interpreterIsAFile by self
name_quick tw3039592710220408265 for PySem.Builtin.PosixPinned.interpreterIsAFile by self
name_quick tw4575980220486274672 for PySem.Builtin.PosixPinned.interpreterIsAFile by self
name_quick tw2660918139993853925 for PySem.Builtin.PosixPinned.interpreterIsAFile by self
name_quick tw558745408833754511 for PySem.Builtin.PosixPinned.interpreterIsAFile by self
name_quick tw7581352650102555174 for PySem.Builtin.PosixPinned.interpreterIsAFile by self
name_quick tw10833955939284561965 for PySem.Builtin.PosixPinned.interpreterIsAFile by self
name_quick tw15323854079317868165 for PySem.Builtin.PosixPinned.interpreterIsAFile by self
name_quick tw14837249469386935497 for PySem.Builtin.PosixPinned.interpreterIsAFile by self
name_quick tw13141144453892091621 for PySem.Builtin.PosixPinned.interpreterIsAFile by self
name_quick tw9948023125614773506 for PySem.Builtin.PosixPinned.interpreterIsAFile by self
name_quick tw4933834842325187142 for PySem.Builtin.PosixPinned.interpreterIsAFile by self
name_quick tw563124612126607214 for PySem.Builtin.PosixPinned.interpreterIsAFile by self
name_quick tw10447307335043231531 for PySem.Builtin.PosixPinned.interpreterIsAFile by self
name_quick tw10938465397075749097 for PySem.Builtin.PosixPinned.interpreterIsAFile by self
name_quick tw721709456127091705 for PySem.Builtin.PosixPinned.interpreterIsAFile by self
name_quick tw3118938333895590913 for PySem.Builtin.PosixPinned.interpreterIsAFile by self
name_quick tw16180483070735683940 for PySem.Builtin.PosixPinned.interpreterIsAFile by self
name_quick tw11682084944484805031 for PySem.Builtin.PosixPinned.interpreterIsAFile by self
name_quick tw13200701876752130231 for PySem.Builtin.PosixPinned.interpreterIsAFile by self
name_quick tw8946543629884556368 for PySem.Builtin.PosixPinned.interpreterIsAFile by self
name_quick tw10404267639988828197 for PySem.Builtin.PosixPinned.interpreterIsAFile by self
name_quick tw17730428716208468724 for PySem.Builtin.PosixPinned.interpreterIsAFile by self
name_quick tw9794667896261083176 for PySem.Builtin.PosixPinned.interpreterIsAFile by self
name_quick tw1414301608579184545 for PySem.Builtin.PosixPinned.interpreterIsAFile by self
name_quick tw14223099787259518943 for PySem.Builtin.PosixPinned.interpreterIsAFile by self
name_quick tw18163708392712065173 for PySem.Builtin.PosixPinned.interpreterIsAFile by self
name_quick tw17018628822417861297 for PySem.Builtin.PosixPinned.interpreterIsAFile by self
name_quick tw15475462885187679331 for PySem.Builtin.PosixPinned.interpreterIsAFile by self
name_quick tw3636048126100218174 for PySem.Builtin.PosixPinned.interpreterIsAFile by self
name_quick tw5706481520468235054 for PySem.Builtin.PosixPinned.interpreterIsAFile by self
name_quick tw8595292554425487202 for PySem.Builtin.PosixPinned.interpreterIsAFile by self
name_quick tw12177639751122801600 for PySem.Builtin.PosixPinned.interpreterIsAFile by self
name_quick tw5925582254088234700 for PySem.Builtin.PosixPinned.interpreterIsAFile by self
name_quick tw6929956602132211858 for PySem.Builtin.PosixPinned.interpreterIsAFile by self
name_quick tw16979880578912567463 for PySem.Builtin.PosixPinned.interpreterIsAFile by self
name_quick tw13236226663087606529 for PySem.Builtin.PosixPinned.interpreterIsAFile by self
name_quick tw12981051755390344553 for PySem.Builtin.PosixPinned.interpreterIsAFile by self
name_quick tw17057272898397164401 for PySem.Builtin.PosixPinned.interpreterIsAFile by self
name_quick tw325292655437039998 for PySem.Builtin.PosixPinned.interpreterIsAFile by self
name_quick tw7783732958741208154 for PySem.Builtin.PosixPinned.interpreterIsAFile by self
name_quick tw1107438419126420414 for PySem.Builtin.PosixPinned.interpreterIsAFile by self
name_quick tw8555734327229750603 for PySem.Builtin.PosixPinned.interpreterIsAFile by self
name_quick tw392140993173905013 for PySem.Builtin.PosixPinned.interpreterIsAFile by self
name_quick tw7504490480230193789 for PySem.Builtin.PosixPinned.interpreterIsAFile by self
name_quick tw18056578402003937789 for PySem.Builtin.PosixPinned.interpreterIsAFile by self
name_quick tw10352308551163946355 for PySem.Builtin.PosixPinned.interpreterIsAFile by self
name_quick tw7286323032743288035 for PySem.Builtin.PosixPinned.interpreterIsAFile by self
name_quick tw10029231156530900338 for PySem.Builtin.PosixPinned.interpreterIsAFile by self
name_quick tw8119918657739134586 for PySem.Builtin.PosixPinned.interpreterIsAFile by self
name_quick tw8488268690174267210 for PySem.Builtin.PosixPinned.interpreterIsAFile by self
name_quick tw4879560196417449868 for PySem.Builtin.PosixPinned.interpreterIsAFile by self
name_quick tw15736541856241217950 for PySem.Builtin.PosixPinned.interpreterIsAFile by self
name_quick tw12371321757623732685 for PySem.Builtin.PosixPinned.interpreterIsAFile by self
name_quick tw17183712847048597117 for PySem.Builtin.PosixPinned.interpreterIsAFile by self
name_quick tw11892598404827812706 for PySem.Builtin.PosixPinned.interpreterIsAFile by self
name_quick tw8047484207015712433 for PySem.Builtin.PosixPinned.interpreterIsAFile by self
name_quick tw8537084889766193716 for PySem.Builtin.PosixPinned.interpreterIsAFile by self
name_quick tw17497748084772794779 for PySem.Builtin.PosixPinned.interpreterIsAFile by self
name_quick tw16292439048969090190 for PySem.Builtin.PosixPinned.interpreterIsAFile by self
name_quick tw4071324889030633612 for PySem.Builtin.PosixPinned.interpreterIsAFile by self
name_quick tw12172078356533094185 for PySem.Builtin.PosixPinned.interpreterIsAFile by self
name_quick tw12726346659333912481 for PySem.Builtin.PosixPinned.interpreterIsAFile by self
name_quick tw3131671291697673992 for PySem.Builtin.PosixPinned.interpreterIsAFile by self
name_quick tw662354867322794072 for PySem.Builtin.PosixPinned.interpreterIsAFile by self
name_quick tw15376083050721069600 for PySem.Builtin.PosixPinned.interpreterIsAFile by self
name_quick tw15112985482279097393 for PySem.Builtin.PosixPinned.interpreterIsAFile by self
name_quick tw7670514497116975361 for PySem.Builtin.PosixPinned.interpreterIsAFile by self
name_quick tw12635297910168745909 for PySem.Builtin.PosixPinned.interpreterIsAFile by self
name_quick tw18340240734955500558 for PySem.Builtin.PosixPinned.interpreterIsAFile by self
name_quick tw2958062672499776758 for PySem.Builtin.PosixPinned.interpreterIsAFile by self
name_quick tw8610040677353227653 for PySem.Builtin.PosixPinned.interpreterIsAFile by self
name_quick tw13002492023102617099 for PySem.Builtin.PosixPinned.interpreterIsAFile by self
name_quick tw13251646731365433171 for PySem.Builtin.PosixPinned.interpreterIsAFile by self
name_quick tw1763209079605825380 for PySem.Builtin.PosixPinned.interpreterIsAFile by self
name_quick tw7082770336023389322 for PySem.Builtin.PosixPinned.interpreterIsAFile by self
name_quick tw8459811325457737761 for PySem.Builtin.PosixPinned.interpreterIsAFile by self
name_quick tw16437185098154296904 for PySem.Builtin.PosixPinned.interpreterIsAFile by self
name_quick tw13559156169165276386 for PySem.Builtin.PosixPinned.interpreterIsAFile by self
name_quick tw3386650904741475044 for PySem.Builtin.PosixPinned.interpreterIsAFile by self
name_quick tw12679591844961189642 for PySem.Builtin.PosixPinned.interpreterIsAFile by self
name_quick tw12850107946570832962 for PySem.Builtin.PosixPinned.interpreterIsAFile by self
name_quick tw4558998842232669794 for PySem.Builtin.PosixPinned.interpreterIsAFile by self
name_quick tw7892128664451923741 for PySem.Builtin.PosixPinned.interpreterIsAFile by self
name_quick tw347637069881736656 for PySem.Builtin.PosixPinned.interpreterIsAFile by self
name_quick tw7469732015759309437 for PySem.Builtin.PosixPinned.interpreterIsAFile by self
name_quick tw1638017585896720355 for PySem.Builtin.PosixPinned.interpreterIsAFile by self
name_quick tw10819683100428557426 for PySem.Builtin.PosixPinned.interpreterIsAFile by self
name_quick tw8400853705098224536 for PySem.Builtin.PosixPinned.interpreterIsAFile by self
name_quick tw4681523508651956083 for PySem.Builtin.PosixPinned.interpreterIsAFile by self
name_quick tw13252181687094117063 for PySem.Builtin.PosixPinned.interpreterIsAFile by self
name_quick tw18220123701641295943 for PySem.Builtin.PosixPinned.interpreterIsAFile by self
name_quick tw11036193050239951465 for PySem.Builtin.PosixPinned.interpreterIsAFile by self
name_quick tw10487160056961263569 for PySem.Builtin.PosixPinned.interpreterIsAFile by self
name_quick tw7911975351377939199 for PySem.Builtin.PosixPinned.interpreterIsAFile by self
name_quick tw9951705424602377420 for PySem.Builtin.PosixPinned.interpreterIsAFile by self
name_quick tw4552823106982906706 for PySem.Builtin.PosixPinned.interpreterIsAFile by self
name_quick tw17765544955259793912 for PySem.Builtin.PosixPinned.interpreterIsAFile by self
name_quick tw11957962974430299695 for PySem.Builtin.PosixPinned.interpreterIsAFile by self
name_quick tw1436043675916922690 for PySem.Builtin.PosixPinned.interpreterIsAFile by self
name_quick tw13759679279233594173 for PySem.Builtin.PosixPinned.interpreterIsAFile by self
name_quick tw2039238271031011813 for PySem.Builtin.PosixPinned.interpreterIsAFile by self
name_quick tw16326889199254633757 for PySem.Builtin.PosixPinned.interpreterIsAFile by self
name_quick tw10706342367453228570 for PySem.Builtin.PosixPinned.interpreterIsAFile by self
name_quick tw6448080314894763839 for PySem.Builtin.PosixPinned.interpreterIsAFile by self
name_quick tw2447775223705975068 for PySem.Builtin.PosixPinned.interpreterIsAFile by self
name_quick tw1869930749605803152 for PySem.Builtin.PosixPinned.interpreterIsAFile by self
name_quick tw11495947367809530248 for PySem.Builtin.PosixPinned.interpreterIsAFile by self
name_quick tw4679858250743294509 for PySem.Builtin.PosixPinned.interpreterIsAFile by self
name_quick tw15542503528162795033 for PySem.Builtin.PosixPinned.interpreterIsAFile by self
name_quick tw13145125596335152023 for PySem.Builtin.PosixPinned.interpreterIsAFile by self
name_quick tw11707433790658880453 for PySem.Builtin.PosixPinned.interpreterIsAFile by self
name_quick tw441327347791068078 for PySem.Builtin.PosixPinned.interpreterIsAFile by self
name_quick tw9908251947323293946 for PySem.Builtin.PosixPinned.interpreterIsAFile by self
name_quick tw5032809538720368765 for PySem.Builtin.PosixPinned.interpreterIsAFile by self
name_quick tw18345786424863182364 for PySem.Builtin.PosixPinned.interpreterIsAFile by self
name_quick tw505943868828395459 for PySem.Builtin.PosixPinned.interpreterIsAFile by self
name_quick tw6792406925840432001 for PySem.Builtin.PosixPinned.interpreterIsAFile by self
name_quick tw9407582987413476825 for PySem.Builtin.PosixPinned.interpreterIsAFile by self
name_quick tw10670733350059645105 for PySem.Builtin.PosixPinned.interpreterIsAFile by self
name_quick tw7276740287692124622 for PySem.Builtin.PosixPinned.interpreterIsAFile by self
name_quick tw17520869792638436183 for PySem.Builtin.PosixPinned.interpreterIsAFile by self
name_quick tw10314498396905981064 for PySem.Builtin.PosixPinned.interpreterIsAFile by self
name_quick tw9626621113073979434 for PySem.Builtin.PosixPinned.interpreterIsAFile by self
name_quick tw1092655722715705105 for PySem.Builtin.PosixPinned.interpreterIsAFile by self
name_quick tw17814930658547583709 for PySem.Builtin.PosixPinned.interpreterIsAFile by self
name_quick tw15766043655864335149 for PySem.Builtin.PosixPinned.interpreterIsAFile by self
name_quick tw14420389602138693270 for PySem.Builtin.PosixPinned.interpreterIsAFile by self
name_quick tw6012508502120743258 for PySem.Builtin.PosixPinned.interpreterIsAFile by self
name_quick tw618205885557783147 for PySem.Builtin.PosixPinned.interpreterIsAFile by self
name_quick tw14224011070414065920 for PySem.Builtin.PosixPinned.interpreterIsAFile by self
name_quick tw6213141578215901147 for PySem.Builtin.PosixPinned.interpreterIsAFile by self
name_quick tw14210447440969649564 for PySem.Builtin.PosixPinned.interpreterIsAFile by self
name_quick tw5701610774189311196 for PySem.Builtin.PosixPinned.interpreterIsAFile by self
name_quick tw6817277305950994716 for PySem.Builtin.PosixPinned.interpreterIsAFile by self
name_quick tw16349216596472256690 for PySem.Builtin.PosixPinned.interpreterIsAFile by self
name_quick tw17774800907425398282 for PySem.Builtin.PosixPinned.interpreterIsAFile by self
name_quick tw17913803186225011329 for PySem.Builtin.PosixPinned.interpreterIsAFile by self
name_quick tw6090905460779295987 for PySem.Builtin.PosixPinned.interpreterIsAFile by self
name_quick tw11420187438672877268 for PySem.Builtin.PosixPinned.interpreterIsAFile by self
name_quick tw5111356299099525756 for PySem.Builtin.PosixPinned.interpreterIsAFile by self
name_quick tw9821368406582625841 for PySem.Builtin.PosixPinned.interpreterIsAFile by self
name_quick tw14112274594779413971 for PySem.Builtin.PosixPinned.interpreterIsAFile by self
name_quick tw11939915149646268982 for PySem.Builtin.PosixPinned.interpreterIsAFile by self
name_quick tw8642067239939848140 for PySem.Builtin.PosixPinned.interpreterIsAFile by self
name_quick tw11013792430000457035 for PySem.Builtin.PosixPinned.interpreterIsAFile by self
name_quick tw5832503352825792928 for PySem.Builtin.PosixPinned.interpreterIsAFile by self
name_quick tw5518745428033880147 for PySem.Builtin.PosixPinned.interpreterIsAFile by self
name_quick tw18011898689540126615 for PySem.Builtin.PosixPinned.interpreterIsAFile by self
name_quick tw4748654258956052638 for PySem.Builtin.PosixPinned.interpreterIsAFile by self
name_quick tw7745614565497352828 for PySem.Builtin.PosixPinned.interpreterIsAFile by self
name_quick tw8732485361984058174 for PySem.Builtin.PosixPinned.interpreterIsAFile by self
name_quick tw17537794083376710389 for PySem.Builtin.PosixPinned.interpreterIsAFile by self
name_quick tw6683783046931543321 for PySem.Builtin.PosixPinned.interpreterIsAFile by self
name_quick tw8727135674562949291 for PySem.Builtin.PosixPinned.interpreterIsAFile by self
name_quick tw4797165386629745026 for PySem.Builtin.PosixPinned.interpreterIsAFile by self
name_quick tw16189536214700107852 for PySem.Builtin.PosixPinned.interpreterIsAFile by self
name_quick tw2599325451414397859 for PySem.Builtin.PosixPinned.interpreterIsAFile by self
name_quick tw17434858337260393937 for PySem.Builtin.PosixPinned.interpreterIsAFile by self
name_quick tw10057510723706494237 for PySem.Builtin.PosixPinned.interpreterIsAFile by self
name_quick tw14979626087600564940 for PySem.Builtin.PosixPinned.interpreterIsAFile by self
name_quick tw470574548607681690 for PySem.Builtin.PosixPinned.interpreterIsAFile by self
name_quick tw11452132507678324671 for PySem.Builtin.PosixPinned.interpreterIsAFile by self
name_quick tw18123110421147349612 for PySem.Builtin.PosixPinned.interpreterIsAFile by self
name_quick tw2408619945344806742 for PySem.Builtin.PosixPinned.interpreterIsAFile by self
name_quick tw3560238982266916124 for PySem.Builtin.PosixPinned.interpreterIsAFile by self
name_quick tw8424611434330503625 for PySem.Builtin.PosixPinned.interpreterIsAFile by self
name_quick tw6125931036764729998 for PySem.Builtin.PosixPinned.interpreterIsAFile by self
name_quick tw13900631225919944168 for PySem.Builtin.PosixPinned.interpreterIsAFile by self
name_quick tw14023627001141898710 for PySem.Builtin.PosixPinned.interpreterIsAFile by self
name_quick tw9862997608875712007 for PySem.Builtin.PosixPinned.interpreterIsAFile by self
name_quick tw8376441433122354887 for PySem.Builtin.PosixPinned.interpreterIsAFile by self
name_quick tw4980102563643897964 for PySem.Builtin.PosixPinned.interpreterIsAFile by self
name_quick tw15894407043143930727 for PySem.Builtin.PosixPinned.interpreterIsAFile by self
name_quick tw16942504070071679284 for PySem.Builtin.PosixPinned.interpreterIsAFile by self
name_quick tw18350638575300117064 for PySem.Builtin.PosixPinned.interpreterIsAFile by self
name_quick tw15215539614974913122 for PySem.Builtin.PosixPinned.interpreterIsAFile by self
name_quick tw4224760802259116069 for PySem.Builtin.PosixPinned.interpreterIsAFile by self
name_quick tw13581749221687468397 for PySem.Builtin.PosixPinned.interpreterIsAFile by self
name_quick tw11729385059970357855 for PySem.Builtin.PosixPinned.interpreterIsAFile by self
name_quick tw14544052848187043789 for PySem.Builtin.PosixPinned.interpreterIsAFile by self
name_quick tw13036272033356848781 for PySem.Builtin.PosixPinned.interpreterIsAFile by self
name_quick tw11328821685186248670 for PySem.Builtin.PosixPinned.interpreterIsAFile by self
name_quick tw13981391230805400906 for PySem.Builtin.PosixPinned.interpreterIsAFile by self
name_quick tw930746551332336609 for PySem.Builtin.PosixPinned.interpreterIsAFile by self
name_quick tw10227693086864044499 for PySem.Builtin.PosixPinned.interpreterIsAFile by self
name_quick tw14326252917377295143 for PySem.Builtin.PosixPinned.interpreterIsAFile by self
name_quick tw6654550962395885724 for PySem.Builtin.PosixPinned.interpreterIsAFile by self
name_quick tw11992716968089889479 for PySem.Builtin.PosixPinned.interpreterIsAFile by self
name_quick tw16414604833108395602 for PySem.Builtin.PosixPinned.interpreterIsAFile by self
name_quick tw3470799630455053000 for PySem.Builtin.PosixPinned.interpreterIsAFile by self
name_quick tw16349804527192203551 for PySem.Builtin.PosixPinned.interpreterIsAFile by self
name_quick tw15450981722951097364 for PySem.Builtin.PosixPinned.interpreterIsAFile by self
name_quick tw17015423121036801654 for PySem.Builtin.PosixPinned.interpreterIsAFile by self
name_quick tw2504098582860672743 for PySem.Builtin.PosixPinned.interpreterIsAFile by self
name_quick tw7788680626742099145 for PySem.Builtin.PosixPinned.interpreterIsAFile by self
name_quick tw5200128776193632040 for PySem.Builtin.PosixPinned.interpreterIsAFile by self
name_quick tw1377046205977697930 for PySem.Builtin.PosixPinned.interpreterIsAFile by self
name_quick tw9564595351457756722 for PySem.Builtin.PosixPinned.interpreterIsAFile by self
name_quick tw6380782515089751550 for PySem.Builtin.PosixPinned.interpreterIsAFile by self
name_quick tw7323676302269181137 for PySem.Builtin.PosixPinned.interpreterIsAFile by self
name_quick tw9305782018832362445 for PySem.Builtin.PosixPinned.interpreterIsAFile by self
name_quick tw387338674003428930 for PySem.Builtin.PosixPinned.interpreterIsAFile by self
name_quick tw5135500740108067664 for PySem.Builtin.PosixPinned.interpreterIsAFile by self
name_quick tw3880421473898291048 for PySem.Builtin.PosixPinned.interpreterIsAFile by self
name_quick tw16792545251062261874 for PySem.Builtin.PosixPinned.interpreterIsAFile by self
name_quick tw17024950926791866790 for PySem.Builtin.PosixPinned.interpreterIsAFile by self
name_quick tw15480198773659482676 for PySem.Builtin.PosixPinned.interpreterIsAFile by self
name_quick tw1772237422875290029 for PySem.Builtin.PosixPinned.interpreterIsAFile by self
name_quick tw7650934615059315214 for PySem.Builtin.PosixPinned.interpreterIsAFile by self
name_quick tw16049961110935095269 for PySem.Builtin.PosixPinned.interpreterIsAFile by self
name_quick tw11767421526060770920 for PySem.Builtin.PosixPinned.interpreterIsAFile by self
name_quick tw7802139600951554647 for PySem.Builtin.PosixPinned.interpreterIsAFile by self
name_quick tw10500077913531017323 for PySem.Builtin.PosixPinned.interpreterIsAFile by self
name_quick tw9529234661008812162 for PySem.Builtin.PosixPinned.interpreterIsAFile by self
name_quick tw18211773271919218964 for PySem.Builtin.PosixPinned.interpreterIsAFile by self
name_quick tw6834602518627153040 for PySem.Builtin.PosixPinned.interpreterIsAFile by self
name_quick tw9467589175468403638 for PySem.Builtin.PosixPinned.interpreterIsAFile by self
name_quick tw10508251915553800215 for PySem.Builtin.PosixPinned.interpreterIsAFile by self
name_quick tw8987815912523675519 for PySem.Builtin.PosixPinned.interpreterIsAFile by self
name_quick tw17341736924252097559 for PySem.Builtin.PosixPinned.interpreterIsAFile by self
name_quick tw10470071008263537045 for PySem.Builtin.PosixPinned.interpreterIsAFile by self
name_quick tw17863021456227041891 for PySem.Builtin.PosixPinned.interpreterIsAFile by self
name_quick tw117213463901210413 for PySem.Builtin.PosixPinned.interpreterIsAFile by self
name_quick tw15742981410569661332 for PySem.Builtin.PosixPinned.interpreterIsAFile by self
name_quick tw4775785305629353868 for PySem.Builtin.PosixPinned.interpreterIsAFile by self
name_quick tw10317580896714288900 for PySem.Builtin.PosixPinned.interpreterIsAFile by self
name_quick tw14530364306720264245 for PySem.Builtin.PosixPinned.interpreterIsAFile by self
name_quick tw16655555454665732581 for PySem.Builtin.PosixPinned.interpreterIsAFile by self
name_quick tw8989982439271903415 for PySem.Builtin.PosixPinned.interpreterIsAFile by self
name_quick tw3764465048917985505 for PySem.Builtin.PosixPinned.interpreterIsAFile by self
name_quick tw17279654841073493023 for PySem.Builtin.PosixPinned.interpreterIsAFile by self
name_quick tw9413167413068371254 for PySem.Builtin.PosixPinned.interpreterIsAFile by self
name_quick tw11566699232636054958 for PySem.Builtin.PosixPinned.interpreterIsAFile by self
name_quick tw6714822604882049554 for PySem.Builtin.PosixPinned.interpreterIsAFile by self
name_quick tw10424941004445345732 for PySem.Builtin.PosixPinned.interpreterIsAFile by self
name_quick tw16176465441171805009 for PySem.Builtin.PosixPinned.interpreterIsAFile by self
name_quick tw13512673800721320934 for PySem.Builtin.PosixPinned.interpreterIsAFile by self
open_top hd for PySem.Challenge.rw_sa0158_01
end Mine
set_option genInjectivity false
set_option genSizeOf false
namespace Mine
theorem kw0_Base : True := by
  k_with_none
  w_top off
  trivial
structure Adr where
  m : Addr
  dm : Addr
  st : Addr
  ds : Addr
  hp : Addr
  sk : Addr
  tr : Addr
  xs : Addr
structure Kon where
  ac : Addr
  hm : Nat → Int
  tm : Nat → Tok
  vm : Nat → Value
  hs : Nat → Int
  ts : Nat → Tok
  vs : Nat → Value
/-- the machine's data, as plain Lean -/
structure W where
  p : Int
  cp : Int
  e : Int
  b : Int
  b0 : Int
  hb : Int
  bb : Int
  hp : List Dat
  sk : List Dat
  tr : List Int
  x : List Dat
structure Con where
  tp : Tok
  tcp : Tok
  te : Tok
  tb : Tok
  tb0 : Tok
  thb : Tok
  tbb : Tok
  hv : List Value
  hn : Nat
  sv : List Value
  sn : Nat
  tv : List Value
  tn : Nat
  xv : List Value
  xn : Nat
abbrev ent (h : Int) (n : String) (t : Tok) (v : Value) : DictEntry := ⟨h, .str (Str.ofString n) t, v⟩
abbrev dmE (a : Adr) (k : Kon) (c : Con) (σ : W) : List DictEntry :=
  [ent (k.hm 0) "symbols" (k.tm 0) .none, ent (k.hm 1) "code" (k.tm 1) (.ref k.ac), ent (k.hm 2) "max_heap" (k.tm 2) (k.vm 2), ent (k.hm 3) "occurs" (k.tm 3) (k.vm 3), ent (k.hm 4) "max_bits" (k.tm 4) (k.vm 4),
   ent (k.hm 5) "store" (k.tm 5) (.ref a.st), ent (k.hm 6) "x" (k.tm 6) (.ref a.xs), ent (k.hm 7) "p" (k.tm 7) (.int σ.p c.tp), ent (k.hm 8) "cp" (k.tm 8) (.int σ.cp c.tcp), ent (k.hm 9) "e" (k.tm 9) (.int σ.e c.te),
   ent (k.hm 10) "b" (k.tm 10) (.int σ.b c.tb), ent (k.hm 11) "b0" (k.tm 11) (.int σ.b0 c.tb0), ent (k.hm 12) "mode" (k.tm 12) (k.vm 12), ent (k.hm 13) "s" (k.tm 13) (k.vm 13), ent (k.hm 14) "guard" (k.tm 14) (k.vm 14),
   ent (k.hm 15) "roots" (k.tm 15) (k.vm 15), ent (k.hm 16) "bags" (k.tm 16) (k.vm 16), ent (k.hm 17) "collect_wanted" (k.tm 17) (k.vm 17)]
abbrev dsE (a : Adr) (k : Kon) (c : Con) (σ : W) : List DictEntry :=
  [ent (k.hs 0) "symbols" (k.ts 0) .none, ent (k.hs 1) "max_heap" (k.ts 1) (.int 5000 (k.ts 7)), ent (k.hs 2) "heap" (k.ts 2) (.ref a.hp), ent (k.hs 3) "stack" (k.ts 3) (.ref a.sk), ent (k.hs 4) "trail" (k.ts 4) (.ref a.tr),
   ent (k.hs 5) "hb" (k.ts 5) (.int σ.hb c.thb), ent (k.hs 6) "bb" (k.ts 6) (.int σ.bb c.tbb)]
abbrev Led (a : Adr) (k : Kon) (c : Con) (σ : W) (rest : List (Addr × Obj)) : List (Addr × Obj) :=
  (a.m, instObj 520 a.dm) :: (a.dm, dictOf (dmE a k c σ) 18) :: (a.st, instObj 276 a.ds) :: (a.ds, dictOf (dsE a k c σ) 7) ::
  (a.hp, listOf c.hv.toArray c.hn) :: (a.sk, listOf c.sv.toArray c.sn) :: (a.tr, listOf c.tv.toArray c.tn) :: (a.xs, listOf c.xv.toArray c.xn) :: rest
abbrev voidO : Obj := { cls := .type "tuple", data := .seq #[.int 5 281, .int 0 283] 0 }
abbrev KV : List (Addr × Obj) := [(75, voidO)]
abbrev codeD : Dat := .list [.tuple [.str (Str.ofString "call"), .int 0, .int 0], .tuple [.str (Str.ofString "call"), .int 0, .int 1], .tuple [.str (Str.ofString "call"), .int 0, .int 2]]
structure Rel (k : Kon) (rest : List (Addr × Obj)) (c : Con) (σ : W) : Prop where
  h : DatAll (KV ++ rest) c.hv σ.hp
  s : DatAll (KV ++ rest) c.sv σ.sk
  t : DatAll (KV ++ rest) c.tv (σ.tr.map Dat.int)
  x : DatAll (KV ++ rest) c.xv σ.x
  c : DatIn (KV ++ rest) (.ref k.ac) codeD
structure Off (a : Adr) (rest : List (Addr × Obj)) : Prop where
  m : ∀ p ∈ rest, p.1 ≠ a.m
  dm : ∀ p ∈ rest, p.1 ≠ a.dm
  st : ∀ p ∈ rest, p.1 ≠ a.st
  ds : ∀ p ∈ rest, p.1 ≠ a.ds
  hp : ∀ p ∈ rest, p.1 ≠ a.hp
  sk : ∀ p ∈ rest, p.1 ≠ a.sk
  tr : ∀ p ∈ rest, p.1 ≠ a.tr
  xs : ∀ p ∈ rest, p.1 ≠ a.xs
structure Ord (a : Adr) : Prop where
  o1 : @LT.lt Nat _ a.dm a.m
  o2 : @LT.lt Nat _ a.m a.ds
  o3 : @LT.lt Nat _ a.ds a.st
  o4 : @LT.lt Nat _ a.st a.hp
  o5 : @LT.lt Nat _ a.hp a.sk
  o6 : @LT.lt Nat _ a.sk a.tr
  o7 : @LT.lt Nat _ a.tr a.xs
/-- sizes that keep every length small -/
structure Sm (σ : W) : Prop where
  h : σ.hp.length ≤ 4000
  s : σ.sk.length ≤ 4000
  t : σ.tr.length ≤ 4000
  x : σ.x.length = 6
abbrev TopF (mean : ExcName → Option Value) (mg mb : Str → Option Value) (h₀ : Heap) : Prop := Top hd.view_39 (looseW hd.view_39 [Str.ofString "VOID", Str.ofString "Store"]) mean mg mb h₀
/-- the list ds has d at the whole number k -/
def At (ds : List Dat) (k : Int) (d : Dat) : Prop := 0 ≤ k ∧ ds[k.toNat]? = some d
theorem At.lt {ds : List Dat} {k : Int} {d : Dat} (h : At ds k d) : k < ds.length := by
  obtain ⟨h0, h1⟩ := h
  have := (List.getElem?_eq_some_iff.mp h1).1
  omega
theorem At.cast {ds : List Dat} {k k' : Int} {d : Dat} (h : At ds k d) (e : k = k') : At ds k' d := e ▸ h

section
variable {prog : Program} {w : World} {A : Around} {E : Value → Shared → Prop} {s : Shared} {h₀ h : Heap} {L l : Addr} {m : Str → Option Value} {news news' L9 rest pre : List (Addr × Obj)} {vs : List Value} {ds : List Dat} {n : Nat} {k : Int} {u : Tok} {d : Dat} {v : Value}

theorem len_lst {Q : Value → Shared → Prop} (N : News h₀ L s.heap news) (hm : (l, listOf vs.toArray n) ∈ news) (hz : vs.length ≤ 100000)
    (h : ∀ t tk, Q (.int (vs.length : Int) t) { s with toks := tk }) : wpAny (model prog w) A (call (.builtin "len") [.ref l]) Q E s := by
  have hl : s.heap.IsList l vs.toArray := ⟨_, (N _ hm).1, rfl, n, rfl⟩
  have e : vs.toArray.size = vs.length := List.size_toArray ..
  exact len_list hl (by rw [e]; omega) (by rw [e]; exact h _ _)
theorem get_lst {Q : Value → Shared → Prop} (N : News h₀ L s.heap news) (hm : (l, listOf vs.toArray n) ∈ news) (hd : DatAll L9 vs ds) (hk : At ds k d) (hz : ds.length ≤ 100000)
    (h : ∀ v, DatIn L9 v d → Q v s) : wpAny (model prog w) A (getItem (.ref l) (.int k u)) Q E s := by
  have hlt := hk.lt
  refine kd_getItem N hm hd hk.1 hlt (by omega) fun v d' hd' _ hv => ?_
  rw [hk.2] at hd'
  cases hd'
  exact h v hv
theorem item_lst {value slice : PySem.Expr} {Q : Value → Shared → Prop} (N : News h₀ L s.heap news) (hm : (l, listOf vs.toArray n) ∈ news) (hd : DatAll L9 vs ds) (hk : At ds k d) (hz : ds.length ≤ 100000)
    (h : ∀ v, DatIn L9 v d → Q v s) (hs : subscripted slice false (.ref l) (.int k u) = operate [.ref l, .int k u] (getItem (.ref l) (.int k u)) := by with_unfolding_all rfl) :
    wpAny (model prog w) A (subscriptTail value slice (.ref l) (.int k u)) Q E s := by
  have hl : s.heap.IsList l vs.toArray := ⟨_, (N _ hm).1, rfl, n, rfl⟩
  exact tail_any hl.typeIs slot_list_getitem.lookup (get_lst N hm hd hk hz h) hs
/-- the same where the item is an int -/
theorem itemI_lst {value slice : PySem.Expr} {i : Int} {Q : Value → Shared → Prop} (N : News h₀ L s.heap news) (hm : (l, listOf vs.toArray n) ∈ news) (hd : DatAll L9 vs ds) (hk : At ds k (.int i)) (hz : ds.length ≤ 100000)
    (h : ∀ t, Q (.int i t) s) (hs : subscripted slice false (.ref l) (.int k u) = operate [.ref l, .int k u] (getItem (.ref l) (.int k u)) := by with_unfolding_all rfl) :
    wpAny (model prog w) A (subscriptTail value slice (.ref l) (.int k u)) Q E s :=
  item_lst N hm hd hk hz (fun v hv => by cases hv; exact h _) hs
theorem datSet (hd : DatAll L9 vs ds) (hv : DatIn L9 v d) (i : Nat) : DatAll L9 (vs.set i v) (ds.set i d) := by
  induction vs generalizing ds i with
  | nil => cases hd; exact .nil
  | cons x xs ih =>
    cases hd with
    | cons h r =>
      cases i with
      | zero => exact .cons hv r
      | succ i => exact .cons h (ih r i)
theorem set_lst {Q : Unit → Shared → Prop} (F : Fr h₀ L s.heap m) (N : News h₀ L s.heap news) (U : Upd l (listOf vs.toArray n) (listOf (vs.set k.toNat v).toArray n) news news') (h0 : 0 ≤ k) (h1 : k < vs.length) (hz : vs.length ≤ 100000)
    (h : ∀ h', Fr h₀ L h' m → News h₀ L h' news' → Q () { s with heap := h' }) : wpAny (model prog w) A (setItem (.ref l) (.int k u) v) Q E s := by
  obtain ⟨pre, post, rfl, rfl, a, b⟩ := U.split
  have z := N (l, listOf vs.toArray n) (List.mem_append.mpr (.inr (.head _)))
  refine ki_setAt z.1 h0 (by omega) (by simpa using h1) (h _ (F.change (Heap.SameBut.update ..) z.2.1 z.2.2) (ki_turn _ N a b ?_ ?_))
  · show vs.toArray.setIfInBounds k.toNat v = (vs.set k.toNat v).toArray
    simp
  · rw [if_pos (by simp)]
theorem append_lst {Q : Value → Shared → Prop} (F : Fr h₀ L s.heap m) (N : News h₀ L s.heap news) (U : Upd l (listOf vs.toArray n) (listOf (vs ++ [v]).toArray (n + 1)) news news') (hz : vs.length ≤ 100000)
    (h : ∀ h', Fr h₀ L h' m → News h₀ L h' news' → Q .none { s with heap := h' }) : wpAny (model prog w) A (call (.builtin "list.append") [.ref l, v]) Q E s := by
  refine append_K (its := vs.toArray) (n := n) F N ?_ h (by rw [List.size_toArray, sizeLine_eq]; omega)
  rw [List.push_toArray]; exact U
theorem pop_lst {Q : Value → Shared → Prop} (F : Fr h₀ L s.heap m) (N : News h₀ L s.heap news) (U : Upd l (listOf (vs ++ [v]).toArray n) (listOf vs.toArray (n + 1)) news news') (hz : vs.length ≤ 100000)
    (h : ∀ h', Fr h₀ L h' m → News h₀ L h' news' → Q v { s with heap := h' }) : wpAny (model prog w) A (call (.builtin "list.pop") [.ref l]) Q E s :=
  kl_pop F N (by simpa using kpa_last v vs) U (by simp [sizeLine_eq]; omega) h
theorem mem9 {w : World} {pre : List (Addr × Obj)} (N : News h₀ L h (pre ++ rest)) (X : (hd.heap_39 w.params).In h₀) (F : Fr h₀ L h m) : ∀ p ∈ KV ++ rest, h.get? p.1 = some p.2 := by
  intro p hp
  rcases List.mem_append.mp hp with hp | hp
  · cases hp with
    | head => exact F.keep _ _ (X 75 voidO (by rfl))
    | tail _ h => cases h
  · exact (N p (List.mem_append.mpr (.inr hp))).1
end
section
variable {prog : Program} {w : World} {A : Around} {E : Value → Shared → Prop} {s : Shared} {h₀ h : Heap} {L l : Addr} {m : Str → Option Value} {news L9 rest : List (Addr × Obj)} {vs : List Value} {ds : List Dat} {n : Nat} {k : Int} {u : Tok} {d e : Dat} {v v' : Value}
theorem mem9s {w : World} (N : News h₀ L h news) (hs : ∀ p ∈ rest, p ∈ news) (X : (hd.heap_39 w.params).In h₀) (F : Fr h₀ L h m) : ∀ p ∈ KV ++ rest, h.get? p.1 = some p.2 := by
  intro p hp
  rcases List.mem_append.mp hp with hp | hp
  · cases hp with
    | head => exact F.keep _ _ (X 75 voidO (by rfl))
    | tail _ h => cases h
  · exact (N p (hs p hp)).1
theorem news_of (M : ∀ p ∈ L9, h.get? p.1 = some p.2) : News {} h.objs.size h L9 := fun p hp => ⟨M p hp, Nat.ne_of_lt (Heap.lt_size (M p hp)), by simp [Heap.get?]⟩
/-- a list that stands in the heap, at a place that is known -/
theorem item9 {value slice : PySem.Expr} {Q : Value → Shared → Prop} (M : ∀ p ∈ L9, s.heap.get? p.1 = some p.2) (hm : (l, listOf vs.toArray n) ∈ L9) (hd : DatAll L9 vs ds) (hk : At ds k d) (hz : ds.length ≤ 100000)
    (h : ∀ v, DatIn L9 v d → Q v s) (hs : subscripted slice false (.ref l) (.int k u) = operate [.ref l, .int k u] (getItem (.ref l) (.int k u)) := by with_unfolding_all rfl) :
    wpAny (model prog w) A (subscriptTail value slice (.ref l) (.int k u)) Q E s :=
  item_lst (news_of M) hm hd hk hz h hs
theorem tup9 {value slice : PySem.Expr} {j : Nat} {x : Value} {Q : Value → Shared → Prop} (M : ∀ p ∈ L9, s.heap.get? p.1 = some p.2) (hm : (l, ({ cls := .type "tuple", data := .seq vs.toArray n } : Obj)) ∈ L9)
    (hlo : -(2 ^ 63) ≤ k) (hhi : k < 2 ^ 63) (hj : seqIndex? k vs.length = some j) (hx : vs[j]? = some x) (h : Q x s)
    (hs : subscripted slice false (.ref l) (.int k u) = operate [.ref l, .int k u] (getItem (.ref l) (.int k u)) := by with_unfolding_all rfl) :
    wpAny (model prog w) A (subscriptTail value slice (.ref l) (.int k u)) Q E s :=
  item_tupleT ⟨_, M _ hm, rfl, n, rfl⟩ hlo hhi hj hx h hs
open Classical in
theorem eqv_dec (kd : kqdOk 8 d = true) (ke : kqdOk 8 e = true) : PyData.eqv (kqdP d) (kqdP e) = decide (d = e) := by
  have q := kqd_eqv 8 d e 8 kd ke
  by_cases hq : d = e
  · rw [decide_eq_true hq]; exact q.mpr hq
  · rw [decide_eq_false hq]; exact Bool.eq_false_iff.mpr fun x => hq (q.mp x)
theorem shaped_dat (kd : kqdOk 8 d = true) : SeqAt.shaped (kqdP d) = true := by
  have la := kqd_lay 8 d kd
  unfold SeqAt.shaped; rw [la.1, Bool.true_and]; exact decide_eq_true (Nat.le_trans la.2 (by decide))
open Classical in
theorem eq_dat {Q : Value → Shared → Prop} (M : ∀ p ∈ L9, s.heap.get? p.1 = some p.2) (hv : DatIn L9 v d) (hv' : DatIn L9 v' e) (kd : kqdOk 8 d = true) (ke : kqdOk 8 e = true) (hu : A.units + 64 < cLine)
    (h : Q (.bool (decide (d = e))) s) : wpAny (model prog w) A (compareOp .Eq v v') Q E s := by
  obtain ⟨as, ra⟩ := kqd_in (news_of M) 8 hv kd
  obtain ⟨bs, rb⟩ := kqd_in (news_of M) 8 hv' ke
  exact eq_dataH ra rb (shaped_dat kd) (shaped_dat ke) hu (by rw [eqv_dec kd ke]; exact h)
open Classical in
theorem ne_dat {Q : Value → Shared → Prop} (M : ∀ p ∈ L9, s.heap.get? p.1 = some p.2) (hv : DatIn L9 v d) (hv' : DatIn L9 v' e) (kd : kqdOk 8 d = true) (ke : kqdOk 8 e = true) (hu : A.units + 64 < cLine)
    (h : Q (.bool (!decide (d = e))) s) : wpAny (model prog w) A (compareOp .NotEq v v') Q E s := by
  obtain ⟨as, ra⟩ := kqd_in (news_of M) 8 hv kd
  obtain ⟨bs, rb⟩ := kqd_in (news_of M) 8 hv' ke
  exact ne_dataH ra rb (shaped_dat kd) (shaped_dat ke) hu (by rw [eqv_dec kd ke]; exact h)
theorem datTup (h : DatIn L9 v (.tuple ds)) : ∃ a vs n, v = .ref a ∧ (a, ({ cls := .type "tuple", data := .seq vs.toArray n } : Obj)) ∈ L9 ∧ DatAll L9 vs ds := by
  cases h with
  | tuple hm r => exact ⟨_, _, _, rfl, hm, r⟩
theorem datLst (h : DatIn L9 v (.list ds)) : ∃ a vs n, v = .ref a ∧ (a, listOf vs.toArray n) ∈ L9 ∧ DatAll L9 vs ds := by
  cases h with
  | list hm r => exact ⟨_, _, _, rfl, hm, r⟩
theorem datTi (h : DatIn L9 v (.int k)) : ∃ t, v = .int k t := by cases h; exact ⟨_, rfl⟩
theorem datCons (h : DatAll L9 vs (d :: ds)) : ∃ x ws, vs = x :: ws ∧ DatIn L9 x d ∧ DatAll L9 ws ds := by
  cases h with
  | cons h r => exact ⟨_, _, rfl, h, r⟩
theorem datNil (h : DatAll L9 vs []) : vs = [] := by cases h; rfl
theorem datTwo (h : DatAll L9 vs [d, e]) : ∃ x y, vs = [x, y] ∧ DatIn L9 x d ∧ DatIn L9 y e := by
  obtain ⟨x, ws, rfl, hx, h⟩ := datCons h
  obtain ⟨y, us, rfl, hy, h⟩ := datCons h
  rw [datNil h]; exact ⟨x, y, rfl, hx, hy⟩
theorem datThree {f : Dat} (h : DatAll L9 vs [d, e, f]) : ∃ x y z, vs = [x, y, z] ∧ DatIn L9 x d ∧ DatIn L9 y e ∧ DatIn L9 z f := by
  obtain ⟨x, ws, rfl, hx, h⟩ := datCons h
  obtain ⟨y, z, rfl, hy, hz⟩ := datTwo h
  exact ⟨x, y, z, rfl, hx, hy, hz⟩
/-- a cell: a tuple of two ints -/
theorem datCell {i j : Int} (h : DatIn L9 v (.tuple [.int i, .int j])) : ∃ a n t t', v = .ref a ∧ (a, ({ cls := .type "tuple", data := .seq [Value.int i t, Value.int j t'].toArray n } : Obj)) ∈ L9 := by
  obtain ⟨a, vs, n, rfl, hm, r⟩ := datTup h
  obtain ⟨x, y, rfl, hx, hy⟩ := datTwo r
  obtain ⟨t, rfl⟩ := datTi hx
  obtain ⟨t', rfl⟩ := datTi hy
  exact ⟨a, n, t, t', rfl, hm⟩
end
abbrev cell (i j : Int) : Dat := .tuple [.int i, .int j]
/-- where the stack's free part begins -/
def IsTop (σ : W) (n : Int) : Prop :=
  (σ.b < σ.e ∧ 1 ≤ σ.cp ∧ σ.cp ≤ 3 ∧ n = σ.e + 2 + (σ.cp - 1)) ∨ (σ.e ≤ σ.b ∧ 0 ≤ σ.b ∧ ∃ cnt, At σ.sk σ.b (.int cnt) ∧ n = σ.b + cnt + 8) ∨ (σ.e ≤ σ.b ∧ σ.b < 0 ∧ n = 0)
abbrev tupO (i j : Int) (t1 t2 : Tok) (n : Nat) : Obj := { cls := .type "tuple", data := .seq [Value.int i t1, Value.int j t2].toArray n }
structure Adds (a : Adr) (rest add : List (Addr × Obj)) : Prop where
  off : Off a add
  new : ∀ p ∈ add, ∀ q ∈ rest, ¬ @Eq Nat p.1 q.1
theorem offApp {a : Adr} {l l' : List (Addr × Obj)} (h : Off a l) (h' : Off a l') : Off a (l ++ l') :=
  ⟨List.forall_mem_append.mpr ⟨h.m, h'.m⟩, List.forall_mem_append.mpr ⟨h.dm, h'.dm⟩, List.forall_mem_append.mpr ⟨h.st, h'.st⟩, List.forall_mem_append.mpr ⟨h.ds, h'.ds⟩,
   List.forall_mem_append.mpr ⟨h.hp, h'.hp⟩, List.forall_mem_append.mpr ⟨h.sk, h'.sk⟩, List.forall_mem_append.mpr ⟨h.tr, h'.tr⟩, List.forall_mem_append.mpr ⟨h.xs, h'.xs⟩⟩
theorem offNil {a : Adr} : Off a [] := ⟨List.forall_mem_nil _, List.forall_mem_nil _, List.forall_mem_nil _, List.forall_mem_nil _, List.forall_mem_nil _, List.forall_mem_nil _, List.forall_mem_nil _, List.forall_mem_nil _⟩
theorem addsNil {a : Adr} {rest : List (Addr × Obj)} : Adds a rest [] := ⟨offNil, List.forall_mem_nil _⟩
theorem addsTrans {a : Adr} {rest add add' : List (Addr × Obj)} (h : Adds a rest add) (h' : Adds a (add ++ rest) add') : Adds a rest (add' ++ add) :=
  ⟨offApp h'.off h.off, fun p hp q hq => (List.mem_append.mp hp).elim (fun hp => h'.new p hp q (List.mem_append.mpr (.inr hq))) fun hp => h.new p hp q hq⟩
theorem addsOne {a : Adr} {k : Kon} {c : Con} {σ : W} {rest : List (Addr × Obj)} {t : Addr} {o : Obj} (h : ∀ p ∈ Led a k c σ rest, @LT.lt Nat _ p.1 t) : Adds a rest [(t, o)] := by
  obtain ⟨q1, h⟩ := List.forall_mem_cons.mp h
  obtain ⟨q2, h⟩ := List.forall_mem_cons.mp h
  obtain ⟨q3, h⟩ := List.forall_mem_cons.mp h
  obtain ⟨q4, h⟩ := List.forall_mem_cons.mp h
  obtain ⟨q5, h⟩ := List.forall_mem_cons.mp h
  obtain ⟨q6, h⟩ := List.forall_mem_cons.mp h
  obtain ⟨q7, h⟩ := List.forall_mem_cons.mp h
  obtain ⟨q8, h⟩ := List.forall_mem_cons.mp h
  have one : ∀ {b : Addr}, @LT.lt Nat _ b t → ∀ p ∈ [(t, o)], p.1 ≠ b := fun hb p hp => by
    rw [List.mem_singleton.mp hp]; exact Nat.ne_of_gt hb
  exact ⟨⟨one q1, one q2, one q3, one q4, one q5, one q6, one q7, one q8⟩, fun p hp q hq => by rw [List.mem_singleton.mp hp]; exact Nat.ne_of_gt (h q hq)⟩
theorem kvMono {rest rest' : List (Addr × Obj)} (h : ∀ p ∈ rest, p ∈ rest') : ∀ p ∈ KV ++ rest, p ∈ KV ++ rest' := fun p hp => (List.mem_append.mp hp).elim (fun h => List.mem_append.mpr (.inl h)) fun q => List.mem_append.mpr (.inr (h p q))
theorem relMono {k : Kon} {rest rest' : List (Addr × Obj)} {c : Con} {σ : W} (R : Rel k rest c σ) (h : ∀ p ∈ rest, p ∈ rest') : Rel k rest' c σ :=
  ⟨R.h.mono (kvMono h), R.s.mono (kvMono h), R.t.mono (kvMono h), R.x.mono (kvMono h), R.c.mono (kvMono h)⟩
theorem newsSub {h₀ h : Heap} {L : Addr} {l l' : List (Addr × Obj)} (N : News h₀ L h l) (hs : ∀ p ∈ l', p ∈ l) : News h₀ L h l' := fun p hp => N p (hs p hp)
def segS (S : List Dat) (p : Nat) (seg : List Dat) : List Dat := S.take p ++ seg ++ S.drop (p + seg.length)
theorem segLenEq {S : List Dat} {p : Nat} {seg : List Dat} (h : p ≤ S.length) : (segS S p seg).length = max S.length (p + seg.length) := by
  simp only [segS, List.length_append, List.length_take, List.length_drop, Nat.min_eq_left h]
  rcases Nat.le_total (p + seg.length) S.length with q | q
  · rw [Nat.add_sub_cancel' q, Nat.max_eq_left q]
  · rw [Nat.sub_eq_zero_of_le q, Nat.max_eq_right q, Nat.add_zero]
theorem segLen {S : List Dat} {p : Nat} {seg : List Dat} (h : p ≤ S.length) : p + seg.length ≤ (segS S p seg).length := by
  rw [segLenEq h]; exact Nat.le_max_right _ _
theorem setSeg {S : List Dat} {p : Nat} {d : Dat} (h : p < S.length) : S.set p d = segS S p [d] := by
  rw [List.set_eq_take_append_cons_drop, if_pos h]; simp [segS]
theorem addSeg {S : List Dat} {d : Dat} : S ++ [d] = segS S S.length [d] := by
  simp [segS]
theorem segSeg {S : List Dat} {p : Nat} {seg : List Dat} {d : Dat} (h : p ≤ S.length) : segS (segS S p seg) (p + seg.length) [d] = segS S p (seg ++ [d]) := by
  have e1 : (S.take p ++ seg).length = p + seg.length := by simp; omega
  have e2 : (segS S p seg).take (p + seg.length) = S.take p ++ seg := by
    rw [segS, ← e1, List.take_left]
  have e3 : (segS S p seg).drop (p + seg.length + 1) = S.drop (p + seg.length + 1) := by
    rw [segS, List.drop_append, e1, List.drop_of_length_le (by rw [e1]; omega), List.nil_append, List.drop_drop]
    congr 1; omega
  rw [segS, e2, List.length_singleton, e3]
  simp [segS, Nat.add_assoc]
/-- the heap behind the undoing of these places, the last first -/
def undo (H : List Dat) (l : List Int) : List Dat := l.foldr (fun i h => h.set i.toNat (.tuple [.int 0, .int i])) H
theorem undo_length (H : List Dat) (l : List Int) : (undo H l).length = H.length := by
  induction l with
  | nil => rfl
  | cons x l ih => simp only [undo, List.foldr_cons, List.length_set] at *; exact ih
theorem forget2 {m m₀ : Str → Option Value} {x y : Str} (h : ∀ z, z ≠ x → z ≠ y → m z = m₀ z) : m = fun z => if z = x then m z else if z = y then m z else m₀ z := by
  funext z
  by_cases h1 : z = x
  · simp [h1]
  · by_cases h2 : z = y
    · simp [h2]
    · simp [h1, h2, h z h1 h2]
theorem forget1 {m m₀ : Str → Option Value} {x : Str} (h : ∀ z, z ≠ x → m z = m₀ z) : m = fun z => if z = x then m z else m₀ z := by
  funext z
  by_cases h1 : z = x
  · simp [h1]
  · simp [h1, h z h1]
theorem allLt_all {d : Addr} : ∀ {l : List (Addr × Obj)}, AllLt d l → ∀ p ∈ l, @LT.lt Nat _ p.1 d
  | [], _ => List.forall_mem_nil _
  | _ :: _, h => List.forall_mem_cons.mpr ⟨h.1, allLt_all h.2⟩
theorem voidIn {rest : List (Addr × Obj)} : DatIn (KV ++ rest) (.ref 75) (.tuple [.int 5, .int 0]) := DatIn.tuple (vs := [.int 5 281, .int 0 283]) (n := 0) (List.Mem.head _) (.cons (.int _ _) (.cons (.int _ _) .nil))
theorem known1 {m : Str → Option Value} {x : Str} {u : Value} (h1 : m x = some u) : m = fun z => if z = x then some u else m z := by
  funext z
  by_cases e : z = x
  · simp [e, h1]
  · simp [e]
theorem known2 {m : Str → Option Value} {x y : Str} {u v : Value} (h1 : m x = some u) (h2 : m y = some v) : m = fun z => if z = x then some u else if z = y then some v else m z := by
  funext z
  by_cases e : z = x
  · simp [e, h1]
  · by_cases e' : z = y
    · simp [e', h2]
      intro q; rw [← q, ← e'] at e; exact absurd rfl e
    · simp [e, e']
theorem known3 {m : Str → Option Value} {x y z : Str} {u v w : Value} (h1 : m x = some u) (h2 : m y = some v) (h3 : m z = some w) : m = fun i => if i = x then some u else if i = y then some v else if i = z then some w else m i := by
  funext i
  by_cases e : i = x
  · subst e; simp [h1]
  · by_cases e' : i = y
    · subst e'; simp [h2, e]
    · by_cases e'' : i = z
      · subst e''; simp [h3, e, e']
      · simp [e, e', e'']
theorem datSnoc {L9 : List (Addr × Obj)} {vs : List Value} {ds : List Dat} {d : Dat} (h : DatAll L9 vs (ds ++ [d])) : ∃ vs' v, vs = vs' ++ [v] ∧ DatAll L9 vs' ds ∧ DatIn L9 v d := by
  induction ds generalizing vs with
  | nil =>
    obtain ⟨x, ws, rfl, hx, h⟩ := datCons h
    rw [datNil h]; exact ⟨[], x, rfl, .nil, hx⟩
  | cons e ds ih =>
    obtain ⟨x, ws, rfl, hx, h⟩ := datCons h
    obtain ⟨vs', v, rfl, h1, h2⟩ := ih h
    exact ⟨x :: vs', v, rfl, .cons hx h1, h2⟩
theorem dTake {L9 : List (Addr × Obj)} {vs : List Value} {ds : List Dat} (h : DatAll L9 vs ds) : ∀ n, DatAll L9 (vs.take n) (ds.take n) := by
  induction vs generalizing ds with
  | nil => intro n; cases h; simpa using DatAll.nil
  | cons v vs ih =>
    intro n
    cases h with
    | cons h r =>
      cases n with
      | zero => exact .nil
      | succ n => exact .cons h (ih r n)
theorem immTail {imm rest : List (Addr × Obj)} {x : Addr × Obj} (h : ∀ p ∈ imm, p ∈ rest) : ∀ p ∈ imm, p ∈ x :: rest := fun p hp => List.Mem.tail _ (h p hp)
theorem immCons {imm rest : List (Addr × Obj)} {x : Addr × Obj} (h : ∀ p ∈ imm, p ∈ rest) : ∀ p ∈ x :: imm, p ∈ x :: rest := List.forall_mem_cons.mpr ⟨List.Mem.head _, immTail h⟩
theorem immApp {imm rest add : List (Addr × Obj)} (h : ∀ p ∈ imm, p ∈ rest) : ∀ p ∈ add ++ imm, p ∈ add ++ rest := fun p hp => (List.mem_append.mp hp).elim (fun h => List.mem_append.mpr (.inl h)) fun q => List.mem_append.mpr (.inr (h p q))
theorem ledSwap {a : Adr} {k : Kon} {c : Con} {σ : W} {rest : List (Addr × Obj)} {x : Addr × Obj} : ∀ p ∈ Led a k c σ (x :: rest), p ∈ x :: Led a k c σ rest := by
  intro p hp
  have e1 : Led a k c σ (x :: rest) = Led a k c σ [] ++ x :: rest := rfl
  have e2 : Led a k c σ rest = Led a k c σ [] ++ rest := rfl
  rw [e1] at hp
  rw [e2]
  rcases List.mem_append.mp hp with h | h
  · exact List.Mem.tail _ (List.mem_append.mpr (.inl h))
  · rcases List.mem_cons.mp h with h | h
    · rw [h]; exact List.Mem.head _
    · exact List.Mem.tail _ (List.mem_append.mpr (.inr h))
theorem offCons {a : Adr} {rest : List (Addr × Obj)} {x : Addr × Obj} (h : Off a rest) (h1 : ¬ @Eq Nat x.1 a.m) (h2 : ¬ @Eq Nat x.1 a.dm) (h3 : ¬ @Eq Nat x.1 a.st) (h4 : ¬ @Eq Nat x.1 a.ds) (h5 : ¬ @Eq Nat x.1 a.hp) (h6 : ¬ @Eq Nat x.1 a.sk) (h7 : ¬ @Eq Nat x.1 a.tr) (h8 : ¬ @Eq Nat x.1 a.xs) : Off a (x :: rest) :=
  ⟨List.forall_mem_cons.mpr ⟨h1, h.m⟩, List.forall_mem_cons.mpr ⟨h2, h.dm⟩, List.forall_mem_cons.mpr ⟨h3, h.st⟩, List.forall_mem_cons.mpr ⟨h4, h.ds⟩, List.forall_mem_cons.mpr ⟨h5, h.hp⟩, List.forall_mem_cons.mpr ⟨h6, h.sk⟩, List.forall_mem_cons.mpr ⟨h7, h.tr⟩, List.forall_mem_cons.mpr ⟨h8, h.xs⟩⟩
theorem offLow {a : Adr} {rest : List (Addr × Obj)} {x : Addr × Obj} (hA : Ord a) (h : Off a rest) (hl : @LT.lt Nat _ x.1 a.dm) : Off a (x :: rest) := offCons h (Nat.ne_of_lt (Nat.lt_trans hl hA.o1)) (Nat.ne_of_lt hl) (Nat.ne_of_lt (Nat.lt_trans hl (Nat.lt_trans hA.o1 (Nat.lt_trans hA.o2 hA.o3)))) (Nat.ne_of_lt (Nat.lt_trans hl (Nat.lt_trans hA.o1 hA.o2))) (Nat.ne_of_lt (Nat.lt_trans hl (Nat.lt_trans hA.o1 (Nat.lt_trans hA.o2 (Nat.lt_trans hA.o3 hA.o4))))) (Nat.ne_of_lt (Nat.lt_trans hl (Nat.lt_trans hA.o1 (Nat.lt_trans hA.o2 (Nat.lt_trans hA.o3 (Nat.lt_trans hA.o4 hA.o5)))))) (Nat.ne_of_lt (Nat.lt_trans hl (Nat.lt_trans hA.o1 (Nat.lt_trans hA.o2 (Nat.lt_trans hA.o3 (Nat.lt_trans hA.o4 (Nat.lt_trans hA.o5 hA.o6))))))) (Nat.ne_of_lt (Nat.lt_trans hl (Nat.lt_trans hA.o1 (Nat.lt_trans hA.o2 (Nat.lt_trans hA.o3 (Nat.lt_trans hA.o4 (Nat.lt_trans hA.o5 (Nat.lt_trans hA.o6 hA.o7))))))))
theorem dmXs {a : Adr} (hA : Ord a) : @LT.lt Nat _ a.dm a.xs := (Nat.lt_trans hA.o1 (Nat.lt_trans hA.o2 (Nat.lt_trans hA.o3 (Nat.lt_trans hA.o4 (Nat.lt_trans hA.o5 (Nat.lt_trans hA.o6 hA.o7))))))
theorem unrLed {a : Adr} {k : Kon} {c : Con} {σ : W} {rest : List (Addr × Obj)} {h₀ h' : Heap} {L I : Addr} {it : Obj} {r₀ : (Str → Option Value) → List (Addr × Obj) → Prop} {s₁ : Shared} {tk : Nat} {m' : Str → Option Value}
    (F : Fr h₀ L h' m') (N : News h₀ L h' (Led a k c σ ((I, it) :: rest))) (O : AllLt I (Led a k c σ rest)) (r : r₀ m' (Led a k c σ rest)) : UnrEnd h₀ L s₁ I it r₀ { s₁ with heap := h', toks := tk } := by
  refine UnrEnd.intro F N (Led a k c σ rest) ?_ (fun p hp => Nat.ne_of_lt (allLt_all O p hp)) r
  intro p hp
  have e1 : Led a k c σ ((I, it) :: rest) = Led a k c σ [] ++ (I, it) :: rest := rfl
  have e2 : Led a k c σ rest = Led a k c σ [] ++ rest := rfl
  rw [e1]
  rw [e2] at hp
  rcases List.mem_cons.mp hp with h | h
  · rw [h]; exact List.mem_append.mpr (.inr (List.Mem.head _))
  · rcases List.mem_append.mp h with h | h
    · exact List.mem_append.mpr (.inl h)
    · exact List.mem_append.mpr (.inr (List.Mem.tail _ h))
abbrev undoW (σ : W) (j : Nat) : W := { σ with tr := σ.tr.take j, hp := undo σ.hp (σ.tr.drop j) }
theorem undoW_all (σ : W) : undoW σ σ.tr.length = σ := by
  cases σ; simp [undoW, undo]
theorem undoW_step {σ : W} {j : Nat} (h : j < σ.tr.length) : undo σ.hp (σ.tr.drop j) = (undo σ.hp (σ.tr.drop (j + 1))).set (σ.tr[j]).toNat (.tuple [.int 0, .int (σ.tr[j])]) := by
  rw [List.drop_eq_getElem_cons h]; rfl
theorem take_step {l : List Int} {j : Nat} (h : j < l.length) : l.take (j + 1) = l.take j ++ [l[j]] := by
  rw [List.take_add_one, List.getElem?_eq_getElem h]; rfl
/-- the walk stands still at a goal so marked -/
def Stop (P : Prop) : Prop := P
theorem Stop.by {P : Prop} (h : Stop P) : P := h
theorem Stop.out {P : Prop} (h : P) : Stop P := h
structure MarkW : Prop where
structure MarkF : Prop where
section
variable {prog : Program} {w : World} {A : Around} {E : Value → Shared → Prop} {s : Shared} {h₀ h : Heap} {L l : Addr} {m : Str → Option Value} {news L9 rest : List (Addr × Obj)} {vs : List Value} {ds : List Dat} {n : Nat} {k : Int} {u : Tok} {d e : Dat} {v v' : Value}
open Classical in
theorem eq_datB {Q : Value → Shared → Prop} (hv : DatIn L9 v d) (hv' : DatIn L9 v' e) (M : ∀ p ∈ L9, s.heap.get? p.1 = some p.2) (kd : kqdOk 8 d = true) (ke : kqdOk 8 e = true) (hu : A.units + 64 < cLine)
    (h : Q (.bool (decide (d = e))) s) : wpAny (model prog w) A (compareOp .Eq v v') Q E s := eq_dat M hv hv' kd ke hu h
theorem tup9B {value slice : PySem.Expr} {j : Nat} {x : Value} {Q : Value → Shared → Prop} (hm : (l, ({ cls := .type "tuple", data := .seq vs.toArray n } : Obj)) ∈ L9) (M : ∀ p ∈ L9, s.heap.get? p.1 = some p.2)
    (hlo : -(2 ^ 63) ≤ k) (hhi : k < 2 ^ 63) (hj : seqIndex? k vs.length = some j) (hx : vs[j]? = some x) (h : Q x s)
    (hs : subscripted slice false (.ref l) (.int k u) = operate [.ref l, .int k u] (getItem (.ref l) (.int k u)) := by with_unfolding_all rfl) :
    wpAny (model prog w) A (subscriptTail value slice (.ref l) (.int k u)) Q E s := tup9 M hm hlo hhi hj hx h hs
end
section
variable {a : Adr} {rest : List (Addr × Obj)} {x1 x2 x3 x4 x5 x6 x7 x8 o' : Obj}
theorem upd_dm (hA : Ord a) (hO : Off a rest) : Upd a.dm x2 o' ((a.m, x1) :: (a.dm, x2) :: (a.st, x3) :: (a.ds, x4) :: (a.hp, x5) :: (a.sk, x6) :: (a.tr, x7) :: (a.xs, x8) :: rest) ((a.m, x1) :: (a.dm, o') :: (a.st, x3) :: (a.ds, x4) :: (a.hp, x5) :: (a.sk, x6) :: (a.tr, x7) :: (a.xs, x8) :: rest) :=
  Upd.tail (Nat.ne_of_gt hA.o1) (Upd.head (List.forall_mem_cons.mpr ⟨(Nat.ne_of_gt (Nat.lt_trans hA.o1 (Nat.lt_trans hA.o2 hA.o3))), List.forall_mem_cons.mpr ⟨(Nat.ne_of_gt (Nat.lt_trans hA.o1 hA.o2)), List.forall_mem_cons.mpr ⟨(Nat.ne_of_gt (Nat.lt_trans hA.o1 (Nat.lt_trans hA.o2 (Nat.lt_trans hA.o3 hA.o4)))), List.forall_mem_cons.mpr ⟨(Nat.ne_of_gt (Nat.lt_trans hA.o1 (Nat.lt_trans hA.o2 (Nat.lt_trans hA.o3 (Nat.lt_trans hA.o4 hA.o5))))), List.forall_mem_cons.mpr ⟨(Nat.ne_of_gt (Nat.lt_trans hA.o1 (Nat.lt_trans hA.o2 (Nat.lt_trans hA.o3 (Nat.lt_trans hA.o4 (Nat.lt_trans hA.o5 hA.o6)))))), List.forall_mem_cons.mpr ⟨(Nat.ne_of_gt (Nat.lt_trans hA.o1 (Nat.lt_trans hA.o2 (Nat.lt_trans hA.o3 (Nat.lt_trans hA.o4 (Nat.lt_trans hA.o5 (Nat.lt_trans hA.o6 hA.o7))))))), hO.dm⟩⟩⟩⟩⟩⟩))
theorem upd_ds (hA : Ord a) (hO : Off a rest) : Upd a.ds x4 o' ((a.m, x1) :: (a.dm, x2) :: (a.st, x3) :: (a.ds, x4) :: (a.hp, x5) :: (a.sk, x6) :: (a.tr, x7) :: (a.xs, x8) :: rest) ((a.m, x1) :: (a.dm, x2) :: (a.st, x3) :: (a.ds, o') :: (a.hp, x5) :: (a.sk, x6) :: (a.tr, x7) :: (a.xs, x8) :: rest) :=
  Upd.tail (Nat.ne_of_lt hA.o2) (Upd.tail (Nat.ne_of_lt (Nat.lt_trans hA.o1 hA.o2)) (Upd.tail (Nat.ne_of_gt hA.o3) (Upd.head (List.forall_mem_cons.mpr ⟨(Nat.ne_of_gt (Nat.lt_trans hA.o3 hA.o4)), List.forall_mem_cons.mpr ⟨(Nat.ne_of_gt (Nat.lt_trans hA.o3 (Nat.lt_trans hA.o4 hA.o5))), List.forall_mem_cons.mpr ⟨(Nat.ne_of_gt (Nat.lt_trans hA.o3 (Nat.lt_trans hA.o4 (Nat.lt_trans hA.o5 hA.o6)))), List.forall_mem_cons.mpr ⟨(Nat.ne_of_gt (Nat.lt_trans hA.o3 (Nat.lt_trans hA.o4 (Nat.lt_trans hA.o5 (Nat.lt_trans hA.o6 hA.o7))))), hO.ds⟩⟩⟩⟩))))
theorem upd_hp (hA : Ord a) (hO : Off a rest) : Upd a.hp x5 o' ((a.m, x1) :: (a.dm, x2) :: (a.st, x3) :: (a.ds, x4) :: (a.hp, x5) :: (a.sk, x6) :: (a.tr, x7) :: (a.xs, x8) :: rest) ((a.m, x1) :: (a.dm, x2) :: (a.st, x3) :: (a.ds, x4) :: (a.hp, o') :: (a.sk, x6) :: (a.tr, x7) :: (a.xs, x8) :: rest) :=
  Upd.tail (Nat.ne_of_lt (Nat.lt_trans hA.o2 (Nat.lt_trans hA.o3 hA.o4))) (Upd.tail (Nat.ne_of_lt (Nat.lt_trans hA.o1 (Nat.lt_trans hA.o2 (Nat.lt_trans hA.o3 hA.o4)))) (Upd.tail (Nat.ne_of_lt hA.o4) (Upd.tail (Nat.ne_of_lt (Nat.lt_trans hA.o3 hA.o4)) (Upd.head (List.forall_mem_cons.mpr ⟨(Nat.ne_of_gt hA.o5), List.forall_mem_cons.mpr ⟨(Nat.ne_of_gt (Nat.lt_trans hA.o5 hA.o6)), List.forall_mem_cons.mpr ⟨(Nat.ne_of_gt (Nat.lt_trans hA.o5 (Nat.lt_trans hA.o6 hA.o7))), hO.hp⟩⟩⟩)))))
theorem upd_sk (hA : Ord a) (hO : Off a rest) : Upd a.sk x6 o' ((a.m, x1) :: (a.dm, x2) :: (a.st, x3) :: (a.ds, x4) :: (a.hp, x5) :: (a.sk, x6) :: (a.tr, x7) :: (a.xs, x8) :: rest) ((a.m, x1) :: (a.dm, x2) :: (a.st, x3) :: (a.ds, x4) :: (a.hp, x5) :: (a.sk, o') :: (a.tr, x7) :: (a.xs, x8) :: rest) :=
  Upd.tail (Nat.ne_of_lt (Nat.lt_trans hA.o2 (Nat.lt_trans hA.o3 (Nat.lt_trans hA.o4 hA.o5)))) (Upd.tail (Nat.ne_of_lt (Nat.lt_trans hA.o1 (Nat.lt_trans hA.o2 (Nat.lt_trans hA.o3 (Nat.lt_trans hA.o4 hA.o5))))) (Upd.tail (Nat.ne_of_lt (Nat.lt_trans hA.o4 hA.o5)) (Upd.tail (Nat.ne_of_lt (Nat.lt_trans hA.o3 (Nat.lt_trans hA.o4 hA.o5))) (Upd.tail (Nat.ne_of_lt hA.o5) (Upd.head (List.forall_mem_cons.mpr ⟨(Nat.ne_of_gt hA.o6), List.forall_mem_cons.mpr ⟨(Nat.ne_of_gt (Nat.lt_trans hA.o6 hA.o7)), hO.sk⟩⟩))))))
theorem upd_tr (hA : Ord a) (hO : Off a rest) : Upd a.tr x7 o' ((a.m, x1) :: (a.dm, x2) :: (a.st, x3) :: (a.ds, x4) :: (a.hp, x5) :: (a.sk, x6) :: (a.tr, x7) :: (a.xs, x8) :: rest) ((a.m, x1) :: (a.dm, x2) :: (a.st, x3) :: (a.ds, x4) :: (a.hp, x5) :: (a.sk, x6) :: (a.tr, o') :: (a.xs, x8) :: rest) :=
  Upd.tail (Nat.ne_of_lt (Nat.lt_trans hA.o2 (Nat.lt_trans hA.o3 (Nat.lt_trans hA.o4 (Nat.lt_trans hA.o5 hA.o6))))) (Upd.tail (Nat.ne_of_lt (Nat.lt_trans hA.o1 (Nat.lt_trans hA.o2 (Nat.lt_trans hA.o3 (Nat.lt_trans hA.o4 (Nat.lt_trans hA.o5 hA.o6)))))) (Upd.tail (Nat.ne_of_lt (Nat.lt_trans hA.o4 (Nat.lt_trans hA.o5 hA.o6))) (Upd.tail (Nat.ne_of_lt (Nat.lt_trans hA.o3 (Nat.lt_trans hA.o4 (Nat.lt_trans hA.o5 hA.o6)))) (Upd.tail (Nat.ne_of_lt (Nat.lt_trans hA.o5 hA.o6)) (Upd.tail (Nat.ne_of_lt hA.o6) (Upd.head (List.forall_mem_cons.mpr ⟨(Nat.ne_of_gt hA.o7), hO.tr⟩)))))))
theorem upd_xs (hA : Ord a) (hO : Off a rest) : Upd a.xs x8 o' ((a.m, x1) :: (a.dm, x2) :: (a.st, x3) :: (a.ds, x4) :: (a.hp, x5) :: (a.sk, x6) :: (a.tr, x7) :: (a.xs, x8) :: rest) ((a.m, x1) :: (a.dm, x2) :: (a.st, x3) :: (a.ds, x4) :: (a.hp, x5) :: (a.sk, x6) :: (a.tr, x7) :: (a.xs, o') :: rest) :=
  Upd.tail (Nat.ne_of_lt (Nat.lt_trans hA.o2 (Nat.lt_trans hA.o3 (Nat.lt_trans hA.o4 (Nat.lt_trans hA.o5 (Nat.lt_trans hA.o6 hA.o7)))))) (Upd.tail (Nat.ne_of_lt (Nat.lt_trans hA.o1 (Nat.lt_trans hA.o2 (Nat.lt_trans hA.o3 (Nat.lt_trans hA.o4 (Nat.lt_trans hA.o5 (Nat.lt_trans hA.o6 hA.o7))))))) (Upd.tail (Nat.ne_of_lt (Nat.lt_trans hA.o4 (Nat.lt_trans hA.o5 (Nat.lt_trans hA.o6 hA.o7)))) (Upd.tail (Nat.ne_of_lt (Nat.lt_trans hA.o3 (Nat.lt_trans hA.o4 (Nat.lt_trans hA.o5 (Nat.lt_trans hA.o6 hA.o7))))) (Upd.tail (Nat.ne_of_lt (Nat.lt_trans hA.o5 (Nat.lt_trans hA.o6 hA.o7))) (Upd.tail (Nat.ne_of_lt (Nat.lt_trans hA.o6 hA.o7)) (Upd.tail (Nat.ne_of_lt hA.o7) (Upd.head (hO.xs))))))))
end
theorem cj1 {a1 p b : Prop} (h : a1 ∧ p ∧ b) : p := h.2.1
theorem cj2 {a1 a2 p b : Prop} (h : a1 ∧ a2 ∧ p ∧ b) : p := h.2.2.1
theorem cj3 {a1 a2 a3 p b : Prop} (h : a1 ∧ a2 ∧ a3 ∧ p ∧ b) : p := h.2.2.2.1
theorem cj4 {a1 a2 a3 a4 p b : Prop} (h : a1 ∧ a2 ∧ a3 ∧ a4 ∧ p ∧ b) : p := h.2.2.2.2.1
theorem cj5 {a1 a2 a3 a4 a5 p b : Prop} (h : a1 ∧ a2 ∧ a3 ∧ a4 ∧ a5 ∧ p ∧ b) : p := h.2.2.2.2.2.1
theorem cj6 {a1 a2 a3 a4 a5 a6 p b : Prop} (h : a1 ∧ a2 ∧ a3 ∧ a4 ∧ a5 ∧ a6 ∧ p ∧ b) : p := h.2.2.2.2.2.2.1
theorem cj7 {a1 a2 a3 a4 a5 a6 a7 p b : Prop} (h : a1 ∧ a2 ∧ a3 ∧ a4 ∧ a5 ∧ a6 ∧ a7 ∧ p ∧ b) : p := h.2.2.2.2.2.2.2.1
theorem cj8 {a1 a2 a3 a4 a5 a6 a7 a8 p b : Prop} (h : a1 ∧ a2 ∧ a3 ∧ a4 ∧ a5 ∧ a6 ∧ a7 ∧ a8 ∧ p ∧ b) : p := h.2.2.2.2.2.2.2.2.1
theorem cj9 {a1 a2 a3 a4 a5 a6 a7 a8 a9 p b : Prop} (h : a1 ∧ a2 ∧ a3 ∧ a4 ∧ a5 ∧ a6 ∧ a7 ∧ a8 ∧ a9 ∧ p ∧ b) : p := h.2.2.2.2.2.2.2.2.2.1
theorem cj10 {a1 a2 a3 a4 a5 a6 a7 a8 a9 a10 p b : Prop} (h : a1 ∧ a2 ∧ a3 ∧ a4 ∧ a5 ∧ a6 ∧ a7 ∧ a8 ∧ a9 ∧ a10 ∧ p ∧ b) : p := h.2.2.2.2.2.2.2.2.2.2.1
theorem cj11 {a1 a2 a3 a4 a5 a6 a7 a8 a9 a10 a11 p b : Prop} (h : a1 ∧ a2 ∧ a3 ∧ a4 ∧ a5 ∧ a6 ∧ a7 ∧ a8 ∧ a9 ∧ a10 ∧ a11 ∧ p ∧ b) : p := h.2.2.2.2.2.2.2.2.2.2.2.1
theorem cj12 {a1 a2 a3 a4 a5 a6 a7 a8 a9 a10 a11 a12 p b : Prop} (h : a1 ∧ a2 ∧ a3 ∧ a4 ∧ a5 ∧ a6 ∧ a7 ∧ a8 ∧ a9 ∧ a10 ∧ a11 ∧ a12 ∧ p ∧ b) : p := h.2.2.2.2.2.2.2.2.2.2.2.2.1
theorem ce1 {a1 p : Prop} (h : a1 ∧ p) : p := h.2
theorem ce2 {a1 a2 p : Prop} (h : a1 ∧ a2 ∧ p) : p := h.2.2
theorem ce3 {a1 a2 a3 p : Prop} (h : a1 ∧ a2 ∧ a3 ∧ p) : p := h.2.2.2
theorem ce4 {a1 a2 a3 a4 p : Prop} (h : a1 ∧ a2 ∧ a3 ∧ a4 ∧ p) : p := h.2.2.2.2
theorem ce5 {a1 a2 a3 a4 a5 p : Prop} (h : a1 ∧ a2 ∧ a3 ∧ a4 ∧ a5 ∧ p) : p := h.2.2.2.2.2
theorem ce6 {a1 a2 a3 a4 a5 a6 p : Prop} (h : a1 ∧ a2 ∧ a3 ∧ a4 ∧ a5 ∧ a6 ∧ p) : p := h.2.2.2.2.2.2
theorem ce7 {a1 a2 a3 a4 a5 a6 a7 p : Prop} (h : a1 ∧ a2 ∧ a3 ∧ a4 ∧ a5 ∧ a6 ∧ a7 ∧ p) : p := h.2.2.2.2.2.2.2
theorem ce8 {a1 a2 a3 a4 a5 a6 a7 a8 p : Prop} (h : a1 ∧ a2 ∧ a3 ∧ a4 ∧ a5 ∧ a6 ∧ a7 ∧ a8 ∧ p) : p := h.2.2.2.2.2.2.2.2
theorem ce9 {a1 a2 a3 a4 a5 a6 a7 a8 a9 p : Prop} (h : a1 ∧ a2 ∧ a3 ∧ a4 ∧ a5 ∧ a6 ∧ a7 ∧ a8 ∧ a9 ∧ p) : p := h.2.2.2.2.2.2.2.2.2
theorem ce10 {a1 a2 a3 a4 a5 a6 a7 a8 a9 a10 p : Prop} (h : a1 ∧ a2 ∧ a3 ∧ a4 ∧ a5 ∧ a6 ∧ a7 ∧ a8 ∧ a9 ∧ a10 ∧ p) : p := h.2.2.2.2.2.2.2.2.2.2
theorem ce11 {a1 a2 a3 a4 a5 a6 a7 a8 a9 a10 a11 p : Prop} (h : a1 ∧ a2 ∧ a3 ∧ a4 ∧ a5 ∧ a6 ∧ a7 ∧ a8 ∧ a9 ∧ a10 ∧ a11 ∧ p) : p := h.2.2.2.2.2.2.2.2.2.2.2
theorem ce12 {a1 a2 a3 a4 a5 a6 a7 a8 a9 a10 a11 a12 p : Prop} (h : a1 ∧ a2 ∧ a3 ∧ a4 ∧ a5 ∧ a6 ∧ a7 ∧ a8 ∧ a9 ∧ a10 ∧ a11 ∧ a12 ∧ p) : p := h.2.2.2.2.2.2.2.2.2.2.2.2
theorem neAll {d : Addr} {l : List (Addr × Obj)} (h : AllLt d l) : ∀ p ∈ l, p.1 ≠ d := fun p hp => Nat.ne_of_lt (allLt_all h p hp)
theorem genNews {P : Prop} {g h : Heap} {L : Addr} {l : List (Addr × Obj)} (N : News g L h l) (k : ∀ r, r = l → News g L h r → P) : P := k l rfl N
end Mine
namespace Mine
theorem kw0_Base2 : True := by
  k_with_none
  w_top off
  trivial
section
variable {prog : Program} {w : World} {A : Around} {E : Value → Shared → Prop} {s : Shared} {h₀ h : Heap} {L l : Addr} {m : Str → Option Value} {news news' L9 rest pre : List (Addr × Obj)} {vs : List Value} {ds : List Dat} {n : Nat} {k : Int} {u : Tok} {d : Dat} {v : Value}
theorem len_dat {Q : Value → Shared → Prop} (N : News h₀ L s.heap news) (hm : (l, listOf vs.toArray n) ∈ news) (hd : DatAll L9 vs ds) (hz : ds.length ≤ 100000)
    (h : ∀ t tk, Q (.int (ds.length : Int) t) { s with toks := tk }) : wpAny (model prog w) A (call (.builtin "len") [.ref l]) Q E s :=
  len_lst N hm (by rw [hd.length]; exact hz) (by rw [hd.length]; exact h)
end
theorem segAt {S seg : List Dat} {p i : Nat} {d : Dat} {k : Int} (h : p ≤ S.length) (hi : seg[i]? = some d) (hk : k = (p : Int) + (i : Int)) : At (segS S p seg) k d := by
  refine ⟨by omega, ?_⟩
  have e : k.toNat = p + i := by omega
  have hl : i < seg.length := (List.getElem?_eq_some_iff.mp hi).1
  have e1 : (S.take p).length = p := by simp; omega
  rw [e, segS, List.append_assoc, List.getElem?_append_right (by rw [e1]; omega), e1, List.getElem?_append_left (by omega)]
  rw [Nat.add_sub_cancel_left]; exact hi
end Mine
namespace Mine
def LedEnd (h₀ : Heap) (L : Addr) (a : Adr) (k : Kon) (rest own : List (Addr × Obj)) (J : (Str → Option Value) → Con → W → Prop) (s₁ s₂ : Shared) : Prop :=
  ∃ h' tk m' c σ, s₂ = { s₁ with heap := h', toks := tk } ∧ Fr h₀ L h' m' ∧ News h₀ L h' (Led a k c σ (rest ++ own)) ∧ J m' c σ
def LedPost (h₀ : Heap) (L : Addr) (a : Adr) (k : Kon) (rest own : List (Addr × Obj)) (J : (Str → Option Value) → Con → W → Prop) (s₁ : Shared) (Q : Flow → Shared → Prop) (f : Flow) (s₂ : Shared) : Prop :=
  match f with
  | .ret v => Q (.ret v) s₂
  | .brk => Q .next s₂
  | _ => LedEnd h₀ L a k rest own J s₁ s₂
theorem ledApp {a : Adr} {k : Kon} {c : Con} {σ : W} {rest own : List (Addr × Obj)} : Led a k c σ (rest ++ own) = Led a k c σ rest ++ own := rfl
theorem ledAdr {a : Adr} {k : Kon} {c : Con} {σ : W} {rest : List (Addr × Obj)} : (Led a k c σ rest).map (·.1) = [a.m, a.dm, a.st, a.ds, a.hp, a.sk, a.tr, a.xs] ++ rest.map (·.1) := rfl
theorem offOwn {a : Adr} {k : Kon} {c : Con} {σ : W} {rest own : List (Addr × Obj)} (h : OwnOff own ((Led a k c σ rest).map (·.1))) : Off a own := by
  rw [ledAdr] at h
  have q : ∀ b, b ∈ [a.m, a.dm, a.st, a.ds, a.hp, a.sk, a.tr, a.xs] → ∀ p ∈ own, p.1 ≠ b := fun b hb p hp => h p hp b (List.mem_append.mpr (.inl hb))
  exact ⟨q _ (by simp), q _ (by simp), q _ (by simp), q _ (by simp), q _ (by simp), q _ (by simp), q _ (by simp), q _ (by simp)⟩
theorem ledPost {h₀ : Heap} {L : Addr} {a : Adr} {k : Kon} {rest own : List (Addr × Obj)} {J : (Str → Option Value) → Con → W → Prop} {s₁ s₂ : Shared} {Q : Flow → Shared → Prop} {f : Flow} {c₀ : Con} {σ₀ : W} {P : (Str → Option Value) → List (Addr × Obj) → Prop}
    (hp : ∀ m c σ, J m c σ → P m (Led a k c σ rest)) (ho : OwnOff own ((Led a k c₀ σ₀ rest).map (·.1))) (h : LedPost h₀ L a k rest own J s₁ Q f s₂) : InvPostG h₀ L P own s₁ Q f s₂ := by
  have fin : LedEnd h₀ L a k rest own J s₁ s₂ → InvEndG h₀ L P own s₁ s₂ := by
    rintro ⟨h', tk, m', c, σ, rfl, F, N, j⟩
    rw [ledApp] at N
    refine InvEndG.intro F N (hp _ _ _ j) ?_ (fun p hp => List.mem_append.mpr (.inl hp)) (fun p hp => List.mem_append.mpr (.inr hp))
    rw [ledAdr] at ho ⊢
    exact ho
  cases f with
  | ret v => exact h
  | brk => exact h
  | next => exact fin h
  | cont => exact fin h
section
variable {prog : Program} {w : World} {A : Around} {E : Value → Shared → Prop} {s : Shared} {env : Env} {h₀ : Heap} {x : Str} {body : List Stmt} {Q : Flow → Shared → Prop} {a : Adr} {k : Kon} {rest : List (Addr × Obj)}
theorem led_list {l : Addr} {vs : List Value} {nn : Nat} {m₀ : Str → Option Value} {c₀ : Con} {σ₀ : W} (J : Nat → (Str → Option Value) → Con → W → Prop)
    (hh : A.handled = none) (hl : (l, listOf vs.toArray nn) ∈ rest) (F : Fr h₀ env.locals s.heap m₀) (N : News h₀ env.locals s.heap (Led a k c₀ σ₀ rest)) (hj : J 0 m₀ c₀ σ₀)
    (turn : ∀ i v m₁ c σ h tk own, vs[i]? = some v → Off a own → J i m₁ c σ → Fr h₀ env.locals h (fun y => if y = x then some v else m₁ y) → News h₀ env.locals h (Led a k c σ (rest ++ own)) →
      wpAny (model prog w) A (execs body env) (LedPost h₀ env.locals a k rest own (J (i + 1)) { s with heap := h, toks := tk } Q) E { s with heap := h, toks := tk })
    (done : ∀ m₁ c σ h tk, J vs.length m₁ c σ → Fr h₀ env.locals h m₁ → News h₀ env.locals h (Led a k c σ rest) → Q .next { s with heap := h, toks := tk }) :
    wpAny (model prog w) A (pyIter (.ref l)) (fun it s₂ => LoopAtV prog w A h₀ env x body Q E it s₂) E s := by
  refine kdl_iter (fun i m nx => ∃ c σ, nx = Led a k c σ rest ∧ J i m c σ) hh (by
    have e : Led a k c₀ σ₀ rest = Led a k c₀ σ₀ [] ++ rest := rfl
    show (l, listOf vs.toArray nn) ∈ Led a k c₀ σ₀ rest
    rw [e]; exact List.mem_append.mpr (.inr hl)) F N ⟨c₀, σ₀, rfl, hj⟩ ?_ ?_
  · rintro i v m₁ nx h tk own hv hoff _ ⟨c, σ, rfl, hJ⟩ F₁ N₁
    rw [← ledApp] at N₁
    refine wpAny_mono (turn i v m₁ c σ h tk own hv (offOwn hoff) hJ F₁ N₁) (fun f s₂ p => ledPost (fun m c σ j => ⟨?_, c, σ, rfl, j⟩) hoff p) fun _ _ e => e
    have e : Led a k c σ rest = Led a k c σ [] ++ rest := rfl
    rw [e]; exact List.mem_append.mpr (.inr hl)
  · rintro m₁ nx h tk ⟨c, σ, rfl, hJ⟩ F₁ N₁
    exact done m₁ c σ h tk hJ F₁ N₁
theorem led_range {r : Addr} {a₀ b₀ : Int} {t₀ u₀ v₀ : Tok} {n : Nat} {m₀ : Str → Option Value} {c₀ : Con} {σ₀ : W} (J : Nat → (Str → Option Value) → Con → W → Prop)
    (hh : A.handled = none) (hr : IsRange s.heap r a₀ b₀ 1 t₀ u₀ v₀) (hsmall : Builtin.Range.small a₀ b₀ 1 = true) (hsz : Builtin.Range.rangeSize a₀ b₀ 1 = (n : Int)) (F : Fr h₀ env.locals s.heap m₀) (N : News h₀ env.locals s.heap (Led a k c₀ σ₀ rest)) (hj : J 0 m₀ c₀ σ₀)
    (turn : ∀ i t m₁ c σ h tk own, i < n → Off a own → J i m₁ c σ → Fr h₀ env.locals h (fun y => if y = x then some (.int (a₀ + (i : Int)) t) else m₁ y) → News h₀ env.locals h (Led a k c σ (rest ++ own)) →
      wpAny (model prog w) A (execs body env) (LedPost h₀ env.locals a k rest own (J (i + 1)) { s with heap := h, toks := tk } Q) E { s with heap := h, toks := tk })
    (done : ∀ m₁ c σ h tk, J n m₁ c σ → Fr h₀ env.locals h m₁ → News h₀ env.locals h (Led a k c σ rest) → Q .next { s with heap := h, toks := tk }) :
    wpAny (model prog w) A (pyIter (.ref r)) (fun it s₂ => LoopAtV prog w A h₀ env x body Q E it s₂) E s := by
  refine wpAny_pyIter_range hr hsmall ?_
  have W : Walks prog w A s.heap.objs.size [s.heap.objs.size] [s.heap.objs.size] n (fun i v => i < n ∧ ∃ t, v = .int (a₀ + i * 1) t)
      (fun i h => IsRangeIter h s.heap.objs.size (a₀ + (i : Nat) * 1) ((n : Int) - (i : Nat)) 1) := (Walks.range hh _ a₀ 1 n).bound
  refine kdr_loop (news := Led a k c₀ σ₀ rest) (fun i m nx => ∃ c σ, nx = Led a k c σ rest ∧ J i m c σ) W (fun _ h => h) (fun _ h => h) ?_ ?_ ?_ ?_ (by show IsRangeIter _ _ _ _ _; rw [hsz]; simpa using Heap.get?_push_size _ rfl) (F.push _) (fun p hp => ⟨Heap.get?_push_of_some _ (N p hp).1, (N p hp).2⟩) ⟨c₀, σ₀, rfl, hj⟩ ?_ ?_
  · intro i h hi b hb
    rw [List.mem_singleton.mp hb]
    exact ⟨_, hi⟩
  · intro hm
    exact absurd F.ns.lt ((List.mem_singleton.mp hm) ▸ Nat.lt_irrefl _)
  · intro b hb
    rw [List.mem_singleton.mp hb]
    exact next_is_new F
  · intro p hp hI
    exact absurd (Heap.lt_size (N p hp).1) ((List.mem_singleton.mp hI) ▸ Nat.lt_irrefl _)
  · rintro i v m₁ nx h tk own hi ⟨_, t, rfl⟩ hoff ⟨c, σ, rfl, hJ⟩ F₁ N₁
    have e1 : a₀ + (i : Int) * 1 = a₀ + (i : Int) := by omega
    rw [e1] at F₁
    rw [← ledApp] at N₁
    exact wpAny_mono (turn i t m₁ c σ h tk own hi (offOwn hoff) hJ F₁ N₁) (fun f s₂ p => ledPost (fun m c σ j => ⟨c, σ, rfl, j⟩) hoff p) fun _ _ e => e
  · rintro m₁ nx h tk ⟨c, σ, rfl, hJ⟩ F₁ N₁
    exact done m₁ c σ h tk hJ F₁ N₁
end
end Mine
namespace Mine
theorem knownL {m : Str → Option Value} {ps : List (Str × Value)} (h : ∀ p ∈ ps, m p.1 = some p.2) : m = kstB m ps := by
  funext y
  exact (kstB_eq h fun _ => rfl).symm
theorem all1 {α : Type} {P : α → Prop} {a : α} (h : P a) : ∀ p ∈ [a], P p := List.forall_mem_cons.mpr ⟨h, List.forall_mem_nil _⟩
theorem allC {α : Type} {P : α → Prop} {a : α} {l : List α} (h : P a) (r : ∀ p ∈ l, P p) : ∀ p ∈ a :: l, P p := List.forall_mem_cons.mpr ⟨h, r⟩
theorem dTakeS {ds : List Dat} {i : Nat} {d : Dat} (h : ds[i]? = some d) : ds.take (i + 1) = ds.take i ++ [d] := by
  rw [List.take_add_one, h]; rfl
theorem datGet {L9 : List (Addr × Obj)} {vs : List Value} {ds : List Dat} (h : DatAll L9 vs ds) {i : Nat} {v : Value} (hv : vs[i]? = some v) : ∃ d, ds[i]? = some d ∧ DatIn L9 v d := by
  have hl : i < ds.length := by rw [← h.length]; exact (List.getElem?_eq_some_iff.mp hv).1
  obtain ⟨v', hv', hd⟩ := h.get hl
  rw [hv] at hv'
  cases hv'
  exact ⟨_, List.getElem?_eq_getElem hl, hd⟩
end Mine
namespace Mine
theorem smSeg {σ : W} {S seg : List Dat} {p : Nat} (h : Sm σ) (h1 : S.length ≤ 3900) (h2 : p ≤ S.length) (h3 : seg.length ≤ 50) : Sm { σ with sk := segS S p seg } :=
  ⟨h.h, by have := segLenEq (seg := seg) h2; dsimp only; omega, h.t, h.x⟩
end Mine
namespace Mine
theorem smX {σ : W} {l : List Dat} (h : Sm σ) (h1 : l.length ≤ 5) : Sm { σ with x := segS σ.x 1 l } :=
  ⟨h.h, h.s, h.t, by rw [segLenEq (by rw [h.x]; omega), h.x]; omega⟩
theorem setX {x l : List Dat} {d : Dat} {k : Int} (h : x.length = 6) (hl : l.length ≤ 4) (hk : k = 1 + (l.length : Int)) : (segS x 1 l).set k.toNat d = segS x 1 (l ++ [d]) := by
  have e : k.toNat = 1 + l.length := by omega
  have hlen : (segS x 1 l).length = 6 := by rw [segLenEq (by omega), h]; omega
  rw [e, setSeg (by rw [hlen]; omega), segSeg (by omega)]
theorem clampN {y : Int} {n : Nat} (h0 : 0 ≤ y) (h1 : y ≤ n) : max 0 (min y (n : Int)) = ((y.toNat : Nat) : Int) := by
  rw [Int.min_eq_left h1, Int.max_eq_right h0, Int.toNat_of_nonneg h0]
theorem rangeLen {n : Nat} : Builtin.Range.rangeSize 1 ((n : Int) + 1) 1 = (n : Int) := by
  simp only [Builtin.Range.rangeSize]
  split <;> omega
end Mine
namespace Mine
theorem smSame {σ σ' : W} (h : Sm σ) (h1 : σ'.hp = σ.hp) (h2 : σ'.sk = σ.sk) (h3 : σ'.tr = σ.tr) (h4 : σ'.x = σ.x) : Sm σ' := ⟨h1 ▸ h.h, h2 ▸ h.s, h3 ▸ h.t, h4 ▸ h.x⟩
end Mine
namespace Mine
theorem segNil {S : List Dat} {p : Nat} : segS S p [] = S := by simp [segS]
end Mine
namespace Mine
theorem smUndo {σ σ' : W} (h : Sm σ) (h2 : σ'.sk = σ.sk) (h4 : σ'.x = σ.x) (h1 : σ'.hp.length = σ.hp.length) (h3 : σ'.tr.length ≤ σ.tr.length) : Sm σ' := ⟨h1 ▸ h.h, h2 ▸ h.s, Nat.le_trans h3 h.t, h4 ▸ h.x⟩
end Mine
namespace Mine
/-- the chain of choice points, the newest first -/
inductive ChB (S : List Dat) : Int → List Int → Prop
  | nil {b : Int} : b < 0 → ChB S b []
  | cons {b p : Int} {cnt : Int} {l : List Int} : 0 ≤ b → At S b (.int cnt) → At S (b + cnt + 3) (.int p) → ChB S p l → ChB S b (b :: l)
/-- the chain of environments -/
inductive ChE (S : List Dat) : Int → List Int → Prop
  | nil {e : Int} : e < 0 → ChE S e []
  | cons {e p : Int} {l : List Int} : 0 ≤ e → At S e (.int p) → ChE S p l → ChE S e (e :: l)
end Mine
namespace Mine
theorem packL {h₀ h : Heap} {L : Addr} {m : Str → Option Value} {a : Adr} {k : Kon} {c : Con} {σ : W} {rest : List (Addr × Obj)} {lf : Addr} (ps : Addr → List (Str × Value)) (F : Fr h₀ L h m) (N : News h₀ L h ((lf, listOf [].toArray 0) :: Led a k c σ rest)) (O : AllLt lf (Led a k c σ rest)) (hm : ∀ p ∈ ps lf, m p.1 = some p.2) :
    ∃ lf m', Fr h₀ L h m' ∧ News h₀ L h ((lf, listOf [].toArray 0) :: Led a k c σ rest) ∧ AllLt lf (Led a k c σ rest) ∧ ∀ p ∈ ps lf, m' p.1 = some p.2 := ⟨_, _, F, N, O, hm⟩
end Mine
namespace Mine
section
variable {prog : Program} {w : World} {A : Around} {E : Value → Shared → Prop} {s : Shared} {h₀ : Heap} {L l : Addr} {news : List (Addr × Obj)} {vs : List Value} {n : Nat} {k : Int} {u : Tok} {x : Value}
theorem get_val {Q : Value → Shared → Prop} (N : News h₀ L s.heap news) (hm : (l, listOf vs.toArray n) ∈ news) (h0 : 0 ≤ k) (hz : k < 1000) (hx : vs[k.toNat]? = some x)
    (h : Q x s) : wpAny (model prog w) A (getItem (.ref l) (.int k u)) Q E s :=
  wpAny_getItem_list ⟨_, (N _ hm).1, rfl, n, rfl⟩ h0 (by omega) (by simpa using hx) h
theorem item_val {value slice : PySem.Expr} {Q : Value → Shared → Prop} (N : News h₀ L s.heap news) (hm : (l, listOf vs.toArray n) ∈ news) (h0 : 0 ≤ k) (hz : k < 1000) (hx : vs[k.toNat]? = some x)
    (h : Q x s) (hs : subscripted slice false (.ref l) (.int k u) = operate [.ref l, .int k u] (getItem (.ref l) (.int k u)) := by with_unfolding_all rfl) :
    wpAny (model prog w) A (subscriptTail value slice (.ref l) (.int k u)) Q E s := by
  have hl : s.heap.IsList l vs.toArray := ⟨_, (N _ hm).1, rfl, n, rfl⟩
  exact tail_any hl.typeIs slot_list_getitem.lookup (get_val N hm h0 hz hx h) hs
end
end Mine
namespace Mine
section
variable {prog : Program} {w : World} {A : Around} {E : Value → Shared → Prop} {s : Shared} {h₀ : Heap} {L l : Addr} {news L9 : List (Addr × Obj)} {vs : List Value} {ns : List Int} {n : Nat} {k : Int} {u : Tok}
theorem atInts {ns : List Int} (h0 : 0 ≤ k) (h1 : k < ns.length) : At (ns.map Dat.int) k (.int (ns.getD k.toNat 0)) := by
  refine ⟨h0, ?_⟩
  have : k.toNat < ns.length := by omega
  simp [this]
theorem item_int {value slice : PySem.Expr} {Q : Value → Shared → Prop} (N : News h₀ L s.heap news) (hm : (l, listOf vs.toArray n) ∈ news) (hd : DatAll L9 vs (ns.map Dat.int)) (h0 : 0 ≤ k) (h1 : k < ns.length) (hz : ns.length ≤ 100000)
    (h : ∀ t, Q (.int (ns.getD k.toNat 0) t) s) (hs : subscripted slice false (.ref l) (.int k u) = operate [.ref l, .int k u] (getItem (.ref l) (.int k u)) := by with_unfolding_all rfl) :
    wpAny (model prog w) A (subscriptTail value slice (.ref l) (.int k u)) Q E s :=
  itemI_lst N hm hd (atInts h0 h1) (by rw [List.length_map]; exact hz) h hs
end
end Mine
namespace Mine
open LCg in
theorem compInd {prog : Program} {w : World} {A : Around} {h₀ : Heap} {L : Addr} {m : Str → Option Value} {env : Env} {elt : PySem.Expr} {x : Str} {scope : Scope} {cl : List (Str × Addr)} {s : Shared} {S : List (Addr × Obj) → Prop} {P : Nat → Value → Prop} {Fin : List Value → List (Addr × Obj) → Prop} (n : Nat) (J : Nat → List Value → List (Addr × Obj) → Prop)
    (step : ∀ i ys news v I oI C oC D m₂ h tk (E' : Value → Shared → Prop), i < n → J i ys news → P i v → NsObj oC m₂ → m₂ x = some v → Fr h₀ L h m → News h₀ L h ((I, oI) :: (C, oC) :: (D, lst ys) :: news) → Off3 I C D news → ((@Ne Nat I C) ∧ (@Ne Nat I D) ∧ (@Ne Nat C D)) →
      wpAny (model prog w) A (eval elt (compEnvC scope cl C env)) (CompEnd h₀ L m { s with heap := h, toks := tk } I oI C oC D (lst ys) S (fun y news' => J (i + 1) (ys ++ [y]) news')) E' { s with heap := h, toks := tk })
    (fin : ∀ ys news, J n ys news → Fin ys news) : ∀ k i ys news, i + k = n → J i ys news → CompRest prog w A h₀ L m env elt x scope cl s S P Fin k i ys news := by
  intro k
  induction k with
  | zero => intro i ys news e j; have : i = n := by omega
            subst this; exact CompRest.zero (fin _ _ j)
  | succ k ih =>
    intro i ys news e j
    refine CompRest.succ fun v I oI C oC D m₂ h tk E' hP hN hx F N O ne => ?_
    refine wpAny_mono (step i ys news v I oI C oC D m₂ h tk E' (by omega) j hP hN hx F N O ne) (fun y s₂ q => ?_) fun _ _ e => e
    obtain ⟨h', tk', news', e1, F', N', O', hS, r⟩ := q
    exact ⟨h', tk', news', e1, F', N', O', hS, ih (i + 1) _ _ (by omega) r⟩
theorem off3_mem {I C D : Addr} {l : List (Addr × Obj)} (h : LCg.Off3 I C D l) : ∀ p ∈ l, ¬ @Eq Nat p.1 I ∧ ¬ @Eq Nat p.1 C ∧ ¬ @Eq Nat p.1 D := fun p hp => h.mem p hp
end Mine
namespace Mine
theorem off1_all {D : Addr} : ∀ {l : List (Addr × Obj)}, LCg.Off1 D l → ∀ p ∈ l, ¬ @Eq Nat p.1 D
  | [], _ => List.forall_mem_nil _
  | _ :: _, h => List.forall_mem_cons.mpr ⟨h.1, off1_all h.2⟩
theorem midMem {α : Type} {A r d : List α} {x p : α} (h : p ∈ A ++ (r ++ (x :: d))) : p = x ∨ p ∈ A ++ (r ++ d) := by
  simp only [List.mem_append, List.mem_cons] at h ⊢
  rcases h with h | h | h | h
  · exact .inr (.inl h)
  · exact .inr (.inr (.inl h))
  · exact .inl h
  · exact .inr (.inr (.inr h))
theorem adds_of {a : Adr} {k : Kon} {c : Con} {σ : W} {rest : List (Addr × Obj)} {t : Addr} {o : Obj} (h : ∀ p ∈ Led a k c σ rest, ¬ @Eq Nat p.1 t) : Adds a rest [(t, o)] := by
  obtain ⟨q1, h⟩ := List.forall_mem_cons.mp h
  obtain ⟨q2, h⟩ := List.forall_mem_cons.mp h
  obtain ⟨q3, h⟩ := List.forall_mem_cons.mp h
  obtain ⟨q4, h⟩ := List.forall_mem_cons.mp h
  obtain ⟨q5, h⟩ := List.forall_mem_cons.mp h
  obtain ⟨q6, h⟩ := List.forall_mem_cons.mp h
  obtain ⟨q7, h⟩ := List.forall_mem_cons.mp h
  obtain ⟨q8, h⟩ := List.forall_mem_cons.mp h
  have one : ∀ {b : Addr}, (¬ @Eq Nat b t) → ∀ p ∈ [(t, o)], p.1 ≠ b := fun hb p hp => by
    rw [List.mem_singleton.mp hp]; exact fun e => hb e.symm
  exact ⟨⟨one q1, one q2, one q3, one q4, one q5, one q6, one q7, one q8⟩, fun p hp q hq => by rw [List.mem_singleton.mp hp]; exact fun e => h q hq e.symm⟩
theorem addsSub {a : Adr} {rest rest' add : List (Addr × Obj)} (h : Adds a rest add) (hs : ∀ p ∈ rest', p ∈ rest) : Adds a rest' add := ⟨h.off, fun p hp q hq => h.new p hp q (hs q hq)⟩
theorem ledMid {a : Adr} {k : Kon} {c : Con} {σ : W} {rest d : List (Addr × Obj)} {y x p : Addr × Obj} (h : p ∈ Led a k c σ (y :: (rest ++ (x :: d)))) : p = x ∨ p ∈ Led a k c σ (y :: (rest ++ d)) := by
  have e1 : Led a k c σ (y :: (rest ++ (x :: d))) = Led a k c σ [y] ++ (rest ++ (x :: d)) := rfl
  have e2 : Led a k c σ (y :: (rest ++ d)) = Led a k c σ [y] ++ (rest ++ d) := rfl
  rw [e1] at h
  rw [e2]
  exact midMem h
theorem ledRest {a : Adr} {k : Kon} {c : Con} {σ : W} {rest : List (Addr × Obj)} {p : Addr × Obj} (h : p ∈ rest) : p ∈ Led a k c σ rest := by
  have e1 : Led a k c σ rest = Led a k c σ [] ++ rest := rfl
  rw [e1]; exact List.mem_append.mpr (.inr h)
end Mine
namespace Mine
theorem subMid4 {a : Adr} {k : Kon} {c : Con} {σ : W} {rest d : List (Addr × Obj)} {u1 u2 u3 u4 y x : Addr × Obj} : ∀ p ∈ u1 :: u2 :: u3 :: u4 :: Led a k c σ (y :: (rest ++ (x :: d))), p ∈ x :: u1 :: u2 :: u3 :: u4 :: Led a k c σ (y :: (rest ++ d)) := by
  intro p hp
  rcases List.mem_cons.mp hp with h | hp
  · rw [h]; exact List.Mem.tail _ (List.Mem.head _)
  rcases List.mem_cons.mp hp with h | hp
  · rw [h]; exact List.Mem.tail _ (List.Mem.tail _ (List.Mem.head _))
  rcases List.mem_cons.mp hp with h | hp
  · rw [h]; exact List.Mem.tail _ (List.Mem.tail _ (List.Mem.tail _ (List.Mem.head _)))
  rcases List.mem_cons.mp hp with h | hp
  · rw [h]; exact List.Mem.tail _ (List.Mem.tail _ (List.Mem.tail _ (List.Mem.tail _ (List.Mem.head _))))
  rcases ledMid hp with h | h
  · rw [h]; exact List.Mem.head _
  · exact List.Mem.tail _ (List.Mem.tail _ (List.Mem.tail _ (List.Mem.tail _ (List.Mem.tail _ h))))
end Mine
namespace Mine
section
variable {prog : Program} {w : World} {A : Around} {E : Value → Shared → Prop} {s : Shared} {h₀ : Heap} {L l : Addr} {m : Str → Option Value} {news : List (Addr × Obj)} {value slice : PySem.Expr} {vs : List Value} {n : Nat} {x y : Int} {t u : Tok} {Q : Value → Shared → Prop}
theorem slice_lst (F : Fr h₀ L s.heap m) (N : News h₀ L s.heap news) (hm : (l, listOf vs.toArray n) ∈ news) (h0 : 0 ≤ x) (h2 : 0 ≤ y) (hx : x ≤ vs.length) (hy : y ≤ vs.length) (hz : vs.length ≤ 100000)
    (h : ∀ D h', Fr h₀ L h' m → News h₀ L h' ((D, listOf ((vs.drop x.toNat).take (y.toNat - x.toNat)).toArray 0) :: news) → (∀ p ∈ news, p.1 < D) → Q (.ref D) { s with heap := h' })
    (hs : subscripted slice false (.ref l) (.ref s.heap.objs.size) = operate [.ref s.heap.objs.size, .ref l] (getItem (.ref l) (.ref s.heap.objs.size))) (ht : ∀ r, letTemporaryGo value (.ref l) r = pure ()) :
    wpAny (model prog w) A (subscriptTail value slice (.ref l) (.ref s.heap.objs.size)) Q E { s with heap := s.heap.push { cls := .type "slice", data := .fields #[.int x t, .int y u, .none] } } := by
  refine kmk_slice F N ⟨_, (N _ hm).1, rfl, n, rfl⟩ (.int x t) (.int y u) (fun D h' F' N' l1 => h D h' F' ?_ l1) hs ht (by rw [List.size_toArray, sizeLine_eq]; omega)
  have e : sliceBounds (some x) (some y) none vs.toArray.size = (((x.toNat : Nat) : Int), ((y.toNat : Nat) : Int), 1) := by
    simp only [sliceBounds, Option.getD_none, show (1 : Int) > 0 by decide, if_true, if_neg (show ¬ (x < 0) by omega), if_neg (show ¬ (y < 0) by omega), List.size_toArray]
    congr 1
    · exact clampN h0 hx
    · congr 1
      exact clampN h2 hy
  rw [kmk_pick_nat _ e] at N'
  exact N'
theorem copy_lst (F : Fr h₀ L s.heap m) (N : News h₀ L s.heap news) (hm : (l, listOf vs.toArray n) ∈ news) (hz : vs.length ≤ 100000)
    (h : ∀ D c h', Fr h₀ L h' m → News h₀ L h' ((D, listOf vs.toArray c) :: news) → (∀ q ∈ news, q.1 < D) → Q (.ref D) { s with heap := h' }) : wpAny (model prog w) A (call (.type "list") [.ref l]) Q E s :=
  list_copyK F N ⟨_, (N _ hm).1, rfl, n, rfl⟩ h (by rw [List.size_toArray, sizeLine_eq]; omega)
end
theorem ledSwap2 {a : Adr} {k : Kon} {c : Con} {σ : W} {rest : List (Addr × Obj)} {x y : Addr × Obj} : ∀ p ∈ Led a k c σ (x :: y :: rest), p ∈ x :: y :: Led a k c σ rest := by
  intro p hp
  rcases List.mem_cons.mp (ledSwap p hp) with h | h
  · rw [h]; exact List.Mem.head _
  · exact List.Mem.tail _ (ledSwap p h)
end Mine
namespace Mine
theorem dDrop {L9 : List (Addr × Obj)} {vs : List Value} {ds : List Dat} (h : DatAll L9 vs ds) : ∀ n, DatAll L9 (vs.drop n) (ds.drop n) := by
  induction vs generalizing ds with
  | nil => intro n; cases h; simpa using DatAll.nil
  | cons v vs ih =>
    intro n
    cases h with
    | cons h r =>
      cases n with
      | zero => exact .cons h r
      | succ n => exact ih r n
theorem seenSub {a : Adr} {k : Kon} {c : Con} {σ : W} {rest add : List (Addr × Obj)} {x y z : Addr × Obj} : ∀ p ∈ Led a k c σ ((x :: (add ++ [y, z])) ++ rest), p ∈ x :: Led a k c σ (add ++ y :: z :: rest) := by
  intro p hp
  have e : (x :: (add ++ [y, z])) ++ rest = x :: (add ++ y :: z :: rest) := by simp
  rw [e] at hp
  exact ledSwap p hp
theorem seenAdds {a : Adr} {rest add : List (Addr × Obj)} {x y z : Addr × Obj} (h1 : Adds a rest [z]) (h2 : Adds a (z :: rest) [y]) (h3 : Adds a (y :: z :: rest) add) (h4 : Adds a (add ++ y :: z :: rest) [x]) : Adds a rest (x :: (add ++ [y, z])) := by
  have q := addsTrans (addsTrans h1 h2) h3
  refine addsTrans q (addsSub h4 fun p hp => ?_)
  simpa using hp
theorem seenImm {add imm : List (Addr × Obj)} {x y z : Addr × Obj} : (∀ p ∈ imm, p ∈ (x :: (add ++ [y, z])) ++ imm) ∧ (∀ p ∈ add ++ imm, p ∈ (x :: (add ++ [y, z])) ++ imm) ∧ y ∈ (x :: (add ++ [y, z])) ++ imm ∧ z ∈ (x :: (add ++ [y, z])) ++ imm := by
  refine ⟨fun p hp => ?_, fun p hp => ?_, ?_, ?_⟩
  · simp [hp]
  · rcases List.mem_append.mp hp with h | h <;> simp [h]
  · simp
  · simp
end Mine
namespace Mine
/-- the newest choice point becomes n -/
def SetB (σ : W) (n : Int) (σ' : W) : Prop := (n < 0 ∧ σ' = { σ with b := n, hb := 0, bb := 0 }) ∨ (0 ≤ n ∧ ∃ cnt hl, At σ.sk n (.int cnt) ∧ At σ.sk (n + cnt + 6) (.int hl) ∧ σ' = { σ with b := n, hb := hl, bb := n })
def CutTo (σ : W) (n : Int) (σ' : W) : Prop := (σ.b ≤ n ∧ σ' = σ) ∨ (n < σ.b ∧ SetB σ n σ')
theorem ledDrop {a : Adr} {k : Kon} {c : Con} {σ : W} {rest : List (Addr × Obj)} {x : Addr × Obj} : ∀ p ∈ Led a k c σ rest, p ∈ Led a k c σ (x :: rest) := by
  intro p hp
  have e1 : Led a k c σ rest = Led a k c σ [] ++ rest := rfl
  have e2 : Led a k c σ (x :: rest) = Led a k c σ [] ++ x :: rest := rfl
  rw [e1] at hp
  rw [e2]
  rcases List.mem_append.mp hp with h | h
  · exact List.mem_append.mpr (.inl h)
  · exact List.mem_append.mpr (.inr (List.Mem.tail _ h))
abbrev tryW (σ : W) (n lab cnt : Nat) (alt labl : Int) : W := σ
/-- the segment of a choice point -/
abbrev chSeg (σ : W) (ds : List Dat) (alt : Int) : List Dat := .int (ds.length : Int) :: (ds ++ [.int σ.e, .int σ.cp, .int σ.b, .int alt, .int (σ.tr.length : Int), .int (σ.hp.length : Int), .int σ.b0])
end Mine
namespace Mine
theorem memOf {α : Type} {a : α} {l : List α} (h : a ∈ l) : List.Mem a l := h
end Mine
namespace Mine
theorem kw0_Base3 : True := by
  k_with_none
  w_top off
  trivial
theorem fillB3 : PySem.Challenge.rw_sa0158_01 = PySem.Challenge.rw_sa0158_01 ∧ hd.heap_39 = hd.heap_39 := by k_fill; exact ⟨rfl, rfl⟩
section
variable {prog : Program} {w : World} {A : Around} {E : Value → Shared → Prop} {s : Shared} {h₀ : Heap} {L : Addr} {m : Str → Option Value} {a : Adr} {k : Kon} {c : Con} {σ : W} {imm rest : List (Addr × Obj)} {Q : Unit → Shared → Prop} {v : Int} {t : Tok}
theorem kw_Base3_0 : True := by
  k_with_none
  k_with "k_upd" => first | exact upd_sk (by assumption) (by assumption) | exact upd_hp (by assumption) (by assumption) | exact upd_tr (by assumption) (by assumption) | exact upd_xs (by assumption) (by assumption) | exact upd_dm (by assumption) (by assumption) | exact upd_ds (by assumption) (by assumption) | exact upd_pt (by assumption) (by assumption) (by assumption) (by assumption) | exact upd_nu (by assumption) (by assumption) (by assumption) (by assumption) | exact upd_kl (by assumption) (by assumption) (by assumption) (by assumption) (by assumption)
  k_with "k_ne" => (refine neN ?_; (try dsimp only); first | exact Nat.ne_of_gt (by with_reducible assumption) | exact Nat.ne_of_lt (by with_reducible assumption) | exact Nat.ne_of_gt (And.left (by with_reducible assumption)) | exact Nat.ne_of_gt (cj1 (by with_reducible assumption)) | exact Nat.ne_of_gt (cj2 (by with_reducible assumption)) | exact Nat.ne_of_gt (cj3 (by with_reducible assumption)) | exact Nat.ne_of_gt (cj4 (by with_reducible assumption)) | exact Nat.ne_of_gt (cj5 (by with_reducible assumption)) | exact Nat.ne_of_gt (cj6 (by with_reducible assumption)) | exact Nat.ne_of_gt (cj7 (by with_reducible assumption)) | exact Nat.ne_of_gt (cj8 (by with_reducible assumption)) | exact Nat.ne_of_gt (cj9 (by with_reducible assumption)) | exact Nat.ne_of_gt (cj10 (by with_reducible assumption)) | exact Nat.ne_of_gt (cj11 (by with_reducible assumption)) | exact Nat.ne_of_gt (cj12 (by with_reducible assumption)) | exact Nat.ne_of_gt (ce1 (by with_reducible assumption)) | exact Nat.ne_of_gt (ce2 (by with_reducible assumption)) | exact Nat.ne_of_gt (ce3 (by with_reducible assumption)) | exact Nat.ne_of_gt (ce4 (by with_reducible assumption)) | exact Nat.ne_of_gt (ce5 (by with_reducible assumption)) | exact Nat.ne_of_gt (ce6 (by with_reducible assumption)) | exact Nat.ne_of_gt (ce7 (by with_reducible assumption)) | exact Nat.ne_of_gt (ce8 (by with_reducible assumption)) | exact Nat.ne_of_gt (ce9 (by with_reducible assumption)) | exact Nat.ne_of_gt (ce10 (by with_reducible assumption)) | exact Nat.ne_of_gt (ce11 (by with_reducible assumption)) | exact Nat.ne_of_gt (ce12 (by with_reducible assumption)) | exact Nat.ne_of_lt (And.left (by with_reducible assumption)) | exact Nat.ne_of_lt (cj1 (by with_reducible assumption)) | exact Nat.ne_of_lt (cj2 (by with_reducible assumption)) | exact Nat.ne_of_lt (cj3 (by with_reducible assumption)) | exact Nat.ne_of_lt (cj4 (by with_reducible assumption)) | exact Nat.ne_of_lt (cj5 (by with_reducible assumption)) | exact Nat.ne_of_lt (cj6 (by with_reducible assumption)) | exact Nat.ne_of_lt (cj7 (by with_reducible assumption)) | exact Nat.ne_of_lt (cj8 (by with_reducible assumption)) | exact Nat.ne_of_lt (cj9 (by with_reducible assumption)) | exact Nat.ne_of_lt (cj10 (by with_reducible assumption)) | exact Nat.ne_of_lt (cj11 (by with_reducible assumption)) | exact Nat.ne_of_lt (cj12 (by with_reducible assumption)) | exact Nat.ne_of_lt (ce1 (by with_reducible assumption)) | exact Nat.ne_of_lt (ce2 (by with_reducible assumption)) | exact Nat.ne_of_lt (ce3 (by with_reducible assumption)) | exact Nat.ne_of_lt (ce4 (by with_reducible assumption)) | exact Nat.ne_of_lt (ce5 (by with_reducible assumption)) | exact Nat.ne_of_lt (ce6 (by with_reducible assumption)) | exact Nat.ne_of_lt (ce7 (by with_reducible assumption)) | exact Nat.ne_of_lt (ce8 (by with_reducible assumption)) | exact Nat.ne_of_lt (ce9 (by with_reducible assumption)) | exact Nat.ne_of_lt (ce10 (by with_reducible assumption)) | exact Nat.ne_of_lt (ce11 (by with_reducible assumption)) | exact Nat.ne_of_lt (ce12 (by with_reducible assumption)))
  k_with "k_all" => first | exact Off.m (by assumption) | exact Off.dm (by assumption) | exact Off.st (by assumption) | exact Off.ds (by assumption) | exact Off.hp (by assumption) | exact Off.sk (by assumption) | exact Off.tr (by assumption) | exact Off.xs (by assumption)
  k_with "call builtin:len" => (k_here; (with_reducible show wpAny _ _ (call (Value.builtin "len") [Value.ref _]) _ _ _); k_dflt (refine' len_lst (by k_asm) (by k_mem) (by first | omega | (dsimp only; omega)) ?_; k_whole); intro t' tk')
  k_with "subscriptTail" => (k_here; (with_reducible show wpAny _ _ (subscriptTail _ _ (Value.ref _) (Value.int _ _)) _ _ _); k_dflt (refine' item_lst (by k_asm) (by k_mem) (by first | assumption | exact Rel.s (by assumption) | exact Rel.h (by assumption) | exact Rel.x (by assumption)) (by first | assumption | exact At.cast (by assumption) (by omega)) (by first | omega | (dsimp only; omega)) ?_ (by with_unfolding_all rfl); k_whole); intro v' hv')
  k_with "subscriptTail" => (k_here; (with_reducible show wpAny _ _ (subscriptTail _ _ (Value.ref _) (Value.int _ _)) _ _ _); k_dflt (refine' itemI_lst (by k_asm) (by k_mem) (by first | assumption | exact Rel.s (by assumption) | exact Rel.h (by assumption) | exact Rel.x (by assumption)) (by first | assumption | exact At.cast (by assumption) (by omega)) (by first | omega | (dsimp only; omega)) ?_ (by with_unfolding_all rfl); k_whole); intro t')
  k_with "setItem ref" => (k_here; (with_reducible show wpAny _ _ (setItem (Value.ref _) (Value.int _ _) _) _ _ _); k_dflt (refine' set_lst (by k_asm) (by k_asm) (by k_upd) (by omega) (by omega) (by first | omega | (dsimp only; omega)) ?_; k_whole); intro h' F' N'; (try k_sweep))
  k_with "call builtin:list.append" => (k_here; (with_reducible show wpAny _ _ (call (Value.builtin _) [Value.ref _, _]) _ _ _); k_dflt (refine' append_lst (by k_asm) (by k_asm) (by k_upd) (by first | omega | (dsimp only; omega)) ?_; k_whole); intro h' F' N'; (try k_sweep))
  k_with "WhlIf" => first | refine WhlIf.yes (decide_eq_true (by omega)) ?_ | refine WhlIf.no (decide_eq_false (by omega)) ?_
  k_with "exec While Compare cons nil" => ((with_reducible rename MarkW => mk'); clear mk'; refine Stop.by ?_)
  k_with "exec For Name Name cons nil" => ((with_reducible rename MarkF => mk'); (rename Fr _ _ _ _ => lF'); (with_unfolding_all refine' For_invVF lF' (by exact rfl) (by exact rfl) ?_; k_whole))
  k_with "exec For Name Call cons nil" => ((with_reducible rename MarkF => mk'); (rename Fr _ _ _ _ => lF'); (with_unfolding_all refine' For_invVF lF' (by exact rfl) (by exact rfl) ?_; k_whole))
  k_with "pyIter ref" => ((with_reducible rename MarkF => mk'); clear mk'; refine Stop.by ?_)
  k_with "exec While Constant" => (k_here; k_dflt (refine whl_start 100 ?_))
  k_with "compareOp Eq" => (k_here; k_dflt (refine' eq_datB (by assumption) (by assumption) (by exact mem9s (by k_asm) (by repeat (first | assumption | refine immTail ?_)) (by k_asm) (by k_asm)) (by first | rfl | assumption) (by first | rfl | assumption) (by ktr_units) ?_; k_whole))
  k_with "subscriptTail" => (k_here; (with_reducible show wpAny _ _ (subscriptTail _ _ (Value.ref _) (Value.int _ _)) _ _ _); k_dflt (refine' tup9B (by assumption) (by exact mem9s (by k_asm) (by repeat (first | assumption | refine immTail ?_)) (by k_asm) (by k_asm)) (by decide) (by decide) (by rfl) (by rfl) ?_ (by with_unfolding_all rfl); k_whole))
  k_with "call builtin:list.pop" => (k_here; (with_reducible show wpAny _ _ (call (Value.builtin _) [Value.ref _]) _ _ _); k_dflt (refine' pop_lst (by k_asm) (by k_asm) (by k_upd) (by first | omega | (dsimp only; omega)) ?_; k_whole); intro h' F' N'; (try k_sweep))
  k_with "UnrEnd" => (refine unrLed (by k_asm) (by k_asm) (by assumption) ?_)
  k_with "k_mem" => first | with_reducible assumption | (refine memOf ?_; with_reducible assumption)
  k_with "k_all" => assumption
  trivial
theorem set_e (F : Fr h₀ L s.heap m) (X : (hd.heap_39 w.params).In h₀) (N : News h₀ L s.heap (Led a k c σ rest)) (R : Rel k imm c σ) (hO : Off a rest) (hA : Ord a)
    (h : ∀ h' c', Fr h₀ L h' m → News h₀ L h' (Led a k c' { σ with e := v } rest) → Rel k imm c' { σ with e := v } → Q () { s with heap := h', toks := s.toks + 2 }) :
    wpAny (model prog w) A (setAttr (.ref a.m) (Str.ofString "e") (.int v t)) Q E s := by
  obtain ⟨o1, o2, o3, o4, o5, o6, o7⟩ := id hA
  k_dflt (refine' set_dict ?k1 ?k2 ?k3 ?k4 ?k5 ?k6 ?k7 ?k8 ?k9 ?k10 ?k11 ?k12 ?k13 ?_; (case k1 => k_asm); (case k2 => k_asm); (case k3 => k_asm); (case k4 => k_inst); (case k5 => exact rfl); (case k6 => k_is); (case k7 => k_is); (case k8 => k_is); (case k9 => k_is); (case k10 => k_get); (case k11 => k_put); (case k12 => k_upd); (case k13 => exact Nat.le_of_ble_eq_true rfl); k_whole; intro h' F' N')
  exact h _ { c with te := t } (by assumption) (by assumption) ⟨R.h, R.s, R.t, R.x, R.c⟩
theorem set_cp (F : Fr h₀ L s.heap m) (X : (hd.heap_39 w.params).In h₀) (N : News h₀ L s.heap (Led a k c σ rest)) (R : Rel k imm c σ) (hO : Off a rest) (hA : Ord a)
    (h : ∀ h' c', Fr h₀ L h' m → News h₀ L h' (Led a k c' { σ with cp := v } rest) → Rel k imm c' { σ with cp := v } → Q () { s with heap := h', toks := s.toks + 2 }) :
    wpAny (model prog w) A (setAttr (.ref a.m) (Str.ofString "cp") (.int v t)) Q E s := by
  obtain ⟨o1, o2, o3, o4, o5, o6, o7⟩ := id hA
  k_dflt (refine' set_dict ?k1 ?k2 ?k3 ?k4 ?k5 ?k6 ?k7 ?k8 ?k9 ?k10 ?k11 ?k12 ?k13 ?_; (case k1 => k_asm); (case k2 => k_asm); (case k3 => k_asm); (case k4 => k_inst); (case k5 => exact rfl); (case k6 => k_is); (case k7 => k_is); (case k8 => k_is); (case k9 => k_is); (case k10 => k_get); (case k11 => k_put); (case k12 => k_upd); (case k13 => exact Nat.le_of_ble_eq_true rfl); k_whole; intro h' F' N')
  exact h _ { c with tcp := t } (by assumption) (by assumption) ⟨R.h, R.s, R.t, R.x, R.c⟩
theorem set_p (F : Fr h₀ L s.heap m) (X : (hd.heap_39 w.params).In h₀) (N : News h₀ L s.heap (Led a k c σ rest)) (R : Rel k imm c σ) (hO : Off a rest) (hA : Ord a)
    (h : ∀ h' c', Fr h₀ L h' m → News h₀ L h' (Led a k c' { σ with p := v } rest) → Rel k imm c' { σ with p := v } → Q () { s with heap := h', toks := s.toks + 2 }) :
    wpAny (model prog w) A (setAttr (.ref a.m) (Str.ofString "p") (.int v t)) Q E s := by
  obtain ⟨o1, o2, o3, o4, o5, o6, o7⟩ := id hA
  k_dflt (refine' set_dict ?k1 ?k2 ?k3 ?k4 ?k5 ?k6 ?k7 ?k8 ?k9 ?k10 ?k11 ?k12 ?k13 ?_; (case k1 => k_asm); (case k2 => k_asm); (case k3 => k_asm); (case k4 => k_inst); (case k5 => exact rfl); (case k6 => k_is); (case k7 => k_is); (case k8 => k_is); (case k9 => k_is); (case k10 => k_get); (case k11 => k_put); (case k12 => k_upd); (case k13 => exact Nat.le_of_ble_eq_true rfl); k_whole; intro h' F' N')
  exact h _ { c with tp := t } (by assumption) (by assumption) ⟨R.h, R.s, R.t, R.x, R.c⟩
theorem set_b0 (F : Fr h₀ L s.heap m) (X : (hd.heap_39 w.params).In h₀) (N : News h₀ L s.heap (Led a k c σ rest)) (R : Rel k imm c σ) (hO : Off a rest) (hA : Ord a)
    (h : ∀ h' c', Fr h₀ L h' m → News h₀ L h' (Led a k c' { σ with b0 := v } rest) → Rel k imm c' { σ with b0 := v } → Q () { s with heap := h', toks := s.toks + 2 }) :
    wpAny (model prog w) A (setAttr (.ref a.m) (Str.ofString "b0") (.int v t)) Q E s := by
  obtain ⟨o1, o2, o3, o4, o5, o6, o7⟩ := id hA
  k_dflt (refine' set_dict ?k1 ?k2 ?k3 ?k4 ?k5 ?k6 ?k7 ?k8 ?k9 ?k10 ?k11 ?k12 ?k13 ?_; (case k1 => k_asm); (case k2 => k_asm); (case k3 => k_asm); (case k4 => k_inst); (case k5 => exact rfl); (case k6 => k_is); (case k7 => k_is); (case k8 => k_is); (case k9 => k_is); (case k10 => k_get); (case k11 => k_put); (case k12 => k_upd); (case k13 => exact Nat.le_of_ble_eq_true rfl); k_whole; intro h' F' N')
  exact h _ { c with tb0 := t } (by assumption) (by assumption) ⟨R.h, R.s, R.t, R.x, R.c⟩
end
end Mine
namespace Mine
theorem kw0_Base4 : True := by
  k_with_none
  w_top off
  trivial
abbrev restW (σ : W) (ds : List Dat) (e' cp' mk hl : Int) : W := { σ with x := segS σ.x 1 ds, e := e', cp := cp', tr := σ.tr.take mk.toNat, hp := (undo σ.hp (σ.tr.drop mk.toNat)).take hl.toNat }
theorem smRest {σ : W} {ds : List Dat} {e' cp' mk hl : Int} (h : Sm σ) (h1 : ds.length ≤ 5) : Sm (restW σ ds e' cp' mk hl) :=
  ⟨by have := h.h; have q : ((undo σ.hp (σ.tr.drop mk.toNat)).take hl.toNat).length ≤ (undo σ.hp (σ.tr.drop mk.toNat)).length := List.length_take_le' ..
      rw [undo_length] at q; exact Nat.le_trans q this, h.s, Nat.le_trans (List.length_take_le' ..) h.t, (smX h h1).x⟩
/-- what a choice point must hold that one goes back to it -/
structure Back (σ : W) (ds : List Dat) (e' cp' mk hl : Int) : Prop where
  hc : At σ.sk σ.b (.int (ds.length : Int))
  hr : ∀ (i : Nat) d, ds[i]? = some d → At σ.sk (σ.b + (1 + (i : Int))) d
  h3 : ds.length ≤ 3
  g1 : At σ.sk (σ.b + (ds.length : Int) + 1) (.int e')
  g2 : At σ.sk (σ.b + (ds.length : Int) + 2) (.int cp')
  g5 : At σ.sk (σ.b + (ds.length : Int) + 5) (.int mk)
  g6 : At σ.sk (σ.b + (ds.length : Int) + 6) (.int hl)
  m0 : 0 ≤ mk
  m1 : mk ≤ σ.tr.length
  m2 : ∀ x ∈ σ.tr, 0 ≤ x ∧ x < σ.hp.length
  l0 : 0 ≤ hl
  l1 : hl ≤ σ.hp.length
theorem memApp {x : Addr × Obj} {add rest : List (Addr × Obj)} (h : x ∈ rest) : x ∈ add ++ rest := List.mem_append.mpr (.inr h)
end Mine
namespace Mine
structure PotC where
  i : Int
  ti : Tok
  n1 : Nat
  nv : List Value
  n2 : Nat
abbrev potL (pt nu : Addr) (q : PotC) (rest : List (Addr × Obj)) : List (Addr × Obj) := (pt, listOf [Value.int q.i q.ti, Value.ref nu].toArray q.n1) :: (nu, listOf q.nv.toArray q.n2) :: rest
def PotOk (q : PotC) : Prop := ∃ ns : List Int, DatAll [] q.nv (ns.map Dat.int) ∧ 0 < ns.length ∧ ns.length ≤ 100
structure PotA (a : Adr) (pt nu : Addr) (rest : List (Addr × Obj)) : Prop where
  p1 : @LT.lt Nat _ nu pt
  p2 : @LT.lt Nat _ pt a.dm
  p3 : ∀ p ∈ rest, p.1 ≠ pt
  p4 : ∀ p ∈ rest, p.1 ≠ nu
theorem offPot {a : Adr} {pt nu : Addr} {q : PotC} {rest : List (Addr × Obj)} (h : PotA a pt nu rest) (hA : Ord a) (hO : Off a rest) : Off a (potL pt nu q rest) :=
  offLow hA (offLow hA hO (Nat.lt_trans h.p1 h.p2)) h.p2
theorem immPot {imm rest : List (Addr × Obj)} {pt nu : Addr} {q : PotC} (h : ∀ p ∈ imm, p ∈ rest) : ∀ p ∈ imm, p ∈ potL pt nu q rest := immTail (immTail h)
section
variable {a : Adr} {pt nu : Addr} {rest : List (Addr × Obj)} {x1 x2 x3 x4 x5 x6 x7 x8 y1 y2 o' : Obj}
theorem upd_pt (hA : Ord a) (h1 : @LT.lt Nat _ nu pt) (h2 : @LT.lt Nat _ pt a.dm) (h : ∀ p ∈ rest, p.1 ≠ pt) : Upd pt y1 o' ((a.m, x1) :: (a.dm, x2) :: (a.st, x3) :: (a.ds, x4) :: (a.hp, x5) :: (a.sk, x6) :: (a.tr, x7) :: (a.xs, x8) :: (pt, y1) :: (nu, y2) :: rest) ((a.m, x1) :: (a.dm, x2) :: (a.st, x3) :: (a.ds, x4) :: (a.hp, x5) :: (a.sk, x6) :: (a.tr, x7) :: (a.xs, x8) :: (pt, o') :: (nu, y2) :: rest) :=
  Upd.tail (Nat.ne_of_gt (Nat.lt_trans h2 hA.o1)) (Upd.tail (Nat.ne_of_gt h2) (Upd.tail (Nat.ne_of_gt (Nat.lt_trans h2 (Nat.lt_trans hA.o1 (Nat.lt_trans hA.o2 hA.o3)))) (Upd.tail (Nat.ne_of_gt (Nat.lt_trans h2 (Nat.lt_trans hA.o1 hA.o2))) (Upd.tail (Nat.ne_of_gt (Nat.lt_trans h2 (Nat.lt_trans hA.o1 (Nat.lt_trans hA.o2 (Nat.lt_trans hA.o3 hA.o4))))) (Upd.tail (Nat.ne_of_gt (Nat.lt_trans h2 (Nat.lt_trans hA.o1 (Nat.lt_trans hA.o2 (Nat.lt_trans hA.o3 (Nat.lt_trans hA.o4 hA.o5)))))) (Upd.tail (Nat.ne_of_gt (Nat.lt_trans h2 (Nat.lt_trans hA.o1 (Nat.lt_trans hA.o2 (Nat.lt_trans hA.o3 (Nat.lt_trans hA.o4 (Nat.lt_trans hA.o5 hA.o6))))))) (Upd.tail (Nat.ne_of_gt (Nat.lt_trans h2 (Nat.lt_trans hA.o1 (Nat.lt_trans hA.o2 (Nat.lt_trans hA.o3 (Nat.lt_trans hA.o4 (Nat.lt_trans hA.o5 (Nat.lt_trans hA.o6 hA.o7)))))))) (Upd.head (List.forall_mem_cons.mpr ⟨(Nat.ne_of_lt h1), h⟩)))))))))
theorem upd_nu (hA : Ord a) (h1 : @LT.lt Nat _ nu pt) (h2 : @LT.lt Nat _ pt a.dm) (h : ∀ p ∈ rest, p.1 ≠ nu) : Upd nu y2 o' ((a.m, x1) :: (a.dm, x2) :: (a.st, x3) :: (a.ds, x4) :: (a.hp, x5) :: (a.sk, x6) :: (a.tr, x7) :: (a.xs, x8) :: (pt, y1) :: (nu, y2) :: rest) ((a.m, x1) :: (a.dm, x2) :: (a.st, x3) :: (a.ds, x4) :: (a.hp, x5) :: (a.sk, x6) :: (a.tr, x7) :: (a.xs, x8) :: (pt, y1) :: (nu, o') :: rest) :=
  Upd.tail (Nat.ne_of_gt (Nat.lt_trans h1 (Nat.lt_trans h2 hA.o1))) (Upd.tail (Nat.ne_of_gt (Nat.lt_trans h1 h2)) (Upd.tail (Nat.ne_of_gt (Nat.lt_trans h1 (Nat.lt_trans h2 (Nat.lt_trans hA.o1 (Nat.lt_trans hA.o2 hA.o3))))) (Upd.tail (Nat.ne_of_gt (Nat.lt_trans h1 (Nat.lt_trans h2 (Nat.lt_trans hA.o1 hA.o2)))) (Upd.tail (Nat.ne_of_gt (Nat.lt_trans h1 (Nat.lt_trans h2 (Nat.lt_trans hA.o1 (Nat.lt_trans hA.o2 (Nat.lt_trans hA.o3 hA.o4)))))) (Upd.tail (Nat.ne_of_gt (Nat.lt_trans h1 (Nat.lt_trans h2 (Nat.lt_trans hA.o1 (Nat.lt_trans hA.o2 (Nat.lt_trans hA.o3 (Nat.lt_trans hA.o4 hA.o5))))))) (Upd.tail (Nat.ne_of_gt (Nat.lt_trans h1 (Nat.lt_trans h2 (Nat.lt_trans hA.o1 (Nat.lt_trans hA.o2 (Nat.lt_trans hA.o3 (Nat.lt_trans hA.o4 (Nat.lt_trans hA.o5 hA.o6)))))))) (Upd.tail (Nat.ne_of_gt (Nat.lt_trans h1 (Nat.lt_trans h2 (Nat.lt_trans hA.o1 (Nat.lt_trans hA.o2 (Nat.lt_trans hA.o3 (Nat.lt_trans hA.o4 (Nat.lt_trans hA.o5 (Nat.lt_trans hA.o6 hA.o7))))))))) (Upd.tail (Nat.ne_of_gt h1) (Upd.head h)))))))))
theorem upd_en {kl en : Addr} {y3 y4 : Obj} (hA : Ord a) (h1 : @LT.lt Nat _ nu pt) (h2 : @LT.lt Nat _ pt a.dm) (h3 : @LT.lt Nat _ a.xs kl) (h4 : @LT.lt Nat _ kl en) (h : ∀ p ∈ rest, p.1 ≠ en) : Upd en y4 o' ((a.m, x1) :: (a.dm, x2) :: (a.st, x3) :: (a.ds, x4) :: (a.hp, x5) :: (a.sk, x6) :: (a.tr, x7) :: (a.xs, x8) :: (pt, y1) :: (nu, y2) :: (kl, y3) :: (en, y4) :: rest) ((a.m, x1) :: (a.dm, x2) :: (a.st, x3) :: (a.ds, x4) :: (a.hp, x5) :: (a.sk, x6) :: (a.tr, x7) :: (a.xs, x8) :: (pt, y1) :: (nu, y2) :: (kl, y3) :: (en, o') :: rest) :=
  Upd.tail (Nat.ne_of_lt (Nat.lt_trans hA.o2 (Nat.lt_trans hA.o3 (Nat.lt_trans hA.o4 (Nat.lt_trans hA.o5 (Nat.lt_trans hA.o6 (Nat.lt_trans hA.o7 (Nat.lt_trans h3 h4)))))))) (Upd.tail (Nat.ne_of_lt (Nat.lt_trans hA.o1 (Nat.lt_trans hA.o2 (Nat.lt_trans hA.o3 (Nat.lt_trans hA.o4 (Nat.lt_trans hA.o5 (Nat.lt_trans hA.o6 (Nat.lt_trans hA.o7 (Nat.lt_trans h3 h4))))))))) (Upd.tail (Nat.ne_of_lt (Nat.lt_trans hA.o4 (Nat.lt_trans hA.o5 (Nat.lt_trans hA.o6 (Nat.lt_trans hA.o7 (Nat.lt_trans h3 h4)))))) (Upd.tail (Nat.ne_of_lt (Nat.lt_trans hA.o3 (Nat.lt_trans hA.o4 (Nat.lt_trans hA.o5 (Nat.lt_trans hA.o6 (Nat.lt_trans hA.o7 (Nat.lt_trans h3 h4))))))) (Upd.tail (Nat.ne_of_lt (Nat.lt_trans hA.o5 (Nat.lt_trans hA.o6 (Nat.lt_trans hA.o7 (Nat.lt_trans h3 h4))))) (Upd.tail (Nat.ne_of_lt (Nat.lt_trans hA.o6 (Nat.lt_trans hA.o7 (Nat.lt_trans h3 h4)))) (Upd.tail (Nat.ne_of_lt (Nat.lt_trans hA.o7 (Nat.lt_trans h3 h4))) (Upd.tail (Nat.ne_of_lt (Nat.lt_trans h3 h4)) (Upd.tail (Nat.ne_of_lt (Nat.lt_trans h2 (Nat.lt_trans hA.o1 (Nat.lt_trans hA.o2 (Nat.lt_trans hA.o3 (Nat.lt_trans hA.o4 (Nat.lt_trans hA.o5 (Nat.lt_trans hA.o6 (Nat.lt_trans hA.o7 (Nat.lt_trans h3 h4)))))))))) (Upd.tail (Nat.ne_of_lt (Nat.lt_trans h1 (Nat.lt_trans h2 (Nat.lt_trans hA.o1 (Nat.lt_trans hA.o2 (Nat.lt_trans hA.o3 (Nat.lt_trans hA.o4 (Nat.lt_trans hA.o5 (Nat.lt_trans hA.o6 (Nat.lt_trans hA.o7 (Nat.lt_trans h3 h4))))))))))) (Upd.tail (Nat.ne_of_lt h4) (Upd.head h)))))))))))
theorem upd_kl {kl : Addr} {y3 : Obj} (hA : Ord a) (h1 : @LT.lt Nat _ nu pt) (h2 : @LT.lt Nat _ pt a.dm) (h3 : @LT.lt Nat _ a.xs kl) (h : ∀ p ∈ rest, p.1 ≠ kl) : Upd kl y3 o' ((a.m, x1) :: (a.dm, x2) :: (a.st, x3) :: (a.ds, x4) :: (a.hp, x5) :: (a.sk, x6) :: (a.tr, x7) :: (a.xs, x8) :: (pt, y1) :: (nu, y2) :: (kl, y3) :: rest) ((a.m, x1) :: (a.dm, x2) :: (a.st, x3) :: (a.ds, x4) :: (a.hp, x5) :: (a.sk, x6) :: (a.tr, x7) :: (a.xs, x8) :: (pt, y1) :: (nu, y2) :: (kl, o') :: rest) :=
  Upd.tail (Nat.ne_of_lt (Nat.lt_trans hA.o2 (Nat.lt_trans hA.o3 (Nat.lt_trans hA.o4 (Nat.lt_trans hA.o5 (Nat.lt_trans hA.o6 (Nat.lt_trans hA.o7 h3))))))) (Upd.tail (Nat.ne_of_lt (Nat.lt_trans hA.o1 (Nat.lt_trans hA.o2 (Nat.lt_trans hA.o3 (Nat.lt_trans hA.o4 (Nat.lt_trans hA.o5 (Nat.lt_trans hA.o6 (Nat.lt_trans hA.o7 h3)))))))) (Upd.tail (Nat.ne_of_lt (Nat.lt_trans hA.o4 (Nat.lt_trans hA.o5 (Nat.lt_trans hA.o6 (Nat.lt_trans hA.o7 h3))))) (Upd.tail (Nat.ne_of_lt (Nat.lt_trans hA.o3 (Nat.lt_trans hA.o4 (Nat.lt_trans hA.o5 (Nat.lt_trans hA.o6 (Nat.lt_trans hA.o7 h3)))))) (Upd.tail (Nat.ne_of_lt (Nat.lt_trans hA.o5 (Nat.lt_trans hA.o6 (Nat.lt_trans hA.o7 h3)))) (Upd.tail (Nat.ne_of_lt (Nat.lt_trans hA.o6 (Nat.lt_trans hA.o7 h3))) (Upd.tail (Nat.ne_of_lt (Nat.lt_trans hA.o7 h3)) (Upd.tail (Nat.ne_of_lt h3) (Upd.tail (Nat.ne_of_lt (Nat.lt_trans h2 (Nat.lt_trans hA.o1 (Nat.lt_trans hA.o2 (Nat.lt_trans hA.o3 (Nat.lt_trans hA.o4 (Nat.lt_trans hA.o5 (Nat.lt_trans hA.o6 (Nat.lt_trans hA.o7 h3))))))))) (Upd.tail (Nat.ne_of_lt (Nat.lt_trans h1 (Nat.lt_trans h2 (Nat.lt_trans hA.o1 (Nat.lt_trans hA.o2 (Nat.lt_trans hA.o3 (Nat.lt_trans hA.o4 (Nat.lt_trans hA.o5 (Nat.lt_trans hA.o6 (Nat.lt_trans hA.o7 h3)))))))))) (Upd.head h))))))))))
end
end Mine
namespace Mine
theorem kw0_Base5 : True := by
  k_with_none
  w_top off
  trivial
section
variable {a : Adr} {k : Kon} {c : Con} {σ : W} {rest : List (Addr × Obj)} {x : Addr × Obj} {pt nu : Addr} {q : PotC}
/-- a newcomer goes behind the pot -/
theorem potIn : ∀ p ∈ Led a k c σ (potL pt nu q (x :: rest)), p ∈ Led a k c σ (x :: potL pt nu q rest) := by
  intro p hp
  have e1 : Led a k c σ (potL pt nu q (x :: rest)) = Led a k c σ [] ++ potL pt nu q (x :: rest) := rfl
  have e2 : Led a k c σ (x :: potL pt nu q rest) = Led a k c σ [] ++ x :: potL pt nu q rest := rfl
  rw [e1] at hp
  rw [e2]
  rcases List.mem_append.mp hp with h | h
  · exact List.mem_append.mpr (.inl h)
  · refine List.mem_append.mpr (.inr ?_)
    rcases List.mem_cons.mp h with h | h
    · rw [h]; exact List.Mem.tail _ (List.Mem.head _)
    rcases List.mem_cons.mp h with h | h
    · rw [h]; exact List.Mem.tail _ (List.Mem.tail _ (List.Mem.head _))
    rcases List.mem_cons.mp h with h | h
    · rw [h]; exact List.Mem.head _
    · exact List.Mem.tail _ (List.Mem.tail _ (List.Mem.tail _ h))
theorem potIn1 : ∀ p ∈ Led a k c σ (potL pt nu q (x :: rest)), p ∈ x :: Led a k c σ (potL pt nu q rest) := fun p hp => ledSwap p (potIn p hp)
theorem potApp {add : List (Addr × Obj)} : ∀ p ∈ Led a k c σ (potL pt nu q (add ++ rest)), p ∈ Led a k c σ (add ++ potL pt nu q rest) := by
  intro p hp
  have e1 : Led a k c σ (potL pt nu q (add ++ rest)) = Led a k c σ [] ++ potL pt nu q (add ++ rest) := rfl
  have e2 : Led a k c σ (add ++ potL pt nu q rest) = Led a k c σ [] ++ (add ++ potL pt nu q rest) := rfl
  rw [e1] at hp
  rw [e2]
  rcases List.mem_append.mp hp with h | h
  · exact List.mem_append.mpr (.inl h)
  · refine List.mem_append.mpr (.inr ?_)
    rcases List.mem_cons.mp h with h | h
    · rw [h]; exact List.mem_append.mpr (.inr (List.Mem.head _))
    rcases List.mem_cons.mp h with h | h
    · rw [h]; exact List.mem_append.mpr (.inr (List.Mem.tail _ (List.Mem.head _)))
    rcases List.mem_append.mp h with h | h
    · exact List.mem_append.mpr (.inl h)
    · exact List.mem_append.mpr (.inr (List.Mem.tail _ (List.Mem.tail _ h)))
theorem potA_app {add : List (Addr × Obj)} (h : PotA a pt nu rest) (hA : Adds a (potL pt nu q rest) add) : PotA a pt nu (add ++ rest) :=
  ⟨h.p1, h.p2, List.forall_mem_append.mpr ⟨fun p hp => hA.new p hp _ (List.Mem.head _), h.p3⟩, List.forall_mem_append.mpr ⟨fun p hp => hA.new p hp _ (List.Mem.tail _ (List.Mem.head _)), h.p4⟩⟩
theorem addsPot {add : List (Addr × Obj)} (hA : Adds a (potL pt nu q rest) add) : Adds a rest add := addsSub hA fun _ hp => List.Mem.tail _ (List.Mem.tail _ hp)
end
end Mine
namespace Mine
theorem kw0_Base6 : True := by
  k_with_none
  w_top off
  trivial
/-- a row of the law's list of kept choice points -/
structure En where
  ad : Addr
  b : Int
  n : Int
  sn : Addr
  alt : Int
  t1 : Tok
  t2 : Tok
  t4 : Tok
  ep : Nat
abbrev entO (e : En) : Obj := listOf [Value.int e.b e.t1, Value.int e.n e.t2, Value.ref e.sn, Value.int e.alt e.t4].toArray e.ep
abbrev refE (es : List En) : List Value := es.map fun e => Value.ref e.ad
abbrev entsL (es : List En) : List (Addr × Obj) := es.map fun e => (e.ad, entO e)
abbrev keptL (kl : Addr) (kn : Nat) (es : List En) (imm : List (Addr × Obj)) : List (Addr × Obj) := (kl, listOf (refE es).toArray kn) :: (entsL es ++ imm)
/-- where the choice point of level lv stands -/
def bAt (es : List En) : Nat → Int
  | 0 => -1
  | n + 1 => match es[n]? with | some e => e.b | none => -1
/-- the law's objects lie apart -/
structure Sep (a : Adr) (pt nu kl : Addr) (ads : List Addr) (imm : List (Addr × Obj)) : Prop where
  p1 : @LT.lt Nat _ nu pt
  p2 : @LT.lt Nat _ pt a.dm
  p3 : @LT.lt Nat _ a.xs kl
  p4 : ∀ x ∈ ads, @LT.lt Nat _ kl x
  nd : ads.Nodup
  i1 : Off a imm
  i2 : ∀ p ∈ imm, ¬ @Eq Nat p.1 pt
  i3 : ∀ p ∈ imm, ¬ @Eq Nat p.1 nu
  i4 : ∀ p ∈ imm, ¬ @Eq Nat p.1 kl
  i5 : ∀ p ∈ imm, ∀ x ∈ ads, ¬ @Eq Nat p.1 x
section
variable {a : Adr} {pt nu kl : Addr} {es : List En} {imm rest : List (Addr × Obj)} {kn : Nat} {k : Kon} {c : Con} {σ : W} {q : PotC}
theorem entsMem {p : Addr × Obj} (h : p ∈ entsL es) : p.1 ∈ es.map (·.ad) := by
  obtain ⟨e, he, rfl⟩ := List.mem_map.mp h
  exact List.mem_map.mpr ⟨e, he, rfl⟩
theorem sepGt (S : Sep a pt nu kl (es.map (·.ad)) imm) : ∀ p ∈ entsL es, @LT.lt Nat _ kl p.1 := fun p hp => S.p4 _ (entsMem hp)
theorem sepOff (S : Sep a pt nu kl (es.map (·.ad)) imm) (hA : Ord a) : Off a (keptL kl kn es imm) := by
  obtain ⟨o1, o2, o3, o4, o5, o6, o7⟩ := id hA
  have q3 := S.p3
  have one : ∀ {b : Addr}, @LT.lt Nat _ b kl → (∀ p ∈ imm, p.1 ≠ b) → ∀ p ∈ keptL kl kn es imm, p.1 ≠ b := fun hb hi p hp => by
    rcases List.mem_cons.mp hp with h | h
    · rw [h]; exact Nat.ne_of_gt hb
    · rcases List.mem_append.mp h with h | h
      · exact Nat.ne_of_gt (Nat.lt_trans hb (sepGt S p h))
      · exact hi p h
  exact ⟨one (Nat.lt_trans (Nat.lt_trans hA.o2 (Nat.lt_trans hA.o3 (Nat.lt_trans hA.o4 (Nat.lt_trans hA.o5 (Nat.lt_trans hA.o6 hA.o7))))) q3) S.i1.m, one (Nat.lt_trans (Nat.lt_trans hA.o1 (Nat.lt_trans hA.o2 (Nat.lt_trans hA.o3 (Nat.lt_trans hA.o4 (Nat.lt_trans hA.o5 (Nat.lt_trans hA.o6 hA.o7)))))) q3) S.i1.dm, one (Nat.lt_trans (Nat.lt_trans hA.o4 (Nat.lt_trans hA.o5 (Nat.lt_trans hA.o6 hA.o7))) q3) S.i1.st, one (Nat.lt_trans (Nat.lt_trans hA.o3 (Nat.lt_trans hA.o4 (Nat.lt_trans hA.o5 (Nat.lt_trans hA.o6 hA.o7)))) q3) S.i1.ds, one (Nat.lt_trans (Nat.lt_trans hA.o5 (Nat.lt_trans hA.o6 hA.o7)) q3) S.i1.hp, one (Nat.lt_trans (Nat.lt_trans hA.o6 hA.o7) q3) S.i1.sk, one (Nat.lt_trans hA.o7 q3) S.i1.tr, one q3 S.i1.xs⟩
theorem sepPot (S : Sep a pt nu kl (es.map (·.ad)) imm) (hA : Ord a) : PotA a pt nu (keptL kl kn es imm) := by
  have q1 := S.p1
  have q2 : @LT.lt Nat _ pt kl := Nat.lt_trans S.p2 (Nat.lt_trans (dmXs hA) S.p3)
  refine ⟨S.p1, S.p2, ?_, ?_⟩
  · intro p hp
    rcases List.mem_cons.mp hp with h | h
    · rw [h]; exact Nat.ne_of_gt q2
    · rcases List.mem_append.mp h with h | h
      · exact Nat.ne_of_gt (Nat.lt_trans q2 (sepGt S p h))
      · exact S.i2 p h
  · intro p hp
    rcases List.mem_cons.mp hp with h | h
    · rw [h]; exact Nat.ne_of_gt (Nat.lt_trans q1 q2)
    · rcases List.mem_append.mp h with h | h
      · exact Nat.ne_of_gt (Nat.lt_trans q1 (Nat.lt_trans q2 (sepGt S p h)))
      · exact S.i3 p h
theorem immKept (h : ∀ p ∈ imm, p ∈ rest) : ∀ p ∈ imm, p ∈ keptL kl kn es rest := fun p hp => List.Mem.tail _ (List.mem_append.mpr (.inr (h p hp)))
theorem immKept' : ∀ p ∈ imm, p ∈ keptL kl kn es imm := immKept fun _ h => h
theorem entIn {e : En} (h : e ∈ es) : (e.ad, entO e) ∈ entsL es ++ imm := List.mem_append.mpr (.inl (List.mem_map.mpr ⟨e, h, rfl⟩))
/-- newcomers go to the end, among those that never change -/
theorem keptApp {add : List (Addr × Obj)} : ∀ p ∈ Led a k c σ (potL pt nu q (keptL kl kn es (add ++ imm))), p ∈ Led a k c σ (add ++ potL pt nu q (keptL kl kn es imm)) := by
  intro p hp
  refine potApp p ?_
  have e1 : Led a k c σ (potL pt nu q (keptL kl kn es (add ++ imm))) = Led a k c σ (potL pt nu q []) ++ keptL kl kn es (add ++ imm) := rfl
  have e2 : Led a k c σ (potL pt nu q (add ++ keptL kl kn es imm)) = Led a k c σ (potL pt nu q []) ++ (add ++ keptL kl kn es imm) := rfl
  rw [e1] at hp
  rw [e2]
  rcases List.mem_append.mp hp with h | h
  · exact List.mem_append.mpr (.inl h)
  · refine List.mem_append.mpr (.inr ?_)
    rcases List.mem_cons.mp h with h | h
    · rw [h]; exact List.mem_append.mpr (.inr (List.Mem.head _))
    · rcases List.mem_append.mp h with h | h
      · exact List.mem_append.mpr (.inr (List.Mem.tail _ (List.mem_append.mpr (.inl h))))
      · rcases List.mem_append.mp h with h | h
        · exact List.mem_append.mpr (.inl h)
        · exact List.mem_append.mpr (.inr (List.Mem.tail _ (List.mem_append.mpr (.inr h))))
theorem sepAdd {add : List (Addr × Obj)} (S : Sep a pt nu kl (es.map (·.ad)) imm) (hA : Adds a (potL pt nu q (keptL kl kn es imm)) add) : Sep a pt nu kl (es.map (·.ad)) (add ++ imm) := by
  refine ⟨S.p1, S.p2, S.p3, S.p4, S.nd, offApp hA.off S.i1, List.forall_mem_append.mpr ⟨fun p hp => hA.new p hp _ (List.Mem.head _), S.i2⟩, List.forall_mem_append.mpr ⟨fun p hp => hA.new p hp _ (List.Mem.tail _ (List.Mem.head _)), S.i3⟩,
    List.forall_mem_append.mpr ⟨fun p hp => hA.new p hp _ (List.Mem.tail _ (List.Mem.tail _ (List.Mem.head _))), S.i4⟩, List.forall_mem_append.mpr ⟨fun p hp x hx => ?_, S.i5⟩⟩
  obtain ⟨e, he, rfl⟩ := List.mem_map.mp hx
  exact hA.new p hp (e.ad, entO e) (List.Mem.tail _ (List.Mem.tail _ (List.Mem.tail _ (entIn he))))
theorem sepTake (S : Sep a pt nu kl (es.map (·.ad)) imm) (n : Nat) : Sep a pt nu kl ((es.take n).map (·.ad)) imm := by
  have hs : ∀ x ∈ (es.take n).map (·.ad), x ∈ es.map (·.ad) := fun x hx => by
    obtain ⟨e, he, rfl⟩ := List.mem_map.mp hx
    exact List.mem_map.mpr ⟨e, List.mem_of_mem_take he, rfl⟩
  refine ⟨S.p1, S.p2, S.p3, fun x hx => S.p4 x (hs x hx), ?_, S.i1, S.i2, S.i3, S.i4, fun p hp x hx => S.i5 p hp x (hs x hx)⟩
  rw [List.map_take]
  exact S.nd.sublist (List.take_sublist ..)
end
section
variable {prog : Program} {w : World} {A : Around} {E : Value → Shared → Prop} {s : Shared} {h₀ : Heap} {L l T : Addr} {news L9 : List (Addr × Obj)} {vs : List Value} {n : Nat} {i j : Int} {t1 t2 : Tok} {v x : Value} {Q : Value → Shared → Prop}
/-- a cell that was read equals a tuple that was just made -/
theorem eq_cell (N : News h₀ L s.heap news) (hT : (T, tupO i j t1 t2 n) ∈ news) (M : ∀ p ∈ L9, s.heap.get? p.1 = some p.2) (hv : DatIn L9 v (.tuple [.int i, .int j])) (hu : A.units + 64 < cLine) (h : Q (.bool true) s) :
    wpAny (model prog w) A (compareOp .Eq v (.ref T)) Q E s := by
  have M' : ∀ p ∈ (T, tupO i j t1 t2 n) :: L9, s.heap.get? p.1 = some p.2 := List.forall_mem_cons.mpr ⟨(N _ hT).1, M⟩
  refine eq_dat M' (hv.mono fun p hp => List.Mem.tail _ hp) (DatIn.tuple (List.Mem.head _) (.cons (.int _ _) (.cons (.int _ _) .nil))) rfl rfl hu ?_
  rw [@decide_eq_true _ (Classical.propDecidable _) rfl]
  exact h
theorem item_val' {value slice : PySem.Expr} {k : Int} {u : Tok} (N : News h₀ L s.heap news) (hm : (l, listOf vs.toArray n) ∈ news) (h0 : 0 ≤ k) (hz : k < 100000) (hx : vs[k.toNat]? = some x)
    (h : Q x s) (hs : subscripted slice false (.ref l) (.int k u) = operate [.ref l, .int k u] (getItem (.ref l) (.int k u)) := by with_unfolding_all rfl) :
    wpAny (model prog w) A (subscriptTail value slice (.ref l) (.int k u)) Q E s := by
  have hl : s.heap.IsList l vs.toArray := ⟨_, (N _ hm).1, rfl, n, rfl⟩
  exact tail_any hl.typeIs slot_list_getitem.lookup (wpAny_getItem_list hl h0 (by omega) (by simpa using hx) h) hs
theorem eq_cellB (N : News h₀ L s.heap news) (hT : (T, tupO i j t1 t2 n) ∈ news) (hv : DatIn L9 v (.tuple [.int i, .int j])) (M : ∀ p ∈ L9, s.heap.get? p.1 = some p.2) (hu : A.units + 64 < cLine) (h : Q (.bool true) s) :
    wpAny (model prog w) A (compareOp .Eq v (.ref T)) Q E s := eq_cell N hT M hv hu h
theorem item_val'B {value slice : PySem.Expr} {k : Int} {u : Tok} (N : News h₀ L s.heap news) (hm : (l, listOf vs.toArray n) ∈ news) (hx : vs[k.toNat]? = some x) (h0 : 0 ≤ k) (hz : k < 100000)
    (h : Q x s) (hs : subscripted slice false (.ref l) (.int k u) = operate [.ref l, .int k u] (getItem (.ref l) (.int k u)) := by with_unfolding_all rfl) :
    wpAny (model prog w) A (subscriptTail value slice (.ref l) (.int k u)) Q E s := item_val' N hm h0 hz hx h hs
end
end Mine
namespace Mine
theorem kw0_Base7 : True := by
  k_with_none
  w_top off
  trivial
theorem ledDropMid {a : Adr} {k : Kon} {c : Con} {σ : W} {add r r' : List (Addr × Obj)} (h : ∀ p ∈ r', p ∈ r) : ∀ p ∈ Led a k c σ (add ++ r'), p ∈ Led a k c σ (add ++ r) := by
  intro p hp
  have e1 : Led a k c σ (add ++ r') = Led a k c σ [] ++ (add ++ r') := rfl
  have e2 : Led a k c σ (add ++ r) = Led a k c σ [] ++ (add ++ r) := rfl
  rw [e1] at hp
  rw [e2]
  rcases List.mem_append.mp hp with h1 | h1
  · exact List.mem_append.mpr (.inl h1)
  · refine List.mem_append.mpr (.inr ?_)
    rcases List.mem_append.mp h1 with h2 | h2
    · exact List.mem_append.mpr (.inl h2)
    · exact List.mem_append.mpr (.inr (h p h2))
theorem two {α : Type} {x y : α} {r : List α} : ∀ p ∈ r, p ∈ x :: y :: r := fun _ h => List.Mem.tail _ (List.Mem.tail _ h)
end Mine
namespace Mine
theorem refE_snoc {es : List En} {j : Nat} (h : j < es.length) : refE (es.take (j + 1)) = refE (es.take j) ++ [Value.ref es[j].ad] := by
  rw [List.take_add_one, List.getElem?_eq_getElem h, Option.toList_some, refE, List.map_append]; rfl
theorem refE_len {es : List En} {j : Nat} (h : j ≤ es.length) : (refE (es.take j)).length = j := by
  rw [refE, List.length_map, List.length_take]; omega
theorem sepKl {a : Adr} {pt nu kl : Addr} {es : List En} {imm : List (Addr × Obj)} (S : Sep a pt nu kl (es.map (·.ad)) imm) (j : Nat) : ∀ p ∈ entsL (es.take j) ++ imm, p.1 ≠ kl := fun p hp => by
  rcases List.mem_append.mp hp with h | h
  · exact Nat.ne_of_gt (sepGt (sepTake S j) p h)
  · exact S.i4 p h
theorem keptPop {a : Adr} {k : Kon} {c : Con} {σ : W} {pt nu kl : Addr} {q : PotC} {es : List En} {imm : List (Addr × Obj)} {kn j : Nat} {o : Obj} :
    ∀ p ∈ Led a k c σ (potL pt nu q ((kl, o) :: (entsL (es.take j) ++ imm))), p ∈ Led a k c σ (potL pt nu q ((kl, o) :: (entsL (es.take (j + 1)) ++ imm))) := by
  intro p hp
  have e1 : ∀ X, Led a k c σ (potL pt nu q ((kl, o) :: X)) = Led a k c σ (potL pt nu q [(kl, o)]) ++ X := fun X => rfl
  rw [e1] at hp ⊢
  rcases List.mem_append.mp hp with h | h
  · exact List.mem_append.mpr (.inl h)
  · refine List.mem_append.mpr (.inr ?_)
    rcases List.mem_append.mp h with h | h
    · refine List.mem_append.mpr (.inl ?_)
      obtain ⟨e, he, rfl⟩ := List.mem_map.mp h
      refine List.mem_map.mpr ⟨e, ?_, rfl⟩
      rw [List.take_add_one]
      exact List.mem_append.mpr (.inl he)
    · exact List.mem_append.mpr (.inr h)
theorem addsPotQ {a : Adr} {pt nu : Addr} {q q1 : PotC} {rest add : List (Addr × Obj)} (h : Adds a (potL pt nu q1 rest) add) : Adds a (potL pt nu q rest) add :=
  ⟨h.off, fun p hp => List.forall_mem_cons.mpr ⟨fun e => h.new p hp _ (List.Mem.head _) e, List.forall_mem_cons.mpr ⟨fun e => h.new p hp _ (List.Mem.tail _ (List.Mem.head _)) e, fun r hr => h.new p hp r (List.Mem.tail _ (List.Mem.tail _ hr))⟩⟩⟩
theorem newsCast {g h : Heap} {L : Addr} {x y : List (Addr × Obj)} (N : News g L h x) (e : x = y) : News g L h y := e ▸ N
end Mine
namespace Mine
theorem kw0_C12 : True := by
  k_with_none
  w_top off
  trivial
theorem fill12 : PySem.Challenge.rw_sa0158_01 = PySem.Challenge.rw_sa0158_01 ∧ hd.heap_39 = hd.heap_39 := by k_fill; exact ⟨rfl, rfl⟩
section
variable {prog : Program} {w : World} {mean : ExcName → Option Value} {mg mb : Str → Option Value} {dp un : Nat} {gd : Option (List Code)} {cn : Str} {cs : Scope} {ca : Addr} {ccd : Value} {cl : List (Str × Addr)} {outer : List Env} {A₀ : Around} {base h₀ : Heap} {L : Addr} {m : Str → Option Value} {s : Shared} {Q E : Value → Shared → Prop}
  {a : Adr} {k : Kon} {c : Con} {σ : W} {imm rest : List (Addr × Obj)}
theorem kw_C12_0 : True := by
  k_with_none
  k_with "k_upd" => first | exact upd_sk (by assumption) (by assumption) | exact upd_hp (by assumption) (by assumption) | exact upd_tr (by assumption) (by assumption) | exact upd_xs (by assumption) (by assumption) | exact upd_dm (by assumption) (by assumption) | exact upd_ds (by assumption) (by assumption) | exact upd_pt (by assumption) (by assumption) (by assumption) (by assumption) | exact upd_nu (by assumption) (by assumption) (by assumption) (by assumption) | exact upd_kl (by assumption) (by assumption) (by assumption) (by assumption) (by assumption)
  k_with "k_ne" => (refine neN ?_; (try dsimp only); first | exact Nat.ne_of_gt (by with_reducible assumption) | exact Nat.ne_of_lt (by with_reducible assumption) | exact Nat.ne_of_gt (And.left (by with_reducible assumption)) | exact Nat.ne_of_gt (cj1 (by with_reducible assumption)) | exact Nat.ne_of_gt (cj2 (by with_reducible assumption)) | exact Nat.ne_of_gt (cj3 (by with_reducible assumption)) | exact Nat.ne_of_gt (cj4 (by with_reducible assumption)) | exact Nat.ne_of_gt (cj5 (by with_reducible assumption)) | exact Nat.ne_of_gt (cj6 (by with_reducible assumption)) | exact Nat.ne_of_gt (cj7 (by with_reducible assumption)) | exact Nat.ne_of_gt (cj8 (by with_reducible assumption)) | exact Nat.ne_of_gt (cj9 (by with_reducible assumption)) | exact Nat.ne_of_gt (cj10 (by with_reducible assumption)) | exact Nat.ne_of_gt (cj11 (by with_reducible assumption)) | exact Nat.ne_of_gt (cj12 (by with_reducible assumption)) | exact Nat.ne_of_gt (ce1 (by with_reducible assumption)) | exact Nat.ne_of_gt (ce2 (by with_reducible assumption)) | exact Nat.ne_of_gt (ce3 (by with_reducible assumption)) | exact Nat.ne_of_gt (ce4 (by with_reducible assumption)) | exact Nat.ne_of_gt (ce5 (by with_reducible assumption)) | exact Nat.ne_of_gt (ce6 (by with_reducible assumption)) | exact Nat.ne_of_gt (ce7 (by with_reducible assumption)) | exact Nat.ne_of_gt (ce8 (by with_reducible assumption)) | exact Nat.ne_of_gt (ce9 (by with_reducible assumption)) | exact Nat.ne_of_gt (ce10 (by with_reducible assumption)) | exact Nat.ne_of_gt (ce11 (by with_reducible assumption)) | exact Nat.ne_of_gt (ce12 (by with_reducible assumption)) | exact Nat.ne_of_lt (And.left (by with_reducible assumption)) | exact Nat.ne_of_lt (cj1 (by with_reducible assumption)) | exact Nat.ne_of_lt (cj2 (by with_reducible assumption)) | exact Nat.ne_of_lt (cj3 (by with_reducible assumption)) | exact Nat.ne_of_lt (cj4 (by with_reducible assumption)) | exact Nat.ne_of_lt (cj5 (by with_reducible assumption)) | exact Nat.ne_of_lt (cj6 (by with_reducible assumption)) | exact Nat.ne_of_lt (cj7 (by with_reducible assumption)) | exact Nat.ne_of_lt (cj8 (by with_reducible assumption)) | exact Nat.ne_of_lt (cj9 (by with_reducible assumption)) | exact Nat.ne_of_lt (cj10 (by with_reducible assumption)) | exact Nat.ne_of_lt (cj11 (by with_reducible assumption)) | exact Nat.ne_of_lt (cj12 (by with_reducible assumption)) | exact Nat.ne_of_lt (ce1 (by with_reducible assumption)) | exact Nat.ne_of_lt (ce2 (by with_reducible assumption)) | exact Nat.ne_of_lt (ce3 (by with_reducible assumption)) | exact Nat.ne_of_lt (ce4 (by with_reducible assumption)) | exact Nat.ne_of_lt (ce5 (by with_reducible assumption)) | exact Nat.ne_of_lt (ce6 (by with_reducible assumption)) | exact Nat.ne_of_lt (ce7 (by with_reducible assumption)) | exact Nat.ne_of_lt (ce8 (by with_reducible assumption)) | exact Nat.ne_of_lt (ce9 (by with_reducible assumption)) | exact Nat.ne_of_lt (ce10 (by with_reducible assumption)) | exact Nat.ne_of_lt (ce11 (by with_reducible assumption)) | exact Nat.ne_of_lt (ce12 (by with_reducible assumption)))
  k_with "k_all" => first | exact Off.m (by assumption) | exact Off.dm (by assumption) | exact Off.st (by assumption) | exact Off.ds (by assumption) | exact Off.hp (by assumption) | exact Off.sk (by assumption) | exact Off.tr (by assumption) | exact Off.xs (by assumption)
  k_with "call builtin:len" => (k_here; (with_reducible show wpAny _ _ (call (Value.builtin "len") [Value.ref _]) _ _ _); k_dflt (refine' len_lst (by k_asm) (by k_mem) (by first | omega | (dsimp only; omega)) ?_; k_whole); intro t' tk')
  k_with "subscriptTail" => (k_here; (with_reducible show wpAny _ _ (subscriptTail _ _ (Value.ref _) (Value.int _ _)) _ _ _); k_dflt (refine' item_lst (by k_asm) (by k_mem) (by first | assumption | exact Rel.s (by assumption) | exact Rel.h (by assumption) | exact Rel.x (by assumption)) (by first | assumption | exact At.cast (by assumption) (by omega)) (by first | omega | (dsimp only; omega)) ?_ (by with_unfolding_all rfl); k_whole); intro v' hv')
  k_with "subscriptTail" => (k_here; (with_reducible show wpAny _ _ (subscriptTail _ _ (Value.ref _) (Value.int _ _)) _ _ _); k_dflt (refine' itemI_lst (by k_asm) (by k_mem) (by first | assumption | exact Rel.s (by assumption) | exact Rel.h (by assumption) | exact Rel.x (by assumption)) (by first | assumption | exact At.cast (by assumption) (by omega)) (by first | omega | (dsimp only; omega)) ?_ (by with_unfolding_all rfl); k_whole); intro t')
  k_with "setItem ref" => (k_here; (with_reducible show wpAny _ _ (setItem (Value.ref _) (Value.int _ _) _) _ _ _); k_dflt (refine' set_lst (by k_asm) (by k_asm) (by k_upd) (by omega) (by omega) (by first | omega | (dsimp only; omega)) ?_; k_whole); intro h' F' N'; (try k_sweep))
  k_with "call builtin:list.append" => (k_here; (with_reducible show wpAny _ _ (call (Value.builtin _) [Value.ref _, _]) _ _ _); k_dflt (refine' append_lst (by k_asm) (by k_asm) (by k_upd) (by first | omega | (dsimp only; omega)) ?_; k_whole); intro h' F' N'; (try k_sweep))
  k_with "WhlIf" => first | refine WhlIf.yes (decide_eq_true (by omega)) ?_ | refine WhlIf.no (decide_eq_false (by omega)) ?_
  k_with "exec While Compare cons nil" => ((with_reducible rename MarkW => mk'); clear mk'; refine Stop.by ?_)
  k_with "exec For Name Name cons nil" => ((with_reducible rename MarkF => mk'); (rename Fr _ _ _ _ => lF'); (with_unfolding_all refine' For_invVF lF' (by exact rfl) (by exact rfl) ?_; k_whole))
  k_with "exec For Name Call cons nil" => ((with_reducible rename MarkF => mk'); (rename Fr _ _ _ _ => lF'); (with_unfolding_all refine' For_invVF lF' (by exact rfl) (by exact rfl) ?_; k_whole))
  k_with "pyIter ref" => ((with_reducible rename MarkF => mk'); clear mk'; refine Stop.by ?_)
  k_with "exec While Constant" => (k_here; k_dflt (refine whl_start 100 ?_))
  k_with "compareOp Eq" => (k_here; k_dflt (refine' eq_datB (by assumption) (by assumption) (by exact mem9s (by k_asm) (by repeat (first | assumption | refine immTail ?_)) (by k_asm) (by k_asm)) (by first | rfl | assumption) (by first | rfl | assumption) (by ktr_units) ?_; k_whole))
  k_with "subscriptTail" => (k_here; (with_reducible show wpAny _ _ (subscriptTail _ _ (Value.ref _) (Value.int _ _)) _ _ _); k_dflt (refine' tup9B (by assumption) (by exact mem9s (by k_asm) (by repeat (first | assumption | refine immTail ?_)) (by k_asm) (by k_asm)) (by decide) (by decide) (by rfl) (by rfl) ?_ (by with_unfolding_all rfl); k_whole))
  k_with "call builtin:list.pop" => (k_here; (with_reducible show wpAny _ _ (call (Value.builtin _) [Value.ref _]) _ _ _); k_dflt (refine' pop_lst (by k_asm) (by k_asm) (by k_upd) (by first | omega | (dsimp only; omega)) ?_; k_whole); intro h' F' N'; (try k_sweep))
  k_with "UnrEnd" => (refine unrLed (by k_asm) (by k_asm) (by assumption) ?_)
  k_with "k_mem" => first | with_reducible assumption | (refine memOf ?_; with_reducible assumption)
  k_with "k_all" => assumption
  k_with "subscriptTail" => (k_here; (with_reducible show wpAny _ _ (subscriptTail _ _ (Value.ref _) (Value.int _ _)) _ _ _); k_dflt (refine' item_val (by k_asm) (by k_mem) (by decide) (by decide) (by rfl) ?_ (by with_unfolding_all rfl); k_whole))
  k_with "getItem ref int" => (k_here; k_dflt (refine' get_val (by k_asm) (by k_mem) (by decide) (by decide) (by rfl) ?_; k_whole))
  k_with "setItem ref" => (k_here; (with_reducible show wpAny _ _ (setItem (Value.ref _) (Value.int _ _) _) _ _ _); k_dflt (refine' set_lst (by k_asm) (by k_asm) (by k_upd) (by decide) (by exact Int.lt_of_sub_pos (by decide)) (by exact Nat.le_of_ble_eq_true rfl) ?_; k_whole); intro h' F' N'; (try k_sweep))
  k_with "subscriptTail" => (k_here; (with_reducible show wpAny _ _ (subscriptTail _ _ (Value.ref _) (Value.int _ _)) _ _ _); k_dflt (refine' item_int (by k_asm) (by k_mem) (by assumption) (by omega) (by omega) (by omega) ?_ (by with_unfolding_all rfl); k_whole); intro t')
  k_with "k_all" => assumption
  trivial
theorem law_digit_spec {pt nu : Addr} {n1 n2 : Nat} {i lim : Int} {ti tl : Tok} {nv : List Value} {ns : List Int}
    (B : Below A₀ base outer h₀) (F : Fr h₀ L s.heap m) (X : (hd.heap_39 w.params).In h₀) (N : News h₀ L s.heap (Led a k c σ ((pt, listOf [Value.int i ti, Value.ref nu].toArray n1) :: (nu, listOf nv.toArray n2) :: rest))) (T : TopF mean mg mb h₀) (hk : cs.kind = .function) (hdp : dp + 1 < recursionLimit) (hun : un + 108 < cLine)
    (hA : Ord a) (p1 : @LT.lt Nat _ nu pt) (p2 : @LT.lt Nat _ pt a.dm) (p3 : ∀ p ∈ rest, p.1 ≠ pt) (p4 : ∀ p ∈ rest, p.1 ≠ nu) (hd : DatAll [] nv (ns.map Dat.int)) (h0 : 0 < ns.length) (h1 : ns.length ≤ 100) (h4 : 0 < lim) (h5 : lim ≤ 5000)
    (ret : ∀ d t ti' nv' (ns' : List Int) n2' h' tk', Fr h₀ L h' m → News h₀ L h' (Led a k c σ ((pt, listOf [Value.int (i + 1) ti', Value.ref nu].toArray n1) :: (nu, listOf nv'.toArray n2') :: rest)) → DatAll [] nv' (ns'.map Dat.int) → ns'.length = ns.length → 0 ≤ d → d < lim → Q (.int d t) { s with heap := h', toks := tk' }) :
    wpAny (model prog w) (ktrTop dp un gd cn cs L ca ccd cl outer) (call (.ref 531) [.ref pt, .int lim tl]) Q E s := by
  obtain ⟨o1, o2, o3, o4, o5, o6, o7⟩ := id hA
  have hl := hd.length
  rw [List.length_map] at hl
  have hf1 := Int.fmod_nonneg_of_pos i (show (0 : Int) < nv.length by omega)
  have hf2 := Int.fmod_lt_of_pos i (show (0 : Int) < nv.length by omega)
  refine wpAny_call ?_
  k_dflt ktr_enter
  k_steps
  all_goals ((rename Fr h₀ _ _ _ => qF); (rename News h₀ _ _ _ => qN); exact ret _ _ _ _ (ns.set (i.fmod nv.length).toNat ((ns.getD (i.fmod nv.length).toNat 0).fdiv lim + (i + 1))) _ _ _ qF qN (by rw [List.map_set]; exact datSet hd (.int _ _) _) (List.length_set ..) (Int.fmod_nonneg_of_pos _ h4) (Int.fmod_lt_of_pos _ h4))
theorem digit_spec {pt nu : Addr} {q : PotC} {lim : Int} {tl : Tok}
    (B : Below A₀ base outer h₀) (F : Fr h₀ L s.heap m) (X : (hd.heap_39 w.params).In h₀) (N : News h₀ L s.heap (Led a k c σ (potL pt nu q rest))) (T : TopF mean mg mb h₀) (hk : cs.kind = .function) (hdp : dp + 1 < recursionLimit) (hun : un + 108 < cLine)
    (hA : Ord a) (hP : PotA a pt nu rest) (hq : PotOk q) (h4 : 0 < lim) (h5 : lim ≤ 5000)
    (ret : ∀ d t q' h' tk', Fr h₀ L h' m → News h₀ L h' (Led a k c σ (potL pt nu q' rest)) → PotOk q' → 0 ≤ d → d < lim → Q (.int d t) { s with heap := h', toks := tk' }) :
    wpAny (model prog w) (ktrTop dp un gd cn cs L ca ccd cl outer) (call (.ref 531) [.ref pt, .int lim tl]) Q E s := by
  obtain ⟨ns, g1, g2, g3⟩ := hq
  refine law_digit_spec B F X N T hk hdp hun hA hP.p1 hP.p2 hP.p3 hP.p4 g1 g2 g3 h4 h5 ?_
  intro d t ti' nv' ns' n2' h' tk' F' N' e1 e2 e3 e4
  exact ret d t ⟨q.i + 1, ti', q.n1, nv', n2'⟩ h' tk' F' N' ⟨ns', e1, by omega, by omega⟩ e3 e4
end
end Mine
namespace Mine
theorem kw0_C1 : True := by
  k_with_none
  w_top off
  trivial
theorem fillX : PySem.Challenge.rw_sa0158_01 = PySem.Challenge.rw_sa0158_01 ∧ hd.heap_39 = hd.heap_39 := by k_fill; exact ⟨rfl, rfl⟩
section
variable {prog : Program} {w : World} {mean : ExcName → Option Value} {mg mb : Str → Option Value} {dp un : Nat} {gd : Option (List Code)} {cn : Str} {cs : Scope} {ca : Addr} {ccd : Value} {cl : List (Str × Addr)} {outer : List Env} {A₀ : Around} {base h₀ : Heap} {L : Addr} {m : Str → Option Value} {s : Shared} {Q E : Value → Shared → Prop}
  {a : Adr} {k : Kon} {c : Con} {σ : W} {imm rest : List (Addr × Obj)}
theorem kw_C1_0 : True := by
  k_with_none
  k_with "k_upd" => first | exact upd_sk (by assumption) (by assumption) | exact upd_hp (by assumption) (by assumption) | exact upd_tr (by assumption) (by assumption) | exact upd_xs (by assumption) (by assumption) | exact upd_dm (by assumption) (by assumption) | exact upd_ds (by assumption) (by assumption) | exact upd_pt (by assumption) (by assumption) (by assumption) (by assumption) | exact upd_nu (by assumption) (by assumption) (by assumption) (by assumption) | exact upd_kl (by assumption) (by assumption) (by assumption) (by assumption) (by assumption)
  k_with "k_ne" => (refine neN ?_; (try dsimp only); first | exact Nat.ne_of_gt (by with_reducible assumption) | exact Nat.ne_of_lt (by with_reducible assumption) | exact Nat.ne_of_gt (And.left (by with_reducible assumption)) | exact Nat.ne_of_gt (cj1 (by with_reducible assumption)) | exact Nat.ne_of_gt (cj2 (by with_reducible assumption)) | exact Nat.ne_of_gt (cj3 (by with_reducible assumption)) | exact Nat.ne_of_gt (cj4 (by with_reducible assumption)) | exact Nat.ne_of_gt (cj5 (by with_reducible assumption)) | exact Nat.ne_of_gt (cj6 (by with_reducible assumption)) | exact Nat.ne_of_gt (cj7 (by with_reducible assumption)) | exact Nat.ne_of_gt (cj8 (by with_reducible assumption)) | exact Nat.ne_of_gt (cj9 (by with_reducible assumption)) | exact Nat.ne_of_gt (cj10 (by with_reducible assumption)) | exact Nat.ne_of_gt (cj11 (by with_reducible assumption)) | exact Nat.ne_of_gt (cj12 (by with_reducible assumption)) | exact Nat.ne_of_gt (ce1 (by with_reducible assumption)) | exact Nat.ne_of_gt (ce2 (by with_reducible assumption)) | exact Nat.ne_of_gt (ce3 (by with_reducible assumption)) | exact Nat.ne_of_gt (ce4 (by with_reducible assumption)) | exact Nat.ne_of_gt (ce5 (by with_reducible assumption)) | exact Nat.ne_of_gt (ce6 (by with_reducible assumption)) | exact Nat.ne_of_gt (ce7 (by with_reducible assumption)) | exact Nat.ne_of_gt (ce8 (by with_reducible assumption)) | exact Nat.ne_of_gt (ce9 (by with_reducible assumption)) | exact Nat.ne_of_gt (ce10 (by with_reducible assumption)) | exact Nat.ne_of_gt (ce11 (by with_reducible assumption)) | exact Nat.ne_of_gt (ce12 (by with_reducible assumption)) | exact Nat.ne_of_lt (And.left (by with_reducible assumption)) | exact Nat.ne_of_lt (cj1 (by with_reducible assumption)) | exact Nat.ne_of_lt (cj2 (by with_reducible assumption)) | exact Nat.ne_of_lt (cj3 (by with_reducible assumption)) | exact Nat.ne_of_lt (cj4 (by with_reducible assumption)) | exact Nat.ne_of_lt (cj5 (by with_reducible assumption)) | exact Nat.ne_of_lt (cj6 (by with_reducible assumption)) | exact Nat.ne_of_lt (cj7 (by with_reducible assumption)) | exact Nat.ne_of_lt (cj8 (by with_reducible assumption)) | exact Nat.ne_of_lt (cj9 (by with_reducible assumption)) | exact Nat.ne_of_lt (cj10 (by with_reducible assumption)) | exact Nat.ne_of_lt (cj11 (by with_reducible assumption)) | exact Nat.ne_of_lt (cj12 (by with_reducible assumption)) | exact Nat.ne_of_lt (ce1 (by with_reducible assumption)) | exact Nat.ne_of_lt (ce2 (by with_reducible assumption)) | exact Nat.ne_of_lt (ce3 (by with_reducible assumption)) | exact Nat.ne_of_lt (ce4 (by with_reducible assumption)) | exact Nat.ne_of_lt (ce5 (by with_reducible assumption)) | exact Nat.ne_of_lt (ce6 (by with_reducible assumption)) | exact Nat.ne_of_lt (ce7 (by with_reducible assumption)) | exact Nat.ne_of_lt (ce8 (by with_reducible assumption)) | exact Nat.ne_of_lt (ce9 (by with_reducible assumption)) | exact Nat.ne_of_lt (ce10 (by with_reducible assumption)) | exact Nat.ne_of_lt (ce11 (by with_reducible assumption)) | exact Nat.ne_of_lt (ce12 (by with_reducible assumption)))
  k_with "k_all" => first | exact Off.m (by assumption) | exact Off.dm (by assumption) | exact Off.st (by assumption) | exact Off.ds (by assumption) | exact Off.hp (by assumption) | exact Off.sk (by assumption) | exact Off.tr (by assumption) | exact Off.xs (by assumption)
  k_with "call builtin:len" => (k_here; (with_reducible show wpAny _ _ (call (Value.builtin "len") [Value.ref _]) _ _ _); k_dflt (refine' len_lst (by k_asm) (by k_mem) (by first | omega | (dsimp only; omega)) ?_; k_whole); intro t' tk')
  k_with "subscriptTail" => (k_here; (with_reducible show wpAny _ _ (subscriptTail _ _ (Value.ref _) (Value.int _ _)) _ _ _); k_dflt (refine' item_lst (by k_asm) (by k_mem) (by first | assumption | exact Rel.s (by assumption) | exact Rel.h (by assumption) | exact Rel.x (by assumption)) (by first | assumption | exact At.cast (by assumption) (by omega)) (by first | omega | (dsimp only; omega)) ?_ (by with_unfolding_all rfl); k_whole); intro v' hv')
  k_with "subscriptTail" => (k_here; (with_reducible show wpAny _ _ (subscriptTail _ _ (Value.ref _) (Value.int _ _)) _ _ _); k_dflt (refine' itemI_lst (by k_asm) (by k_mem) (by first | assumption | exact Rel.s (by assumption) | exact Rel.h (by assumption) | exact Rel.x (by assumption)) (by first | assumption | exact At.cast (by assumption) (by omega)) (by first | omega | (dsimp only; omega)) ?_ (by with_unfolding_all rfl); k_whole); intro t')
  k_with "setItem ref" => (k_here; (with_reducible show wpAny _ _ (setItem (Value.ref _) (Value.int _ _) _) _ _ _); k_dflt (refine' set_lst (by k_asm) (by k_asm) (by k_upd) (by omega) (by omega) (by first | omega | (dsimp only; omega)) ?_; k_whole); intro h' F' N'; (try k_sweep))
  k_with "call builtin:list.append" => (k_here; (with_reducible show wpAny _ _ (call (Value.builtin _) [Value.ref _, _]) _ _ _); k_dflt (refine' append_lst (by k_asm) (by k_asm) (by k_upd) (by first | omega | (dsimp only; omega)) ?_; k_whole); intro h' F' N'; (try k_sweep))
  k_with "WhlIf" => first | refine WhlIf.yes (decide_eq_true (by omega)) ?_ | refine WhlIf.no (decide_eq_false (by omega)) ?_
  k_with "exec While Compare cons nil" => ((with_reducible rename MarkW => mk'); clear mk'; refine Stop.by ?_)
  k_with "exec For Name Name cons nil" => ((with_reducible rename MarkF => mk'); (rename Fr _ _ _ _ => lF'); (with_unfolding_all refine' For_invVF lF' (by exact rfl) (by exact rfl) ?_; k_whole))
  k_with "exec For Name Call cons nil" => ((with_reducible rename MarkF => mk'); (rename Fr _ _ _ _ => lF'); (with_unfolding_all refine' For_invVF lF' (by exact rfl) (by exact rfl) ?_; k_whole))
  k_with "pyIter ref" => ((with_reducible rename MarkF => mk'); clear mk'; refine Stop.by ?_)
  k_with "exec While Constant" => (k_here; k_dflt (refine whl_start 100 ?_))
  k_with "compareOp Eq" => (k_here; k_dflt (refine' eq_datB (by assumption) (by assumption) (by exact mem9s (by k_asm) (by repeat (first | assumption | refine immTail ?_)) (by k_asm) (by k_asm)) (by first | rfl | assumption) (by first | rfl | assumption) (by ktr_units) ?_; k_whole))
  k_with "subscriptTail" => (k_here; (with_reducible show wpAny _ _ (subscriptTail _ _ (Value.ref _) (Value.int _ _)) _ _ _); k_dflt (refine' tup9B (by assumption) (by exact mem9s (by k_asm) (by repeat (first | assumption | refine immTail ?_)) (by k_asm) (by k_asm)) (by decide) (by decide) (by rfl) (by rfl) ?_ (by with_unfolding_all rfl); k_whole))
  k_with "call builtin:list.pop" => (k_here; (with_reducible show wpAny _ _ (call (Value.builtin _) [Value.ref _]) _ _ _); k_dflt (refine' pop_lst (by k_asm) (by k_asm) (by k_upd) (by first | omega | (dsimp only; omega)) ?_; k_whole); intro h' F' N'; (try k_sweep))
  k_with "UnrEnd" => (refine unrLed (by k_asm) (by k_asm) (by assumption) ?_)
  k_with "k_mem" => first | with_reducible assumption | (refine memOf ?_; with_reducible assumption)
  k_with "k_all" => assumption
  trivial
theorem mark_spec (B : Below A₀ base outer h₀) (F : Fr h₀ L s.heap m) (X : (hd.heap_39 w.params).In h₀) (N : News h₀ L s.heap (Led a k c σ rest)) (T : TopF mean mg mb h₀) (hk : cs.kind = .function) (hdp : dp + 1 < recursionLimit) (hun : un + 108 < cLine)
    (R : Rel k imm c σ) (hS : Sm σ) (hO : Off a rest) (hA : Ord a) (hI : ∀ p ∈ imm, p ∈ rest)
    (ret : ∀ t h' tk', Fr h₀ L h' m → News h₀ L h' (Led a k c σ rest) → Q (.int (σ.tr.length : Int) t) { s with heap := h', toks := tk' }) :
    wpAny (model prog w) (ktrTop dp un gd cn cs L ca ccd cl outer) (call (.ref 160) [.ref a.st]) Q E s := by
  obtain ⟨tp, tcp, te, tb, tb0, thb, tbb, vH, nH, vS, nS, vT, nT, vX, nX⟩ := c
  have dH := R.h; have dS := R.s; have dT := R.t; have dX := R.x
  have lH := dH.length; have lS := dS.length; have lT := dT.length; have lX := dX.length
  rw [List.length_map] at lT
  have hS' := hS
  have hA' := hA
  obtain ⟨zH, zS, zT, zX⟩ := hS
  obtain ⟨o1, o2, o3, o4, o5, o6, o7⟩ := id hA
  dsimp only at dH dS dT dX lH lS lT lX
  dsimp only [Led] at N
  rw [← lT] at ret
  refine wpAny_call ?_
  k_dflt ktr_enter
  k_steps
  all_goals exact ret _ _ _ (by k_asm) (by k_asm)

theorem set_choice_neg (B : Below A₀ base outer h₀) (F : Fr h₀ L s.heap m) (X : (hd.heap_39 w.params).In h₀) (N : News h₀ L s.heap (Led a k c σ rest)) (T : TopF mean mg mb h₀) (hk : cs.kind = .function) (hdp : dp + 1 < recursionLimit) (hun : un + 108 < cLine)
    (R : Rel k imm c σ) (hS : Sm σ) (hO : Off a rest) (hA : Ord a) (hI : ∀ p ∈ imm, p ∈ rest) {n : Int} {tn : Tok} (h0 : n < 0)
    (ret : ∀ c' h' tk', Fr h₀ L h' m → News h₀ L h' (Led a k c' { σ with b := n, hb := 0, bb := 0 } rest) → Rel k imm c' { σ with b := n, hb := 0, bb := 0 } → Q .none { s with heap := h', toks := tk' }) :
    wpAny (model prog w) (ktrTop dp un gd cn cs L ca ccd cl outer) (call (.ref 461) [.ref a.m, .int n tn]) Q E s := by
  obtain ⟨tp, tcp, te, tb, tb0, thb, tbb, vH, nH, vS, nS, vT, nT, vX, nX⟩ := c
  have dH := R.h; have dS := R.s; have dT := R.t; have dX := R.x
  have lH := dH.length; have lS := dS.length; have lT := dT.length; have lX := dX.length
  rw [List.length_map] at lT
  have hS' := hS
  have hA' := hA
  obtain ⟨zH, zS, zT, zX⟩ := hS
  obtain ⟨o1, o2, o3, o4, o5, o6, o7⟩ := id hA
  dsimp only at dH dS dT dX lH lS lT lX
  dsimp only [Led, dmE, dsE, ent] at N
  refine wpAny_call ?_
  k_dflt ktr_enter
  k_steps
  all_goals ((rename Fr h₀ _ _ _ => qF); (rename News h₀ _ _ _ => qN); exact ret ⟨_, _, _, _, _, _, _, _, _, _, _, _, _, _, _⟩ _ _ qF qN ⟨dH, dS, dT, dX, R.c⟩)

theorem set_choice_pos (B : Below A₀ base outer h₀) (F : Fr h₀ L s.heap m) (X : (hd.heap_39 w.params).In h₀) (N : News h₀ L s.heap (Led a k c σ rest)) (T : TopF mean mg mb h₀) (hk : cs.kind = .function) (hdp : dp + 1 < recursionLimit) (hun : un + 108 < cLine)
    (R : Rel k imm c σ) (hS : Sm σ) (hO : Off a rest) (hA : Ord a) (hI : ∀ p ∈ imm, p ∈ rest) {n : Int} {tn : Tok} {cnt hl : Int} (h0 : 0 ≤ n) (h1 : At σ.sk n (.int cnt)) (h2 : At σ.sk (n + cnt + 6) (.int hl))
    (ret : ∀ c' h' tk', Fr h₀ L h' m → News h₀ L h' (Led a k c' { σ with b := n, hb := hl, bb := n } rest) → Rel k imm c' { σ with b := n, hb := hl, bb := n } → Q .none { s with heap := h', toks := tk' }) :
    wpAny (model prog w) (ktrTop dp un gd cn cs L ca ccd cl outer) (call (.ref 461) [.ref a.m, .int n tn]) Q E s := by
  obtain ⟨tp, tcp, te, tb, tb0, thb, tbb, vH, nH, vS, nS, vT, nT, vX, nX⟩ := c
  have dH := R.h; have dS := R.s; have dT := R.t; have dX := R.x
  have lH := dH.length; have lS := dS.length; have lT := dT.length; have lX := dX.length
  rw [List.length_map] at lT
  have hS' := hS
  have hA' := hA
  obtain ⟨zH, zS, zT, zX⟩ := hS
  obtain ⟨o1, o2, o3, o4, o5, o6, o7⟩ := id hA
  dsimp only at dH dS dT dX lH lS lT lX
  dsimp only [Led, dmE, dsE, ent] at N
  refine wpAny_call ?_
  k_dflt ktr_enter
  k_steps
  all_goals ((rename Fr h₀ _ _ _ => qF); (rename News h₀ _ _ _ => qN); exact ret ⟨_, _, _, _, _, _, _, _, _, _, _, _, _, _, _⟩ _ _ qF qN ⟨dH, dS, dT, dX, R.c⟩)

theorem choice_part_spec (B : Below A₀ base outer h₀) (F : Fr h₀ L s.heap m) (X : (hd.heap_39 w.params).In h₀) (N : News h₀ L s.heap (Led a k c σ rest)) (T : TopF mean mg mb h₀) (hk : cs.kind = .function) (hdp : dp + 1 < recursionLimit) (hun : un + 108 < cLine)
    (R : Rel k imm c σ) (hS : Sm σ) (hO : Off a rest) (hA : Ord a) (hI : ∀ p ∈ imm, p ∈ rest) {n : Int} {tn : Tok} {cnt v : Int} (h1 : At σ.sk σ.b (.int cnt)) (h2 : At σ.sk (σ.b + cnt + n) (.int v))
    (ret : ∀ t h' tk', Fr h₀ L h' m → News h₀ L h' (Led a k c σ rest) → Q (.int v t) { s with heap := h', toks := tk' }) :
    wpAny (model prog w) (ktrTop dp un gd cn cs L ca ccd cl outer) (call (.ref 482) [.ref a.m, .int n tn]) Q E s := by
  obtain ⟨tp, tcp, te, tb, tb0, thb, tbb, vH, nH, vS, nS, vT, nT, vX, nX⟩ := c
  have dH := R.h; have dS := R.s; have dT := R.t; have dX := R.x
  have lH := dH.length; have lS := dS.length; have lT := dT.length; have lX := dX.length
  rw [List.length_map] at lT
  have hS' := hS
  have hA' := hA
  obtain ⟨zH, zS, zT, zX⟩ := hS
  obtain ⟨o1, o2, o3, o4, o5, o6, o7⟩ := id hA
  dsimp only at dH dS dT dX lH lS lT lX
  dsimp only [Led] at N
  refine wpAny_call ?_
  k_dflt ktr_enter
  k_steps
  all_goals exact ret _ _ _ (by k_asm) (by k_asm)

theorem set_alternative_spec (B : Below A₀ base outer h₀) (F : Fr h₀ L s.heap m) (X : (hd.heap_39 w.params).In h₀) (N : News h₀ L s.heap (Led a k c σ rest)) (T : TopF mean mg mb h₀) (hk : cs.kind = .function) (hdp : dp + 1 < recursionLimit) (hun : un + 108 < cLine)
    (R : Rel k imm c σ) (hS : Sm σ) (hO : Off a rest) (hA : Ord a) (hI : ∀ p ∈ imm, p ∈ rest) {n : Int} {tn : Tok} {cnt : Int} (h1 : At σ.sk σ.b (.int cnt)) (h2 : 0 ≤ cnt) (h3 : σ.b + cnt + 4 < σ.sk.length)
    (ret : ∀ c' h' tk', Fr h₀ L h' m → News h₀ L h' (Led a k c' { σ with sk := σ.sk.set (σ.b + cnt + 4).toNat (.int n) } rest) → Rel k imm c' { σ with sk := σ.sk.set (σ.b + cnt + 4).toNat (.int n) } → Q .none { s with heap := h', toks := tk' }) :
    wpAny (model prog w) (ktrTop dp un gd cn cs L ca ccd cl outer) (call (.ref 475) [.ref a.m, .int n tn]) Q E s := by
  obtain ⟨tp, tcp, te, tb, tb0, thb, tbb, vH, nH, vS, nS, vT, nT, vX, nX⟩ := c
  have dH := R.h; have dS := R.s; have dT := R.t; have dX := R.x
  have lH := dH.length; have lS := dS.length; have lT := dT.length; have lX := dX.length
  rw [List.length_map] at lT
  have hS' := hS
  have hA' := hA
  obtain ⟨zH, zS, zT, zX⟩ := hS
  obtain ⟨o1, o2, o3, o4, o5, o6, o7⟩ := id hA
  dsimp only at dH dS dT dX lH lS lT lX
  dsimp only [Led] at N
  have h0 := h1.1
  refine wpAny_call ?_
  k_dflt ktr_enter
  k_steps
  all_goals ((rename Fr h₀ _ _ _ => qF); (rename News h₀ _ _ _ => qN); exact ret ⟨_, _, _, _, _, _, _, _, _, _, _, _, _, _, _⟩ _ _ qF qN ⟨dH, datSet dS (.int _ _) _, dT, dX, R.c⟩)

theorem pop_environment_spec (B : Below A₀ base outer h₀) (F : Fr h₀ L s.heap m) (X : (hd.heap_39 w.params).In h₀) (N : News h₀ L s.heap (Led a k c σ rest)) (T : TopF mean mg mb h₀) (hk : cs.kind = .function) (hdp : dp + 1 < recursionLimit) (hun : un + 108 < cLine)
    (R : Rel k imm c σ) (hS : Sm σ) (hO : Off a rest) (hA : Ord a) (hI : ∀ p ∈ imm, p ∈ rest) {pe pc : Int} (h1 : At σ.sk σ.e (.int pe)) (h2 : At σ.sk (σ.e + 1) (.int pc))
    (ret : ∀ c' h' tk', Fr h₀ L h' m → News h₀ L h' (Led a k c' { σ with e := pe, cp := pc } rest) → Rel k imm c' { σ with e := pe, cp := pc } → Q .none { s with heap := h', toks := tk' }) :
    wpAny (model prog w) (ktrTop dp un gd cn cs L ca ccd cl outer) (call (.ref 447) [.ref a.m]) Q E s := by
  obtain ⟨tp, tcp, te, tb, tb0, thb, tbb, vH, nH, vS, nS, vT, nT, vX, nX⟩ := c
  have dH := R.h; have dS := R.s; have dT := R.t; have dX := R.x
  have lH := dH.length; have lS := dS.length; have lT := dT.length; have lX := dX.length
  rw [List.length_map] at lT
  have hS' := hS
  have hA' := hA
  obtain ⟨zH, zS, zT, zX⟩ := hS
  obtain ⟨o1, o2, o3, o4, o5, o6, o7⟩ := id hA
  dsimp only at dH dS dT dX lH lS lT lX
  dsimp only [Led, dmE, dsE, ent] at N
  refine wpAny_call ?_
  k_dflt ktr_enter
  k_steps
  all_goals ((rename Fr h₀ _ _ _ => qF); (rename News h₀ _ _ _ => qN); exact ret ⟨_, _, _, _, _, _, _, _, _, _, _, _, _, _, _⟩ _ _ qF qN ⟨dH, dS, dT, dX, R.c⟩)

end
end Mine
namespace Mine
theorem kw0_C2 : True := by
  k_with_none
  w_top off
  trivial
theorem fill2 : PySem.Challenge.rw_sa0158_01 = PySem.Challenge.rw_sa0158_01 ∧ hd.heap_39 = hd.heap_39 := by k_fill; exact ⟨rfl, rfl⟩
section
variable {prog : Program} {w : World} {mean : ExcName → Option Value} {mg mb : Str → Option Value} {dp un : Nat} {gd : Option (List Code)} {cn : Str} {cs : Scope} {ca : Addr} {ccd : Value} {cl : List (Str × Addr)} {outer : List Env} {A₀ : Around} {base h₀ : Heap} {L : Addr} {m : Str → Option Value} {s : Shared} {Q E : Value → Shared → Prop}
  {a : Adr} {k : Kon} {c : Con} {σ : W} {imm rest : List (Addr × Obj)}
theorem kw_C2_0 : True := by
  k_with_none
  k_with "k_upd" => first | exact upd_sk (by assumption) (by assumption) | exact upd_hp (by assumption) (by assumption) | exact upd_tr (by assumption) (by assumption) | exact upd_xs (by assumption) (by assumption) | exact upd_dm (by assumption) (by assumption) | exact upd_ds (by assumption) (by assumption) | exact upd_pt (by assumption) (by assumption) (by assumption) (by assumption) | exact upd_nu (by assumption) (by assumption) (by assumption) (by assumption) | exact upd_kl (by assumption) (by assumption) (by assumption) (by assumption) (by assumption)
  k_with "k_ne" => (refine neN ?_; (try dsimp only); first | exact Nat.ne_of_gt (by with_reducible assumption) | exact Nat.ne_of_lt (by with_reducible assumption) | exact Nat.ne_of_gt (And.left (by with_reducible assumption)) | exact Nat.ne_of_gt (cj1 (by with_reducible assumption)) | exact Nat.ne_of_gt (cj2 (by with_reducible assumption)) | exact Nat.ne_of_gt (cj3 (by with_reducible assumption)) | exact Nat.ne_of_gt (cj4 (by with_reducible assumption)) | exact Nat.ne_of_gt (cj5 (by with_reducible assumption)) | exact Nat.ne_of_gt (cj6 (by with_reducible assumption)) | exact Nat.ne_of_gt (cj7 (by with_reducible assumption)) | exact Nat.ne_of_gt (cj8 (by with_reducible assumption)) | exact Nat.ne_of_gt (cj9 (by with_reducible assumption)) | exact Nat.ne_of_gt (cj10 (by with_reducible assumption)) | exact Nat.ne_of_gt (cj11 (by with_reducible assumption)) | exact Nat.ne_of_gt (cj12 (by with_reducible assumption)) | exact Nat.ne_of_gt (ce1 (by with_reducible assumption)) | exact Nat.ne_of_gt (ce2 (by with_reducible assumption)) | exact Nat.ne_of_gt (ce3 (by with_reducible assumption)) | exact Nat.ne_of_gt (ce4 (by with_reducible assumption)) | exact Nat.ne_of_gt (ce5 (by with_reducible assumption)) | exact Nat.ne_of_gt (ce6 (by with_reducible assumption)) | exact Nat.ne_of_gt (ce7 (by with_reducible assumption)) | exact Nat.ne_of_gt (ce8 (by with_reducible assumption)) | exact Nat.ne_of_gt (ce9 (by with_reducible assumption)) | exact Nat.ne_of_gt (ce10 (by with_reducible assumption)) | exact Nat.ne_of_gt (ce11 (by with_reducible assumption)) | exact Nat.ne_of_gt (ce12 (by with_reducible assumption)) | exact Nat.ne_of_lt (And.left (by with_reducible assumption)) | exact Nat.ne_of_lt (cj1 (by with_reducible assumption)) | exact Nat.ne_of_lt (cj2 (by with_reducible assumption)) | exact Nat.ne_of_lt (cj3 (by with_reducible assumption)) | exact Nat.ne_of_lt (cj4 (by with_reducible assumption)) | exact Nat.ne_of_lt (cj5 (by with_reducible assumption)) | exact Nat.ne_of_lt (cj6 (by with_reducible assumption)) | exact Nat.ne_of_lt (cj7 (by with_reducible assumption)) | exact Nat.ne_of_lt (cj8 (by with_reducible assumption)) | exact Nat.ne_of_lt (cj9 (by with_reducible assumption)) | exact Nat.ne_of_lt (cj10 (by with_reducible assumption)) | exact Nat.ne_of_lt (cj11 (by with_reducible assumption)) | exact Nat.ne_of_lt (cj12 (by with_reducible assumption)) | exact Nat.ne_of_lt (ce1 (by with_reducible assumption)) | exact Nat.ne_of_lt (ce2 (by with_reducible assumption)) | exact Nat.ne_of_lt (ce3 (by with_reducible assumption)) | exact Nat.ne_of_lt (ce4 (by with_reducible assumption)) | exact Nat.ne_of_lt (ce5 (by with_reducible assumption)) | exact Nat.ne_of_lt (ce6 (by with_reducible assumption)) | exact Nat.ne_of_lt (ce7 (by with_reducible assumption)) | exact Nat.ne_of_lt (ce8 (by with_reducible assumption)) | exact Nat.ne_of_lt (ce9 (by with_reducible assumption)) | exact Nat.ne_of_lt (ce10 (by with_reducible assumption)) | exact Nat.ne_of_lt (ce11 (by with_reducible assumption)) | exact Nat.ne_of_lt (ce12 (by with_reducible assumption)))
  k_with "k_all" => first | exact Off.m (by assumption) | exact Off.dm (by assumption) | exact Off.st (by assumption) | exact Off.ds (by assumption) | exact Off.hp (by assumption) | exact Off.sk (by assumption) | exact Off.tr (by assumption) | exact Off.xs (by assumption)
  k_with "call builtin:len" => (k_here; (with_reducible show wpAny _ _ (call (Value.builtin "len") [Value.ref _]) _ _ _); k_dflt (refine' len_lst (by k_asm) (by k_mem) (by first | omega | (dsimp only; omega)) ?_; k_whole); intro t' tk')
  k_with "subscriptTail" => (k_here; (with_reducible show wpAny _ _ (subscriptTail _ _ (Value.ref _) (Value.int _ _)) _ _ _); k_dflt (refine' item_lst (by k_asm) (by k_mem) (by first | assumption | exact Rel.s (by assumption) | exact Rel.h (by assumption) | exact Rel.x (by assumption)) (by first | assumption | exact At.cast (by assumption) (by omega)) (by first | omega | (dsimp only; omega)) ?_ (by with_unfolding_all rfl); k_whole); intro v' hv')
  k_with "subscriptTail" => (k_here; (with_reducible show wpAny _ _ (subscriptTail _ _ (Value.ref _) (Value.int _ _)) _ _ _); k_dflt (refine' itemI_lst (by k_asm) (by k_mem) (by first | assumption | exact Rel.s (by assumption) | exact Rel.h (by assumption) | exact Rel.x (by assumption)) (by first | assumption | exact At.cast (by assumption) (by omega)) (by first | omega | (dsimp only; omega)) ?_ (by with_unfolding_all rfl); k_whole); intro t')
  k_with "setItem ref" => (k_here; (with_reducible show wpAny _ _ (setItem (Value.ref _) (Value.int _ _) _) _ _ _); k_dflt (refine' set_lst (by k_asm) (by k_asm) (by k_upd) (by omega) (by omega) (by first | omega | (dsimp only; omega)) ?_; k_whole); intro h' F' N'; (try k_sweep))
  k_with "call builtin:list.append" => (k_here; (with_reducible show wpAny _ _ (call (Value.builtin _) [Value.ref _, _]) _ _ _); k_dflt (refine' append_lst (by k_asm) (by k_asm) (by k_upd) (by first | omega | (dsimp only; omega)) ?_; k_whole); intro h' F' N'; (try k_sweep))
  k_with "WhlIf" => first | refine WhlIf.yes (decide_eq_true (by omega)) ?_ | refine WhlIf.no (decide_eq_false (by omega)) ?_
  k_with "exec While Compare cons nil" => ((with_reducible rename MarkW => mk'); clear mk'; refine Stop.by ?_)
  k_with "exec For Name Name cons nil" => ((with_reducible rename MarkF => mk'); (rename Fr _ _ _ _ => lF'); (with_unfolding_all refine' For_invVF lF' (by exact rfl) (by exact rfl) ?_; k_whole))
  k_with "exec For Name Call cons nil" => ((with_reducible rename MarkF => mk'); (rename Fr _ _ _ _ => lF'); (with_unfolding_all refine' For_invVF lF' (by exact rfl) (by exact rfl) ?_; k_whole))
  k_with "pyIter ref" => ((with_reducible rename MarkF => mk'); clear mk'; refine Stop.by ?_)
  k_with "exec While Constant" => (k_here; k_dflt (refine whl_start 100 ?_))
  k_with "compareOp Eq" => (k_here; k_dflt (refine' eq_datB (by assumption) (by assumption) (by exact mem9s (by k_asm) (by repeat (first | assumption | refine immTail ?_)) (by k_asm) (by k_asm)) (by first | rfl | assumption) (by first | rfl | assumption) (by ktr_units) ?_; k_whole))
  k_with "subscriptTail" => (k_here; (with_reducible show wpAny _ _ (subscriptTail _ _ (Value.ref _) (Value.int _ _)) _ _ _); k_dflt (refine' tup9B (by assumption) (by exact mem9s (by k_asm) (by repeat (first | assumption | refine immTail ?_)) (by k_asm) (by k_asm)) (by decide) (by decide) (by rfl) (by rfl) ?_ (by with_unfolding_all rfl); k_whole))
  k_with "call builtin:list.pop" => (k_here; (with_reducible show wpAny _ _ (call (Value.builtin _) [Value.ref _]) _ _ _); k_dflt (refine' pop_lst (by k_asm) (by k_asm) (by k_upd) (by first | omega | (dsimp only; omega)) ?_; k_whole); intro h' F' N'; (try k_sweep))
  k_with "UnrEnd" => (refine unrLed (by k_asm) (by k_asm) (by assumption) ?_)
  k_with "k_mem" => first | with_reducible assumption | (refine memOf ?_; with_reducible assumption)
  k_with "k_all" => assumption
  trivial
theorem stack_put_set (B : Below A₀ base outer h₀) (F : Fr h₀ L s.heap m) (X : (hd.heap_39 w.params).In h₀) (N : News h₀ L s.heap (Led a k c σ rest)) (T : TopF mean mg mb h₀) (hk : cs.kind = .function) (hdp : dp + 1 < recursionLimit) (hun : un + 108 < cLine)
    (R : Rel k imm c σ) (hS : Sm σ) (hO : Off a rest) (hA : Ord a) (hI : ∀ p ∈ imm, p ∈ rest) {n : Int} {tn : Tok} {v : Value} {d : Dat} (h0 : 0 ≤ n) (h1 : n < σ.sk.length) (hv : DatIn (KV ++ imm) v d)
    (ret : ∀ c' h' tk', Fr h₀ L h' m → News h₀ L h' (Led a k c' { σ with sk := σ.sk.set n.toNat d } rest) → Rel k imm c' { σ with sk := σ.sk.set n.toNat d } → Q .none { s with heap := h', toks := tk' }) :
    wpAny (model prog w) (ktrTop dp un gd cn cs L ca ccd cl outer) (call (.ref 174) [.ref a.st, .int n tn, v]) Q E s := by
  obtain ⟨tp, tcp, te, tb, tb0, thb, tbb, vH, nH, vS, nS, vT, nT, vX, nX⟩ := c
  have dH := R.h; have dS := R.s; have dT := R.t; have dX := R.x
  have lH := dH.length; have lS := dS.length; have lT := dT.length; have lX := dX.length
  rw [List.length_map] at lT
  have hS' := hS
  have hA' := hA
  obtain ⟨zH, zS, zT, zX⟩ := hS
  obtain ⟨o1, o2, o3, o4, o5, o6, o7⟩ := id hA
  dsimp only at dH dS dT dX lH lS lT lX
  dsimp only [Led] at N
  refine wpAny_call ?_
  k_dflt ktr_enter
  k_steps
  all_goals ((rename Fr h₀ _ _ _ => qF); (rename News h₀ _ _ _ => qN); exact ret ⟨_, _, _, _, _, _, _, _, _, _, _, _, _, _, _⟩ _ _ qF qN ⟨dH, datSet dS hv _, dT, dX, R.c⟩)

theorem stack_put_add (B : Below A₀ base outer h₀) (F : Fr h₀ L s.heap m) (X : (hd.heap_39 w.params).In h₀) (N : News h₀ L s.heap (Led a k c σ rest)) (T : TopF mean mg mb h₀) (hk : cs.kind = .function) (hdp : dp + 1 < recursionLimit) (hun : un + 108 < cLine)
    (R : Rel k imm c σ) (hS : Sm σ) (hO : Off a rest) (hA : Ord a) (hI : ∀ p ∈ imm, p ∈ rest) {n : Int} {tn : Tok} {v : Value} {d : Dat} (h1 : n = σ.sk.length) (hv : DatIn (KV ++ imm) v d)
    (ret : ∀ c' h' tk', Fr h₀ L h' m → News h₀ L h' (Led a k c' { σ with sk := σ.sk ++ [d] } rest) → Rel k imm c' { σ with sk := σ.sk ++ [d] } → Q .none { s with heap := h', toks := tk' }) :
    wpAny (model prog w) (ktrTop dp un gd cn cs L ca ccd cl outer) (call (.ref 174) [.ref a.st, .int n tn, v]) Q E s := by
  obtain ⟨tp, tcp, te, tb, tb0, thb, tbb, vH, nH, vS, nS, vT, nT, vX, nX⟩ := c
  have dH := R.h; have dS := R.s; have dT := R.t; have dX := R.x
  have lH := dH.length; have lS := dS.length; have lT := dT.length; have lX := dX.length
  rw [List.length_map] at lT
  have hS' := hS
  have hA' := hA
  obtain ⟨zH, zS, zT, zX⟩ := hS
  obtain ⟨o1, o2, o3, o4, o5, o6, o7⟩ := id hA
  dsimp only at dH dS dT dX lH lS lT lX
  dsimp only [Led] at N
  refine wpAny_call ?_
  k_dflt ktr_enter
  k_steps
  all_goals ((rename Fr h₀ _ _ _ => qF); (rename News h₀ _ _ _ => qN); exact ret ⟨_, _, _, _, _, _, _, _, _, _, _, _, _, _, _⟩ _ _ qF qN ⟨dH, dS.append (.one hv), dT, dX, R.c⟩)

theorem set_x_spec (B : Below A₀ base outer h₀) (F : Fr h₀ L s.heap m) (X : (hd.heap_39 w.params).In h₀) (N : News h₀ L s.heap (Led a k c σ rest)) (T : TopF mean mg mb h₀) (hk : cs.kind = .function) (hdp : dp + 1 < recursionLimit) (hun : un + 108 < cLine)
    (R : Rel k imm c σ) (hS : Sm σ) (hO : Off a rest) (hA : Ord a) (hI : ∀ p ∈ imm, p ∈ rest) {n : Int} {tn : Tok} {v : Value} {d : Dat} (h0 : 0 ≤ n) (h1 : n < 6) (hv : DatIn (KV ++ imm) v d)
    (ret : ∀ c' h' tk', Fr h₀ L h' m → News h₀ L h' (Led a k c' { σ with x := σ.x.set n.toNat d } rest) → Rel k imm c' { σ with x := σ.x.set n.toNat d } → Q .none { s with heap := h', toks := tk' }) :
    wpAny (model prog w) (ktrTop dp un gd cn cs L ca ccd cl outer) (call (.ref 391) [.ref a.m, .int n tn, v]) Q E s := by
  obtain ⟨tp, tcp, te, tb, tb0, thb, tbb, vH, nH, vS, nS, vT, nT, vX, nX⟩ := c
  have dH := R.h; have dS := R.s; have dT := R.t; have dX := R.x
  have lH := dH.length; have lS := dS.length; have lT := dT.length; have lX := dX.length
  rw [List.length_map] at lT
  have hS' := hS
  have hA' := hA
  obtain ⟨zH, zS, zT, zX⟩ := hS
  obtain ⟨o1, o2, o3, o4, o5, o6, o7⟩ := id hA
  dsimp only at dH dS dT dX lH lS lT lX
  dsimp only [Led] at N
  refine wpAny_call ?_
  k_dflt ktr_enter
  k_steps
  all_goals ((rename Fr h₀ _ _ _ => qF); (rename News h₀ _ _ _ => qN); exact ret ⟨_, _, _, _, _, _, _, _, _, _, _, _, _, _, _⟩ _ _ qF qN ⟨dH, dS, dT, datSet dX hv _, R.c⟩)

theorem push_spec (B : Below A₀ base outer h₀) (F : Fr h₀ L s.heap m) (X : (hd.heap_39 w.params).In h₀) (N : News h₀ L s.heap (Led a k c σ rest)) (T : TopF mean mg mb h₀) (hk : cs.kind = .function) (hdp : dp + 1 < recursionLimit) (hun : un + 108 < cLine)
    (R : Rel k imm c σ) (hS : Sm σ) (hO : Off a rest) (hA : Ord a) (hI : ∀ p ∈ imm, p ∈ rest) {v : Value} {d : Dat} (hv : DatIn (KV ++ imm) v d)
    (ret : ∀ c' t h' tk', Fr h₀ L h' m → News h₀ L h' (Led a k c' { σ with hp := σ.hp ++ [d] } rest) → Rel k imm c' { σ with hp := σ.hp ++ [d] } → Q (.int (σ.hp.length : Int) t) { s with heap := h', toks := tk' }) :
    wpAny (model prog w) (ktrTop dp un gd cn cs L ca ccd cl outer) (call (.ref 97) [.ref a.st, v]) Q E s := by
  obtain ⟨tp, tcp, te, tb, tb0, thb, tbb, vH, nH, vS, nS, vT, nT, vX, nX⟩ := c
  have dH := R.h; have dS := R.s; have dT := R.t; have dX := R.x
  have lH := dH.length; have lS := dS.length; have lT := dT.length; have lX := dX.length
  rw [List.length_map] at lT
  have hS' := hS
  have hA' := hA
  obtain ⟨zH, zS, zT, zX⟩ := hS
  obtain ⟨o1, o2, o3, o4, o5, o6, o7⟩ := id hA
  dsimp only at dH dS dT dX lH lS lT lX
  dsimp only [Led] at N
  refine wpAny_call ?_
  k_dflt ktr_enter
  k_steps
  all_goals rw [← lH] at ret
  all_goals ((rename Fr h₀ _ _ _ => qF); (rename News h₀ _ _ _ => qN); exact ret ⟨_, _, _, _, _, _, _, _, _, _, _, _, _, _, _⟩ _ _ _ qF qN ⟨dH.append (.one hv), dS, dT, dX, R.c⟩)

end
end Mine
namespace Mine
theorem kw0_C3 : True := by
  k_with_none
  w_top off
  trivial
theorem fill3 : PySem.Challenge.rw_sa0158_01 = PySem.Challenge.rw_sa0158_01 ∧ hd.heap_39 = hd.heap_39 := by k_fill; exact ⟨rfl, rfl⟩
section
variable {prog : Program} {w : World} {mean : ExcName → Option Value} {mg mb : Str → Option Value} {dp un : Nat} {gd : Option (List Code)} {cn : Str} {cs : Scope} {ca : Addr} {ccd : Value} {cl : List (Str × Addr)} {outer : List Env} {A₀ : Around} {base h₀ : Heap} {L : Addr} {m : Str → Option Value} {s : Shared} {Q E : Value → Shared → Prop}
  {a : Adr} {k : Kon} {c : Con} {σ : W} {imm rest : List (Addr × Obj)}
theorem kw_C3_0 : True := by
  k_with_none
  k_with "k_upd" => first | exact upd_sk (by assumption) (by assumption) | exact upd_hp (by assumption) (by assumption) | exact upd_tr (by assumption) (by assumption) | exact upd_xs (by assumption) (by assumption) | exact upd_dm (by assumption) (by assumption) | exact upd_ds (by assumption) (by assumption) | exact upd_pt (by assumption) (by assumption) (by assumption) (by assumption) | exact upd_nu (by assumption) (by assumption) (by assumption) (by assumption) | exact upd_kl (by assumption) (by assumption) (by assumption) (by assumption) (by assumption)
  k_with "k_ne" => (refine neN ?_; (try dsimp only); first | exact Nat.ne_of_gt (by with_reducible assumption) | exact Nat.ne_of_lt (by with_reducible assumption) | exact Nat.ne_of_gt (And.left (by with_reducible assumption)) | exact Nat.ne_of_gt (cj1 (by with_reducible assumption)) | exact Nat.ne_of_gt (cj2 (by with_reducible assumption)) | exact Nat.ne_of_gt (cj3 (by with_reducible assumption)) | exact Nat.ne_of_gt (cj4 (by with_reducible assumption)) | exact Nat.ne_of_gt (cj5 (by with_reducible assumption)) | exact Nat.ne_of_gt (cj6 (by with_reducible assumption)) | exact Nat.ne_of_gt (cj7 (by with_reducible assumption)) | exact Nat.ne_of_gt (cj8 (by with_reducible assumption)) | exact Nat.ne_of_gt (cj9 (by with_reducible assumption)) | exact Nat.ne_of_gt (cj10 (by with_reducible assumption)) | exact Nat.ne_of_gt (cj11 (by with_reducible assumption)) | exact Nat.ne_of_gt (cj12 (by with_reducible assumption)) | exact Nat.ne_of_gt (ce1 (by with_reducible assumption)) | exact Nat.ne_of_gt (ce2 (by with_reducible assumption)) | exact Nat.ne_of_gt (ce3 (by with_reducible assumption)) | exact Nat.ne_of_gt (ce4 (by with_reducible assumption)) | exact Nat.ne_of_gt (ce5 (by with_reducible assumption)) | exact Nat.ne_of_gt (ce6 (by with_reducible assumption)) | exact Nat.ne_of_gt (ce7 (by with_reducible assumption)) | exact Nat.ne_of_gt (ce8 (by with_reducible assumption)) | exact Nat.ne_of_gt (ce9 (by with_reducible assumption)) | exact Nat.ne_of_gt (ce10 (by with_reducible assumption)) | exact Nat.ne_of_gt (ce11 (by with_reducible assumption)) | exact Nat.ne_of_gt (ce12 (by with_reducible assumption)) | exact Nat.ne_of_lt (And.left (by with_reducible assumption)) | exact Nat.ne_of_lt (cj1 (by with_reducible assumption)) | exact Nat.ne_of_lt (cj2 (by with_reducible assumption)) | exact Nat.ne_of_lt (cj3 (by with_reducible assumption)) | exact Nat.ne_of_lt (cj4 (by with_reducible assumption)) | exact Nat.ne_of_lt (cj5 (by with_reducible assumption)) | exact Nat.ne_of_lt (cj6 (by with_reducible assumption)) | exact Nat.ne_of_lt (cj7 (by with_reducible assumption)) | exact Nat.ne_of_lt (cj8 (by with_reducible assumption)) | exact Nat.ne_of_lt (cj9 (by with_reducible assumption)) | exact Nat.ne_of_lt (cj10 (by with_reducible assumption)) | exact Nat.ne_of_lt (cj11 (by with_reducible assumption)) | exact Nat.ne_of_lt (cj12 (by with_reducible assumption)) | exact Nat.ne_of_lt (ce1 (by with_reducible assumption)) | exact Nat.ne_of_lt (ce2 (by with_reducible assumption)) | exact Nat.ne_of_lt (ce3 (by with_reducible assumption)) | exact Nat.ne_of_lt (ce4 (by with_reducible assumption)) | exact Nat.ne_of_lt (ce5 (by with_reducible assumption)) | exact Nat.ne_of_lt (ce6 (by with_reducible assumption)) | exact Nat.ne_of_lt (ce7 (by with_reducible assumption)) | exact Nat.ne_of_lt (ce8 (by with_reducible assumption)) | exact Nat.ne_of_lt (ce9 (by with_reducible assumption)) | exact Nat.ne_of_lt (ce10 (by with_reducible assumption)) | exact Nat.ne_of_lt (ce11 (by with_reducible assumption)) | exact Nat.ne_of_lt (ce12 (by with_reducible assumption)))
  k_with "k_all" => first | exact Off.m (by assumption) | exact Off.dm (by assumption) | exact Off.st (by assumption) | exact Off.ds (by assumption) | exact Off.hp (by assumption) | exact Off.sk (by assumption) | exact Off.tr (by assumption) | exact Off.xs (by assumption)
  k_with "call builtin:len" => (k_here; (with_reducible show wpAny _ _ (call (Value.builtin "len") [Value.ref _]) _ _ _); k_dflt (refine' len_lst (by k_asm) (by k_mem) (by first | omega | (dsimp only; omega)) ?_; k_whole); intro t' tk')
  k_with "subscriptTail" => (k_here; (with_reducible show wpAny _ _ (subscriptTail _ _ (Value.ref _) (Value.int _ _)) _ _ _); k_dflt (refine' item_lst (by k_asm) (by k_mem) (by first | assumption | exact Rel.s (by assumption) | exact Rel.h (by assumption) | exact Rel.x (by assumption)) (by first | assumption | exact At.cast (by assumption) (by omega)) (by first | omega | (dsimp only; omega)) ?_ (by with_unfolding_all rfl); k_whole); intro v' hv')
  k_with "subscriptTail" => (k_here; (with_reducible show wpAny _ _ (subscriptTail _ _ (Value.ref _) (Value.int _ _)) _ _ _); k_dflt (refine' itemI_lst (by k_asm) (by k_mem) (by first | assumption | exact Rel.s (by assumption) | exact Rel.h (by assumption) | exact Rel.x (by assumption)) (by first | assumption | exact At.cast (by assumption) (by omega)) (by first | omega | (dsimp only; omega)) ?_ (by with_unfolding_all rfl); k_whole); intro t')
  k_with "setItem ref" => (k_here; (with_reducible show wpAny _ _ (setItem (Value.ref _) (Value.int _ _) _) _ _ _); k_dflt (refine' set_lst (by k_asm) (by k_asm) (by k_upd) (by omega) (by omega) (by first | omega | (dsimp only; omega)) ?_; k_whole); intro h' F' N'; (try k_sweep))
  k_with "call builtin:list.append" => (k_here; (with_reducible show wpAny _ _ (call (Value.builtin _) [Value.ref _, _]) _ _ _); k_dflt (refine' append_lst (by k_asm) (by k_asm) (by k_upd) (by first | omega | (dsimp only; omega)) ?_; k_whole); intro h' F' N'; (try k_sweep))
  k_with "WhlIf" => first | refine WhlIf.yes (decide_eq_true (by omega)) ?_ | refine WhlIf.no (decide_eq_false (by omega)) ?_
  k_with "exec While Compare cons nil" => ((with_reducible rename MarkW => mk'); clear mk'; refine Stop.by ?_)
  k_with "exec For Name Name cons nil" => ((with_reducible rename MarkF => mk'); (rename Fr _ _ _ _ => lF'); (with_unfolding_all refine' For_invVF lF' (by exact rfl) (by exact rfl) ?_; k_whole))
  k_with "exec For Name Call cons nil" => ((with_reducible rename MarkF => mk'); (rename Fr _ _ _ _ => lF'); (with_unfolding_all refine' For_invVF lF' (by exact rfl) (by exact rfl) ?_; k_whole))
  k_with "pyIter ref" => ((with_reducible rename MarkF => mk'); clear mk'; refine Stop.by ?_)
  k_with "exec While Constant" => (k_here; k_dflt (refine whl_start 100 ?_))
  k_with "compareOp Eq" => (k_here; k_dflt (refine' eq_datB (by assumption) (by assumption) (by exact mem9s (by k_asm) (by repeat (first | assumption | refine immTail ?_)) (by k_asm) (by k_asm)) (by first | rfl | assumption) (by first | rfl | assumption) (by ktr_units) ?_; k_whole))
  k_with "subscriptTail" => (k_here; (with_reducible show wpAny _ _ (subscriptTail _ _ (Value.ref _) (Value.int _ _)) _ _ _); k_dflt (refine' tup9B (by assumption) (by exact mem9s (by k_asm) (by repeat (first | assumption | refine immTail ?_)) (by k_asm) (by k_asm)) (by decide) (by decide) (by rfl) (by rfl) ?_ (by with_unfolding_all rfl); k_whole))
  k_with "call builtin:list.pop" => (k_here; (with_reducible show wpAny _ _ (call (Value.builtin _) [Value.ref _]) _ _ _); k_dflt (refine' pop_lst (by k_asm) (by k_asm) (by k_upd) (by first | omega | (dsimp only; omega)) ?_; k_whole); intro h' F' N'; (try k_sweep))
  k_with "UnrEnd" => (refine unrLed (by k_asm) (by k_asm) (by assumption) ?_)
  k_with "k_mem" => first | with_reducible assumption | (refine memOf ?_; with_reducible assumption)
  k_with "k_all" => assumption
  trivial
theorem top_zero (B : Below A₀ base outer h₀) (F : Fr h₀ L s.heap m) (X : (hd.heap_39 w.params).In h₀) (N : News h₀ L s.heap (Led a k c σ rest)) (T : TopF mean mg mb h₀) (hk : cs.kind = .function) (hdp : dp + 1 < recursionLimit) (hun : un + 108 < cLine)
    (R : Rel k imm c σ) (hS : Sm σ) (hO : Off a rest) (hA : Ord a) (hI : ∀ p ∈ imm, p ∈ rest) (h1 : σ.e ≤ σ.b) (h2 : σ.b < 0)
    (ret : ∀ t h' tk', Fr h₀ L h' m → News h₀ L h' (Led a k c σ rest) → Q (.int 0 t) { s with heap := h', toks := tk' }) :
    wpAny (model prog w) (ktrTop dp un gd cn cs L ca ccd cl outer) (call (.ref 433) [.ref a.m]) Q E s := by
  obtain ⟨tp, tcp, te, tb, tb0, thb, tbb, vH, nH, vS, nS, vT, nT, vX, nX⟩ := c
  have dH := R.h; have dS := R.s; have dT := R.t; have dX := R.x
  have lH := dH.length; have lS := dS.length; have lT := dT.length; have lX := dX.length
  rw [List.length_map] at lT
  have hS' := hS
  have hA' := hA
  obtain ⟨zH, zS, zT, zX⟩ := hS
  obtain ⟨o1, o2, o3, o4, o5, o6, o7⟩ := id hA
  dsimp only at dH dS dT dX lH lS lT lX
  dsimp only [Led] at N
  refine wpAny_call ?_
  k_dflt ktr_enter
  k_steps
  all_goals exact ret _ _ _ (by k_asm) (by k_asm)

theorem top_choice (B : Below A₀ base outer h₀) (F : Fr h₀ L s.heap m) (X : (hd.heap_39 w.params).In h₀) (N : News h₀ L s.heap (Led a k c σ rest)) (T : TopF mean mg mb h₀) (hk : cs.kind = .function) (hdp : dp + 1 < recursionLimit) (hun : un + 108 < cLine)
    (R : Rel k imm c σ) (hS : Sm σ) (hO : Off a rest) (hA : Ord a) (hI : ∀ p ∈ imm, p ∈ rest) {cnt : Int} (h1 : σ.e ≤ σ.b) (h2 : 0 ≤ σ.b) (h3 : At σ.sk σ.b (.int cnt))
    (ret : ∀ t h' tk', Fr h₀ L h' m → News h₀ L h' (Led a k c σ rest) → Q (.int (σ.b + cnt + 8) t) { s with heap := h', toks := tk' }) :
    wpAny (model prog w) (ktrTop dp un gd cn cs L ca ccd cl outer) (call (.ref 433) [.ref a.m]) Q E s := by
  obtain ⟨tp, tcp, te, tb, tb0, thb, tbb, vH, nH, vS, nS, vT, nT, vX, nX⟩ := c
  have dH := R.h; have dS := R.s; have dT := R.t; have dX := R.x
  have lH := dH.length; have lS := dS.length; have lT := dT.length; have lX := dX.length
  rw [List.length_map] at lT
  have hS' := hS
  have hA' := hA
  obtain ⟨zH, zS, zT, zX⟩ := hS
  obtain ⟨o1, o2, o3, o4, o5, o6, o7⟩ := id hA
  dsimp only at dH dS dT dX lH lS lT lX
  dsimp only [Led] at N
  refine wpAny_call ?_
  k_dflt ktr_enter
  k_steps
  all_goals exact ret _ _ _ (by k_asm) (by k_asm)

theorem top_env (B : Below A₀ base outer h₀) (F : Fr h₀ L s.heap m) (X : (hd.heap_39 w.params).In h₀) (N : News h₀ L s.heap (Led a k c σ rest)) (T : TopF mean mg mb h₀) (hk : cs.kind = .function) (hdp : dp + 1 < recursionLimit) (hun : un + 108 < cLine)
    (R : Rel k imm c σ) (hS : Sm σ) (hO : Off a rest) (hA : Ord a) (hI : ∀ p ∈ imm, p ∈ rest) (h1 : σ.b < σ.e) (h2 : 1 ≤ σ.cp) (h3 : σ.cp ≤ 3)
    (ret : ∀ t h' tk', Fr h₀ L h' m → News h₀ L h' (Led a k c σ rest) → Q (.int (σ.e + 2 + (σ.cp - 1)) t) { s with heap := h', toks := tk' }) :
    wpAny (model prog w) (ktrTop dp un gd cn cs L ca ccd cl outer) (call (.ref 433) [.ref a.m]) Q E s := by
  obtain ⟨tp, tcp, te, tb, tb0, thb, tbb, vH, nH, vS, nS, vT, nT, vX, nX⟩ := c
  have dH := R.h; have dS := R.s; have dT := R.t; have dX := R.x
  have lH := dH.length; have lS := dS.length; have lT := dT.length; have lX := dX.length
  rw [List.length_map] at lT
  have hS' := hS
  have hA' := hA
  obtain ⟨zH, zS, zT, zX⟩ := hS
  obtain ⟨o1, o2, o3, o4, o5, o6, o7⟩ := id hA
  dsimp only at dH dS dT dX lH lS lT lX
  dsimp only [Led] at N
  obtain ⟨la, lvs, ln, lq, lm, ld⟩ := datLst R.c
  injection lq with lq
  subst lq
  have lk : At [.tuple [.str (Str.ofString "call"), .int 0, .int 0], .tuple [.str (Str.ofString "call"), .int 0, .int 1], .tuple [.str (Str.ofString "call"), .int 0, .int 2]] (σ.cp - 1) (.tuple [.str (Str.ofString "call"), .int 0, .int (σ.cp - 1)]) := by
    refine ⟨by omega, ?_⟩
    have : σ.cp = 1 ∨ σ.cp = 2 ∨ σ.cp = 3 := by omega
    rcases this with e | e | e <;> rw [e] <;> rfl
  refine wpAny_call ?_
  k_dflt ktr_enter
  k_steps
  refine item9 (mem9s (by assumption) (by repeat (first | assumption | refine immTail ?_)) (by assumption) (by assumption)) lm ld lk (by decide) ?_ (by with_unfolding_all rfl)
  intro v hv
  obtain ⟨ta, tvs, tn, rfl, tm, td⟩ := datTup hv
  obtain ⟨x1, x2, x3, rfl, _, _, hx3⟩ := datThree td
  obtain ⟨t3, rfl⟩ := datTi hx3
  k_steps
  all_goals exact ret _ _ _ (by k_asm) (by k_asm)

theorem deref_int (B : Below A₀ base outer h₀) (F : Fr h₀ L s.heap m) (X : (hd.heap_39 w.params).In h₀) (N : News h₀ L s.heap (Led a k c σ rest)) (T : TopF mean mg mb h₀) (hk : cs.kind = .function) (hdp : dp + 1 < recursionLimit) (hun : un + 108 < cLine)
    (R : Rel k imm c σ) (hS : Sm σ) (hO : Off a rest) (hA : Ord a) (hI : ∀ p ∈ imm, p ∈ rest) {t : Addr} {n : Nat} {t1 t2 : Tok} {i : Int} (h1 : (t, ({ cls := .type "tuple", data := .seq [Value.int 5 t1, Value.int i t2].toArray n } : Obj)) ∈ KV ++ imm)
    (ret : ∀  h' tk', Fr h₀ L h' m → News h₀ L h' (Led a k c σ rest) → Q (.ref t) { s with heap := h', toks := tk' }) :
    wpAny (model prog w) (ktrTop dp un gd cn cs L ca ccd cl outer) (call (.ref 125) [.ref a.st, .ref t]) Q E s := by
  obtain ⟨tp, tcp, te, tb, tb0, thb, tbb, vH, nH, vS, nS, vT, nT, vX, nX⟩ := c
  have dH := R.h; have dS := R.s; have dT := R.t; have dX := R.x
  have lH := dH.length; have lS := dS.length; have lT := dT.length; have lX := dX.length
  rw [List.length_map] at lT
  have hS' := hS
  have hA' := hA
  obtain ⟨zH, zS, zT, zX⟩ := hS
  obtain ⟨o1, o2, o3, o4, o5, o6, o7⟩ := id hA
  dsimp only at dH dS dT dX lH lS lT lX
  dsimp only [Led] at N
  refine wpAny_call ?_
  k_dflt ktr_enter
  k_steps
  all_goals exact ret _ _ (by k_asm) (by k_asm)

theorem is_unbound_spec (B : Below A₀ base outer h₀) (F : Fr h₀ L s.heap m) (X : (hd.heap_39 w.params).In h₀) (N : News h₀ L s.heap (Led a k c σ rest)) (T : TopF mean mg mb h₀) (hk : cs.kind = .function) (hdp : dp + 1 < recursionLimit) (hun : un + 108 < cLine)
    (R : Rel k imm c σ) (hS : Sm σ) (hO : Off a rest) (hA : Ord a) (hI : ∀ p ∈ imm, p ∈ rest) {t : Addr} {n : Nat} {t1 t2 : Tok} {i : Int} {d : Dat} (h1 : (t, ({ cls := .type "tuple", data := .seq [Value.int 0 t1, Value.int i t2].toArray n } : Obj)) ∈ KV ++ imm) (h2 : At σ.hp i d) (h3 : kqdOk 8 d = true)
    (ret : ∀  h' tk', Fr h₀ L h' m → News h₀ L h' (Led a k c σ rest) → Q (.bool (@decide (d = cell 0 i) (Classical.propDecidable _))) { s with heap := h', toks := tk' }) :
    wpAny (model prog w) (ktrTop dp un gd cn cs L ca ccd cl outer) (call (.ref 132) [.ref a.st, .ref t]) Q E s := by
  obtain ⟨tp, tcp, te, tb, tb0, thb, tbb, vH, nH, vS, nS, vT, nT, vX, nX⟩ := c
  have dH := R.h; have dS := R.s; have dT := R.t; have dX := R.x
  have lH := dH.length; have lS := dS.length; have lT := dT.length; have lX := dX.length
  rw [List.length_map] at lT
  have hS' := hS
  have hA' := hA
  obtain ⟨zH, zS, zT, zX⟩ := hS
  obtain ⟨o1, o2, o3, o4, o5, o6, o7⟩ := id hA
  dsimp only at dH dS dT dX lH lS lT lX
  dsimp only [Led] at N
  have hc : DatIn (KV ++ imm) (.ref t) (cell 0 i) := DatIn.tuple h1 (.cons (.int _ _) (.cons (.int _ _) .nil))
  refine wpAny_call ?_
  k_dflt ktr_enter
  k_steps
  all_goals exact ret _ _ (by k_asm) (by k_asm)

theorem bind_spec (B : Below A₀ base outer h₀) (F : Fr h₀ L s.heap m) (X : (hd.heap_39 w.params).In h₀) (N : News h₀ L s.heap (Led a k c σ rest)) (T : TopF mean mg mb h₀) (hk : cs.kind = .function) (hdp : dp + 1 < recursionLimit) (hun : un + 108 < cLine)
    (R : Rel k imm c σ) (hS : Sm σ) (hO : Off a rest) (hA : Ord a) (hI : ∀ p ∈ imm, p ∈ rest) {t : Addr} {v : Value} {n : Nat} {t1 t2 : Tok} {i : Int} {d : Dat} (h1 : (t, ({ cls := .type "tuple", data := .seq [Value.int 0 t1, Value.int i t2].toArray n } : Obj)) ∈ KV ++ imm) (h2 : 0 ≤ i) (h3 : i < σ.hp.length) (hv : DatIn (KV ++ imm) v d)
    (ret : ∀ c' h' tk', Fr h₀ L h' m → News h₀ L h' (Led a k c' { σ with hp := σ.hp.set i.toNat d, tr := if i < σ.hb then σ.tr ++ [i] else σ.tr } rest) → Rel k imm c' { σ with hp := σ.hp.set i.toNat d, tr := if i < σ.hb then σ.tr ++ [i] else σ.tr } → Q .none { s with heap := h', toks := tk' }) :
    wpAny (model prog w) (ktrTop dp un gd cn cs L ca ccd cl outer) (call (.ref 139) [.ref a.st, .ref t, v]) Q E s := by
  obtain ⟨tp, tcp, te, tb, tb0, thb, tbb, vH, nH, vS, nS, vT, nT, vX, nX⟩ := c
  have dH := R.h; have dS := R.s; have dT := R.t; have dX := R.x
  have lH := dH.length; have lS := dS.length; have lT := dT.length; have lX := dX.length
  rw [List.length_map] at lT
  have hS' := hS
  have hA' := hA
  obtain ⟨zH, zS, zT, zX⟩ := hS
  obtain ⟨o1, o2, o3, o4, o5, o6, o7⟩ := id hA
  dsimp only at dH dS dT dX lH lS lT lX
  dsimp only [Led] at N
  refine wpAny_call ?_
  k_dflt ktr_enter
  k_steps
  all_goals first
    | ((have hlt : i < σ.hb := by omega); (simp only [if_pos hlt] at ret); (rename Fr h₀ _ _ _ => qF); (rename News h₀ _ _ _ => qN); exact ret ⟨_, _, _, _, _, _, _, _, _, _, _, _, _, _, _⟩ _ _ qF qN ⟨datSet dH hv _, dS, (by rw [List.map_append]; exact dT.append (.one (.int _ _))), dX, R.c⟩)
    | ((have hlt : ¬ i < σ.hb := by omega); (simp only [if_neg hlt] at ret); (rename Fr h₀ _ _ _ => qF); (rename News h₀ _ _ _ => qN); exact ret ⟨_, _, _, _, _, _, _, _, _, _, _, _, _, _, _⟩ _ _ qF qN ⟨datSet dH hv _, dS, dT, dX, R.c⟩)

end
end Mine
namespace Mine
theorem kw0_C4 : True := by
  k_with_none
  w_top off
  trivial
theorem fill4 : PySem.Challenge.rw_sa0158_01 = PySem.Challenge.rw_sa0158_01 ∧ hd.heap_39 = hd.heap_39 := by k_fill; exact ⟨rfl, rfl⟩
section
variable {prog : Program} {w : World} {mean : ExcName → Option Value} {mg mb : Str → Option Value} {dp un : Nat} {gd : Option (List Code)} {cn : Str} {cs : Scope} {ca : Addr} {ccd : Value} {cl : List (Str × Addr)} {outer : List Env} {A₀ : Around} {base h₀ : Heap} {L : Addr} {m : Str → Option Value} {s : Shared} {Q E : Value → Shared → Prop}
  {a : Adr} {k : Kon} {c : Con} {σ : W} {imm rest : List (Addr × Obj)}
theorem kw_C4_0 : True := by
  k_with_none
  k_with "k_upd" => first | exact upd_sk (by assumption) (by assumption) | exact upd_hp (by assumption) (by assumption) | exact upd_tr (by assumption) (by assumption) | exact upd_xs (by assumption) (by assumption) | exact upd_dm (by assumption) (by assumption) | exact upd_ds (by assumption) (by assumption) | exact upd_pt (by assumption) (by assumption) (by assumption) (by assumption) | exact upd_nu (by assumption) (by assumption) (by assumption) (by assumption) | exact upd_kl (by assumption) (by assumption) (by assumption) (by assumption) (by assumption)
  k_with "k_ne" => (refine neN ?_; (try dsimp only); first | exact Nat.ne_of_gt (by with_reducible assumption) | exact Nat.ne_of_lt (by with_reducible assumption) | exact Nat.ne_of_gt (And.left (by with_reducible assumption)) | exact Nat.ne_of_gt (cj1 (by with_reducible assumption)) | exact Nat.ne_of_gt (cj2 (by with_reducible assumption)) | exact Nat.ne_of_gt (cj3 (by with_reducible assumption)) | exact Nat.ne_of_gt (cj4 (by with_reducible assumption)) | exact Nat.ne_of_gt (cj5 (by with_reducible assumption)) | exact Nat.ne_of_gt (cj6 (by with_reducible assumption)) | exact Nat.ne_of_gt (cj7 (by with_reducible assumption)) | exact Nat.ne_of_gt (cj8 (by with_reducible assumption)) | exact Nat.ne_of_gt (cj9 (by with_reducible assumption)) | exact Nat.ne_of_gt (cj10 (by with_reducible assumption)) | exact Nat.ne_of_gt (cj11 (by with_reducible assumption)) | exact Nat.ne_of_gt (cj12 (by with_reducible assumption)) | exact Nat.ne_of_gt (ce1 (by with_reducible assumption)) | exact Nat.ne_of_gt (ce2 (by with_reducible assumption)) | exact Nat.ne_of_gt (ce3 (by with_reducible assumption)) | exact Nat.ne_of_gt (ce4 (by with_reducible assumption)) | exact Nat.ne_of_gt (ce5 (by with_reducible assumption)) | exact Nat.ne_of_gt (ce6 (by with_reducible assumption)) | exact Nat.ne_of_gt (ce7 (by with_reducible assumption)) | exact Nat.ne_of_gt (ce8 (by with_reducible assumption)) | exact Nat.ne_of_gt (ce9 (by with_reducible assumption)) | exact Nat.ne_of_gt (ce10 (by with_reducible assumption)) | exact Nat.ne_of_gt (ce11 (by with_reducible assumption)) | exact Nat.ne_of_gt (ce12 (by with_reducible assumption)) | exact Nat.ne_of_lt (And.left (by with_reducible assumption)) | exact Nat.ne_of_lt (cj1 (by with_reducible assumption)) | exact Nat.ne_of_lt (cj2 (by with_reducible assumption)) | exact Nat.ne_of_lt (cj3 (by with_reducible assumption)) | exact Nat.ne_of_lt (cj4 (by with_reducible assumption)) | exact Nat.ne_of_lt (cj5 (by with_reducible assumption)) | exact Nat.ne_of_lt (cj6 (by with_reducible assumption)) | exact Nat.ne_of_lt (cj7 (by with_reducible assumption)) | exact Nat.ne_of_lt (cj8 (by with_reducible assumption)) | exact Nat.ne_of_lt (cj9 (by with_reducible assumption)) | exact Nat.ne_of_lt (cj10 (by with_reducible assumption)) | exact Nat.ne_of_lt (cj11 (by with_reducible assumption)) | exact Nat.ne_of_lt (cj12 (by with_reducible assumption)) | exact Nat.ne_of_lt (ce1 (by with_reducible assumption)) | exact Nat.ne_of_lt (ce2 (by with_reducible assumption)) | exact Nat.ne_of_lt (ce3 (by with_reducible assumption)) | exact Nat.ne_of_lt (ce4 (by with_reducible assumption)) | exact Nat.ne_of_lt (ce5 (by with_reducible assumption)) | exact Nat.ne_of_lt (ce6 (by with_reducible assumption)) | exact Nat.ne_of_lt (ce7 (by with_reducible assumption)) | exact Nat.ne_of_lt (ce8 (by with_reducible assumption)) | exact Nat.ne_of_lt (ce9 (by with_reducible assumption)) | exact Nat.ne_of_lt (ce10 (by with_reducible assumption)) | exact Nat.ne_of_lt (ce11 (by with_reducible assumption)) | exact Nat.ne_of_lt (ce12 (by with_reducible assumption)))
  k_with "k_all" => first | exact Off.m (by assumption) | exact Off.dm (by assumption) | exact Off.st (by assumption) | exact Off.ds (by assumption) | exact Off.hp (by assumption) | exact Off.sk (by assumption) | exact Off.tr (by assumption) | exact Off.xs (by assumption)
  k_with "call builtin:len" => (k_here; (with_reducible show wpAny _ _ (call (Value.builtin "len") [Value.ref _]) _ _ _); k_dflt (refine' len_lst (by k_asm) (by k_mem) (by first | omega | (dsimp only; omega)) ?_; k_whole); intro t' tk')
  k_with "subscriptTail" => (k_here; (with_reducible show wpAny _ _ (subscriptTail _ _ (Value.ref _) (Value.int _ _)) _ _ _); k_dflt (refine' item_lst (by k_asm) (by k_mem) (by first | assumption | exact Rel.s (by assumption) | exact Rel.h (by assumption) | exact Rel.x (by assumption)) (by first | assumption | exact At.cast (by assumption) (by omega)) (by first | omega | (dsimp only; omega)) ?_ (by with_unfolding_all rfl); k_whole); intro v' hv')
  k_with "subscriptTail" => (k_here; (with_reducible show wpAny _ _ (subscriptTail _ _ (Value.ref _) (Value.int _ _)) _ _ _); k_dflt (refine' itemI_lst (by k_asm) (by k_mem) (by first | assumption | exact Rel.s (by assumption) | exact Rel.h (by assumption) | exact Rel.x (by assumption)) (by first | assumption | exact At.cast (by assumption) (by omega)) (by first | omega | (dsimp only; omega)) ?_ (by with_unfolding_all rfl); k_whole); intro t')
  k_with "setItem ref" => (k_here; (with_reducible show wpAny _ _ (setItem (Value.ref _) (Value.int _ _) _) _ _ _); k_dflt (refine' set_lst (by k_asm) (by k_asm) (by k_upd) (by omega) (by omega) (by first | omega | (dsimp only; omega)) ?_; k_whole); intro h' F' N'; (try k_sweep))
  k_with "call builtin:list.append" => (k_here; (with_reducible show wpAny _ _ (call (Value.builtin _) [Value.ref _, _]) _ _ _); k_dflt (refine' append_lst (by k_asm) (by k_asm) (by k_upd) (by first | omega | (dsimp only; omega)) ?_; k_whole); intro h' F' N'; (try k_sweep))
  k_with "WhlIf" => first | refine WhlIf.yes (decide_eq_true (by omega)) ?_ | refine WhlIf.no (decide_eq_false (by omega)) ?_
  k_with "exec While Compare cons nil" => ((with_reducible rename MarkW => mk'); clear mk'; refine Stop.by ?_)
  k_with "exec For Name Name cons nil" => ((with_reducible rename MarkF => mk'); (rename Fr _ _ _ _ => lF'); (with_unfolding_all refine' For_invVF lF' (by exact rfl) (by exact rfl) ?_; k_whole))
  k_with "exec For Name Call cons nil" => ((with_reducible rename MarkF => mk'); (rename Fr _ _ _ _ => lF'); (with_unfolding_all refine' For_invVF lF' (by exact rfl) (by exact rfl) ?_; k_whole))
  k_with "pyIter ref" => ((with_reducible rename MarkF => mk'); clear mk'; refine Stop.by ?_)
  k_with "exec While Constant" => (k_here; k_dflt (refine whl_start 100 ?_))
  k_with "compareOp Eq" => (k_here; k_dflt (refine' eq_datB (by assumption) (by assumption) (by exact mem9s (by k_asm) (by repeat (first | assumption | refine immTail ?_)) (by k_asm) (by k_asm)) (by first | rfl | assumption) (by first | rfl | assumption) (by ktr_units) ?_; k_whole))
  k_with "subscriptTail" => (k_here; (with_reducible show wpAny _ _ (subscriptTail _ _ (Value.ref _) (Value.int _ _)) _ _ _); k_dflt (refine' tup9B (by assumption) (by exact mem9s (by k_asm) (by repeat (first | assumption | refine immTail ?_)) (by k_asm) (by k_asm)) (by decide) (by decide) (by rfl) (by rfl) ?_ (by with_unfolding_all rfl); k_whole))
  k_with "call builtin:list.pop" => (k_here; (with_reducible show wpAny _ _ (call (Value.builtin _) [Value.ref _]) _ _ _); k_dflt (refine' pop_lst (by k_asm) (by k_asm) (by k_upd) (by first | omega | (dsimp only; omega)) ?_; k_whole); intro h' F' N'; (try k_sweep))
  k_with "UnrEnd" => (refine unrLed (by k_asm) (by k_asm) (by assumption) ?_)
  k_with "k_mem" => first | with_reducible assumption | (refine memOf ?_; with_reducible assumption)
  k_with "k_all" => assumption
  trivial
theorem stack_put_spec (B : Below A₀ base outer h₀) (F : Fr h₀ L s.heap m) (X : (hd.heap_39 w.params).In h₀) (N : News h₀ L s.heap (Led a k c σ rest)) (T : TopF mean mg mb h₀) (hk : cs.kind = .function) (hdp : dp + 1 < recursionLimit) (hun : un + 108 < cLine)
    (R : Rel k imm c σ) (hS : Sm σ) (hO : Off a rest) (hA : Ord a) (hI : ∀ p ∈ imm, p ∈ rest) {n : Int} {tn : Tok} {v : Value} {d : Dat} (h0 : 0 ≤ n) (h1 : n ≤ σ.sk.length) (hv : DatIn (KV ++ imm) v d)
    (ret : ∀ c' h' tk', Fr h₀ L h' m → News h₀ L h' (Led a k c' { σ with sk := segS σ.sk n.toNat [d] } rest) → Rel k imm c' { σ with sk := segS σ.sk n.toNat [d] } → Q .none { s with heap := h', toks := tk' }) :
    wpAny (model prog w) (ktrTop dp un gd cn cs L ca ccd cl outer) (call (.ref 174) [.ref a.st, .int n tn, v]) Q E s := by
  by_cases q : n < σ.sk.length
  · refine stack_put_set B F X N T hk hdp hun R hS hO hA hI h0 q hv fun c' h' tk' F' N' R' => ?_
    rw [setSeg (show n.toNat < σ.sk.length by omega)] at N' R'
    exact ret c' h' tk' F' N' R'
  · have q' : n = σ.sk.length := by omega
    refine stack_put_add B F X N T hk hdp hun R hS hO hA hI q' hv fun c' h' tk' F' N' R' => ?_
    rw [addSeg, show σ.sk.length = n.toNat by omega] at N' R'
    exact ret c' h' tk' F' N' R'

theorem stack_put_seg {S seg : List Dat} {p : Nat} (B : Below A₀ base outer h₀) (F : Fr h₀ L s.heap m) (X : (hd.heap_39 w.params).In h₀) (N : News h₀ L s.heap (Led a k c { σ with sk := segS S p seg } rest)) (T : TopF mean mg mb h₀) (hk : cs.kind = .function) (hdp : dp + 1 < recursionLimit) (hun : un + 108 < cLine)
    (R : Rel k imm c { σ with sk := segS S p seg }) (hS : Sm σ) (hO : Off a rest) (hA : Ord a) (hI : ∀ p ∈ imm, p ∈ rest) {n : Int} {tn : Tok} {v : Value} {d : Dat} (hp : p ≤ S.length) (hS2 : S.length ≤ 3900) (hseg : seg.length ≤ 50) (h0 : n = (p : Int) + (seg.length : Int)) (hv : DatIn (KV ++ imm) v d)
    (ret : ∀ c' h' tk', Fr h₀ L h' m → News h₀ L h' (Led a k c' { σ with sk := segS S p (seg ++ [d]) } rest) → Rel k imm c' { σ with sk := segS S p (seg ++ [d]) } → Q .none { s with heap := h', toks := tk' }) :
    wpAny (model prog w) (ktrTop dp un gd cn cs L ca ccd cl outer) (call (.ref 174) [.ref a.st, .int n tn, v]) Q E s := by
  refine stack_put_spec (σ := { σ with sk := segS S p seg }) B F X N T hk hdp hun R ⟨hS.h, by have := segLenEq (seg := seg) hp; dsimp only; omega, hS.t, hS.x⟩ hO hA hI (by omega) (by have := segLen (seg := seg) hp; dsimp only; omega) hv fun c' h' tk' F' N' R' => ?_
  have e : n.toNat = p + seg.length := by omega
  dsimp only at N' R'
  rw [e, segSeg hp] at N' R'
  exact ret c' h' tk' F' N' R'

theorem top_spec (B : Below A₀ base outer h₀) (F : Fr h₀ L s.heap m) (X : (hd.heap_39 w.params).In h₀) (N : News h₀ L s.heap (Led a k c σ rest)) (T : TopF mean mg mb h₀) (hk : cs.kind = .function) (hdp : dp + 1 < recursionLimit) (hun : un + 108 < cLine)
    (R : Rel k imm c σ) (hS : Sm σ) (hO : Off a rest) (hA : Ord a) (hI : ∀ p ∈ imm, p ∈ rest) {n : Int} (h1 : IsTop σ n)
    (ret : ∀ t h' tk', Fr h₀ L h' m → News h₀ L h' (Led a k c σ rest) → Q (.int n t) { s with heap := h', toks := tk' }) :
    wpAny (model prog w) (ktrTop dp un gd cn cs L ca ccd cl outer) (call (.ref 433) [.ref a.m]) Q E s := by
  rcases h1 with ⟨h1, h2, h3, rfl⟩ | ⟨h1, h2, cnt, h3, rfl⟩ | ⟨h1, h2, rfl⟩
  · exact top_env B F X N T hk hdp hun R hS hO hA hI h1 h2 h3 ret
  · exact top_choice B F X N T hk hdp hun R hS hO hA hI h1 h2 h3 ret
  · exact top_zero B F X N T hk hdp hun R hS hO hA hI h1 h2 ret

theorem new_var_spec (B : Below A₀ base outer h₀) (F : Fr h₀ L s.heap m) (X : (hd.heap_39 w.params).In h₀) (N : News h₀ L s.heap (Led a k c σ rest)) (T : TopF mean mg mb h₀) (hk : cs.kind = .function) (hdp : dp + 2 < recursionLimit) (hun : un + 116 < cLine)
    (R : Rel k imm c σ) (hS : Sm σ) (hO : Off a rest) (hA : Ord a) (hI : ∀ p ∈ imm, p ∈ rest)
    (ret : ∀ c' t t1 t2 h' tk', Fr h₀ L h' m → News h₀ L h' (Led a k c' { σ with hp := σ.hp ++ [cell 0 σ.hp.length] } ((t, tupO 0 σ.hp.length t1 t2 0) :: rest)) → Rel k ((t, tupO 0 σ.hp.length t1 t2 0) :: imm) c' { σ with hp := σ.hp ++ [cell 0 σ.hp.length] } → Adds a rest [(t, tupO 0 σ.hp.length t1 t2 0)] → Q (.ref t) { s with heap := h', toks := tk' }) :
    wpAny (model prog w) (ktrTop dp un gd cn cs L ca ccd cl outer) (call (.ref 104) [.ref a.st]) Q E s := by
  obtain ⟨tp, tcp, te, tb, tb0, thb, tbb, vH, nH, vS, nS, vT, nT, vX, nX⟩ := c
  have dH := R.h; have dS := R.s; have dT := R.t; have dX := R.x
  have lH := dH.length; have lS := dS.length; have lT := dT.length; have lX := dX.length
  rw [List.length_map] at lT
  have hS' := hS
  have hA' := hA
  obtain ⟨zH, zS, zT, zX⟩ := hS
  obtain ⟨o1, o2, o3, o4, o5, o6, o7⟩ := id hA
  dsimp only at dH dS dT dX lH lS lT lX
  dsimp only [Led] at N
  refine wpAny_call ?_
  k_dflt ktr_enter
  k_steps
  (rename Fr _ _ _ _ => F1); (rename News _ _ _ _ => N1)
  have hN := fun o => addsOne (o := o) (rest := rest) (k := k) (c := ⟨tp, tcp, te, tb, tb0, thb, tbb, vH, nH, vS, nS, vT, nT, vX, nX⟩) (σ := σ) (allLt_all (by assumption))
  rw [lH] at N1
  refine push_spec (imm := (_, tupO 0 (σ.hp.length : Int) _ _ 0) :: imm) (rest := (_, tupO 0 (σ.hp.length : Int) _ _ 0) :: rest) (c := ⟨tp, tcp, te, tb, tb0, thb, tbb, vH, nH, vS, nS, vT, nT, vX, nX⟩) (d := cell 0 σ.hp.length) (by k_asm) F1 (by k_asm) (newsSub N1 (by kqd_sub)) (by k_asm) rfl (by ktr_room) (by ktr_units) (relMono R (fun p hp => List.Mem.tail _ hp)) hS' (offApp (hN _).off hO) hA' (immCons hI) (DatIn.tuple (List.mem_append.mpr (.inr (List.Mem.head _))) (.cons (.int _ _) (.cons (.int _ _) .nil))) ?_
  intro c' t' h' tk' F' N' R'
  k_steps
  all_goals ((rename Fr h₀ _ _ _ => qF); (rename News h₀ _ _ _ => qN); exact ret _ _ _ _ _ _ qF qN R' (hN _))

end
end Mine
namespace Mine
theorem kw0_C7 : True := by
  k_with_none
  w_top off
  trivial
theorem fill7 : PySem.Challenge.rw_sa0158_01 = PySem.Challenge.rw_sa0158_01 ∧ hd.heap_39 = hd.heap_39 := by k_fill; exact ⟨rfl, rfl⟩
section
variable {prog : Program} {w : World} {mean : ExcName → Option Value} {mg mb : Str → Option Value} {dp un : Nat} {gd : Option (List Code)} {cn : Str} {cs : Scope} {ca : Addr} {ccd : Value} {cl : List (Str × Addr)} {outer : List Env} {A₀ : Around} {base h₀ : Heap} {L : Addr} {m : Str → Option Value} {s : Shared} {Q E : Value → Shared → Prop}
  {a : Adr} {k : Kon} {c : Con} {σ : W} {imm rest : List (Addr × Obj)}
theorem kw_C7_0 : True := by
  k_with_none
  k_with "k_upd" => first | exact upd_sk (by assumption) (by assumption) | exact upd_hp (by assumption) (by assumption) | exact upd_tr (by assumption) (by assumption) | exact upd_xs (by assumption) (by assumption) | exact upd_dm (by assumption) (by assumption) | exact upd_ds (by assumption) (by assumption) | exact upd_pt (by assumption) (by assumption) (by assumption) (by assumption) | exact upd_nu (by assumption) (by assumption) (by assumption) (by assumption) | exact upd_kl (by assumption) (by assumption) (by assumption) (by assumption) (by assumption)
  k_with "k_ne" => (refine neN ?_; (try dsimp only); first | exact Nat.ne_of_gt (by with_reducible assumption) | exact Nat.ne_of_lt (by with_reducible assumption) | exact Nat.ne_of_gt (And.left (by with_reducible assumption)) | exact Nat.ne_of_gt (cj1 (by with_reducible assumption)) | exact Nat.ne_of_gt (cj2 (by with_reducible assumption)) | exact Nat.ne_of_gt (cj3 (by with_reducible assumption)) | exact Nat.ne_of_gt (cj4 (by with_reducible assumption)) | exact Nat.ne_of_gt (cj5 (by with_reducible assumption)) | exact Nat.ne_of_gt (cj6 (by with_reducible assumption)) | exact Nat.ne_of_gt (cj7 (by with_reducible assumption)) | exact Nat.ne_of_gt (cj8 (by with_reducible assumption)) | exact Nat.ne_of_gt (cj9 (by with_reducible assumption)) | exact Nat.ne_of_gt (cj10 (by with_reducible assumption)) | exact Nat.ne_of_gt (cj11 (by with_reducible assumption)) | exact Nat.ne_of_gt (cj12 (by with_reducible assumption)) | exact Nat.ne_of_gt (ce1 (by with_reducible assumption)) | exact Nat.ne_of_gt (ce2 (by with_reducible assumption)) | exact Nat.ne_of_gt (ce3 (by with_reducible assumption)) | exact Nat.ne_of_gt (ce4 (by with_reducible assumption)) | exact Nat.ne_of_gt (ce5 (by with_reducible assumption)) | exact Nat.ne_of_gt (ce6 (by with_reducible assumption)) | exact Nat.ne_of_gt (ce7 (by with_reducible assumption)) | exact Nat.ne_of_gt (ce8 (by with_reducible assumption)) | exact Nat.ne_of_gt (ce9 (by with_reducible assumption)) | exact Nat.ne_of_gt (ce10 (by with_reducible assumption)) | exact Nat.ne_of_gt (ce11 (by with_reducible assumption)) | exact Nat.ne_of_gt (ce12 (by with_reducible assumption)) | exact Nat.ne_of_lt (And.left (by with_reducible assumption)) | exact Nat.ne_of_lt (cj1 (by with_reducible assumption)) | exact Nat.ne_of_lt (cj2 (by with_reducible assumption)) | exact Nat.ne_of_lt (cj3 (by with_reducible assumption)) | exact Nat.ne_of_lt (cj4 (by with_reducible assumption)) | exact Nat.ne_of_lt (cj5 (by with_reducible assumption)) | exact Nat.ne_of_lt (cj6 (by with_reducible assumption)) | exact Nat.ne_of_lt (cj7 (by with_reducible assumption)) | exact Nat.ne_of_lt (cj8 (by with_reducible assumption)) | exact Nat.ne_of_lt (cj9 (by with_reducible assumption)) | exact Nat.ne_of_lt (cj10 (by with_reducible assumption)) | exact Nat.ne_of_lt (cj11 (by with_reducible assumption)) | exact Nat.ne_of_lt (cj12 (by with_reducible assumption)) | exact Nat.ne_of_lt (ce1 (by with_reducible assumption)) | exact Nat.ne_of_lt (ce2 (by with_reducible assumption)) | exact Nat.ne_of_lt (ce3 (by with_reducible assumption)) | exact Nat.ne_of_lt (ce4 (by with_reducible assumption)) | exact Nat.ne_of_lt (ce5 (by with_reducible assumption)) | exact Nat.ne_of_lt (ce6 (by with_reducible assumption)) | exact Nat.ne_of_lt (ce7 (by with_reducible assumption)) | exact Nat.ne_of_lt (ce8 (by with_reducible assumption)) | exact Nat.ne_of_lt (ce9 (by with_reducible assumption)) | exact Nat.ne_of_lt (ce10 (by with_reducible assumption)) | exact Nat.ne_of_lt (ce11 (by with_reducible assumption)) | exact Nat.ne_of_lt (ce12 (by with_reducible assumption)))
  k_with "k_all" => first | exact Off.m (by assumption) | exact Off.dm (by assumption) | exact Off.st (by assumption) | exact Off.ds (by assumption) | exact Off.hp (by assumption) | exact Off.sk (by assumption) | exact Off.tr (by assumption) | exact Off.xs (by assumption)
  k_with "call builtin:len" => (k_here; (with_reducible show wpAny _ _ (call (Value.builtin "len") [Value.ref _]) _ _ _); k_dflt (refine' len_lst (by k_asm) (by k_mem) (by first | omega | (dsimp only; omega)) ?_; k_whole); intro t' tk')
  k_with "subscriptTail" => (k_here; (with_reducible show wpAny _ _ (subscriptTail _ _ (Value.ref _) (Value.int _ _)) _ _ _); k_dflt (refine' item_lst (by k_asm) (by k_mem) (by first | assumption | exact Rel.s (by assumption) | exact Rel.h (by assumption) | exact Rel.x (by assumption)) (by first | assumption | exact At.cast (by assumption) (by omega)) (by first | omega | (dsimp only; omega)) ?_ (by with_unfolding_all rfl); k_whole); intro v' hv')
  k_with "subscriptTail" => (k_here; (with_reducible show wpAny _ _ (subscriptTail _ _ (Value.ref _) (Value.int _ _)) _ _ _); k_dflt (refine' itemI_lst (by k_asm) (by k_mem) (by first | assumption | exact Rel.s (by assumption) | exact Rel.h (by assumption) | exact Rel.x (by assumption)) (by first | assumption | exact At.cast (by assumption) (by omega)) (by first | omega | (dsimp only; omega)) ?_ (by with_unfolding_all rfl); k_whole); intro t')
  k_with "setItem ref" => (k_here; (with_reducible show wpAny _ _ (setItem (Value.ref _) (Value.int _ _) _) _ _ _); k_dflt (refine' set_lst (by k_asm) (by k_asm) (by k_upd) (by omega) (by omega) (by first | omega | (dsimp only; omega)) ?_; k_whole); intro h' F' N'; (try k_sweep))
  k_with "call builtin:list.append" => (k_here; (with_reducible show wpAny _ _ (call (Value.builtin _) [Value.ref _, _]) _ _ _); k_dflt (refine' append_lst (by k_asm) (by k_asm) (by k_upd) (by first | omega | (dsimp only; omega)) ?_; k_whole); intro h' F' N'; (try k_sweep))
  k_with "WhlIf" => first | refine WhlIf.yes (decide_eq_true (by omega)) ?_ | refine WhlIf.no (decide_eq_false (by omega)) ?_
  k_with "exec While Compare cons nil" => ((with_reducible rename MarkW => mk'); clear mk'; refine Stop.by ?_)
  k_with "exec For Name Name cons nil" => ((with_reducible rename MarkF => mk'); (rename Fr _ _ _ _ => lF'); (with_unfolding_all refine' For_invVF lF' (by exact rfl) (by exact rfl) ?_; k_whole))
  k_with "exec For Name Call cons nil" => ((with_reducible rename MarkF => mk'); (rename Fr _ _ _ _ => lF'); (with_unfolding_all refine' For_invVF lF' (by exact rfl) (by exact rfl) ?_; k_whole))
  k_with "pyIter ref" => ((with_reducible rename MarkF => mk'); clear mk'; refine Stop.by ?_)
  k_with "exec While Constant" => (k_here; k_dflt (refine whl_start 100 ?_))
  k_with "compareOp Eq" => (k_here; k_dflt (refine' eq_datB (by assumption) (by assumption) (by exact mem9s (by k_asm) (by repeat (first | assumption | refine immTail ?_)) (by k_asm) (by k_asm)) (by first | rfl | assumption) (by first | rfl | assumption) (by ktr_units) ?_; k_whole))
  k_with "subscriptTail" => (k_here; (with_reducible show wpAny _ _ (subscriptTail _ _ (Value.ref _) (Value.int _ _)) _ _ _); k_dflt (refine' tup9B (by assumption) (by exact mem9s (by k_asm) (by repeat (first | assumption | refine immTail ?_)) (by k_asm) (by k_asm)) (by decide) (by decide) (by rfl) (by rfl) ?_ (by with_unfolding_all rfl); k_whole))
  k_with "call builtin:list.pop" => (k_here; (with_reducible show wpAny _ _ (call (Value.builtin _) [Value.ref _]) _ _ _); k_dflt (refine' pop_lst (by k_asm) (by k_asm) (by k_upd) (by first | omega | (dsimp only; omega)) ?_; k_whole); intro h' F' N'; (try k_sweep))
  k_with "UnrEnd" => (refine unrLed (by k_asm) (by k_asm) (by assumption) ?_)
  k_with "k_mem" => first | with_reducible assumption | (refine memOf ?_; with_reducible assumption)
  k_with "k_all" => assumption
  k_with "call ref" => (k_here; (with_reducible show wpAny _ _ (call (Value.ref _) [_, _]) _ _ _); k_dflt (first | (refine' choice_part_spec (by k_asm) (by k_asm) (by k_asm) (by first | k_asm | (refine newsSub (by assumption) ?_; first | exact ledSwap | exact ledSwap2)) (by k_asm) (by rfl) (by ktr_room) (by ktr_units) (by assumption) (by first | assumption | (refine' smSame (by assumption) (by rfl) (by rfl) (by rfl) (by rfl)) | (refine' smUndo (by assumption) (by rfl) (by rfl) (by exact undo_length _ _) (by exact List.length_take_le' ..)) | exact smSeg (by assumption) (by omega) (by omega) (by simp only [List.length_append, List.length_cons, List.length_nil]; omega)) (by first | assumption | exact offPot (by assumption) (by assumption) (by assumption) | exact offApp (Adds.off (by assumption)) (by assumption) | exact offCons (by assumption) (by omega) (by omega) (by omega) (by omega) (by omega) (by omega) (by omega) (by omega)) (by assumption) (by first | assumption | exact immPot (by assumption) | exact immTail (by assumption) | exact immApp (by assumption)) (by assumption) (by first | assumption | exact At.cast (by assumption) (by omega)) ?_; k_whole)); intro t' h' tk' F' N'; (try dsimp only at N'); (try k_sweep))
  k_with "call ref" => (k_here; (with_reducible show wpAny _ _ (call (Value.ref _) [_, _]) _ _ _); k_dflt (first | (refine' set_choice_neg (by k_asm) (by k_asm) (by k_asm) (by first | k_asm | (refine newsSub (by assumption) ?_; first | exact ledSwap | exact ledSwap2)) (by k_asm) (by rfl) (by ktr_room) (by ktr_units) (by assumption) (by first | assumption | (refine' smSame (by assumption) (by rfl) (by rfl) (by rfl) (by rfl)) | (refine' smUndo (by assumption) (by rfl) (by rfl) (by exact undo_length _ _) (by exact List.length_take_le' ..)) | exact smSeg (by assumption) (by omega) (by omega) (by simp only [List.length_append, List.length_cons, List.length_nil]; omega)) (by first | assumption | exact offPot (by assumption) (by assumption) (by assumption) | exact offApp (Adds.off (by assumption)) (by assumption) | exact offCons (by assumption) (by omega) (by omega) (by omega) (by omega) (by omega) (by omega) (by omega) (by omega)) (by assumption) (by first | assumption | exact immPot (by assumption) | exact immTail (by assumption) | exact immApp (by assumption)) (by omega) ?_; k_whole) | (refine' set_choice_pos (by k_asm) (by k_asm) (by k_asm) (by first | k_asm | (refine newsSub (by assumption) ?_; first | exact ledSwap | exact ledSwap2)) (by k_asm) (by rfl) (by ktr_room) (by ktr_units) (by assumption) (by first | assumption | (refine' smSame (by assumption) (by rfl) (by rfl) (by rfl) (by rfl)) | (refine' smUndo (by assumption) (by rfl) (by rfl) (by exact undo_length _ _) (by exact List.length_take_le' ..)) | exact smSeg (by assumption) (by omega) (by omega) (by simp only [List.length_append, List.length_cons, List.length_nil]; omega)) (by first | assumption | exact offPot (by assumption) (by assumption) (by assumption) | exact offApp (Adds.off (by assumption)) (by assumption) | exact offCons (by assumption) (by omega) (by omega) (by omega) (by omega) (by omega) (by omega) (by omega) (by omega)) (by assumption) (by first | assumption | exact immPot (by assumption) | exact immTail (by assumption) | exact immApp (by assumption)) (by omega) (by assumption) (by first | assumption | exact At.cast (by assumption) (by omega)) ?_; k_whole)); intro c' h' tk' F' N' R'; (try dsimp only at N'); (try dsimp only at R'); (try k_sweep))
  trivial
theorem pop_choice_pos (B : Below A₀ base outer h₀) (F : Fr h₀ L s.heap m) (X : (hd.heap_39 w.params).In h₀) (N : News h₀ L s.heap (Led a k c σ rest)) (T : TopF mean mg mb h₀) (hk : cs.kind = .function) (hdp : dp + 2 < recursionLimit) (hun : un + 116 < cLine)
    (R : Rel k imm c σ) (hS : Sm σ) (hO : Off a rest) (hA : Ord a) (hI : ∀ p ∈ imm, p ∈ rest) {cnt v cnt2 hl : Int} (h1 : At σ.sk σ.b (.int cnt)) (h2 : At σ.sk (σ.b + cnt + 3) (.int v)) (h0 : 0 ≤ v) (h3 : At σ.sk v (.int cnt2)) (h4 : At σ.sk (v + cnt2 + 6) (.int hl))
    (ret : ∀ c' h' tk', Fr h₀ L h' m → News h₀ L h' (Led a k c' { σ with b := v, hb := hl, bb := v } rest) → Rel k imm c' { σ with b := v, hb := hl, bb := v } → Q .none { s with heap := h', toks := tk' }) :
    wpAny (model prog w) (ktrTop dp un gd cn cs L ca ccd cl outer) (call (.ref 496) [.ref a.m]) Q E s := by
  have dS := R.s
  obtain ⟨zH, zS, zT, zX⟩ := id hS
  obtain ⟨o1, o2, o3, o4, o5, o6, o7⟩ := id hA
  refine wpAny_call ?_
  k_dflt ktr_enter
  k_steps
  all_goals ((rename Fr h₀ _ _ _ => qF); (rename News h₀ _ _ _ => qN); (rename Rel _ _ _ _ => qR); exact ret _ _ _ qF qN qR)

theorem pop_choice_neg (B : Below A₀ base outer h₀) (F : Fr h₀ L s.heap m) (X : (hd.heap_39 w.params).In h₀) (N : News h₀ L s.heap (Led a k c σ rest)) (T : TopF mean mg mb h₀) (hk : cs.kind = .function) (hdp : dp + 2 < recursionLimit) (hun : un + 116 < cLine)
    (R : Rel k imm c σ) (hS : Sm σ) (hO : Off a rest) (hA : Ord a) (hI : ∀ p ∈ imm, p ∈ rest) {cnt v : Int} (h1 : At σ.sk σ.b (.int cnt)) (h2 : At σ.sk (σ.b + cnt + 3) (.int v)) (h0 : v < 0)
    (ret : ∀ c' h' tk', Fr h₀ L h' m → News h₀ L h' (Led a k c' { σ with b := v, hb := 0, bb := 0 } rest) → Rel k imm c' { σ with b := v, hb := 0, bb := 0 } → Q .none { s with heap := h', toks := tk' }) :
    wpAny (model prog w) (ktrTop dp un gd cn cs L ca ccd cl outer) (call (.ref 496) [.ref a.m]) Q E s := by
  have dS := R.s
  obtain ⟨zH, zS, zT, zX⟩ := id hS
  obtain ⟨o1, o2, o3, o4, o5, o6, o7⟩ := id hA
  refine wpAny_call ?_
  k_dflt ktr_enter
  k_steps
  all_goals ((rename Fr h₀ _ _ _ => qF); (rename News h₀ _ _ _ => qN); (rename Rel _ _ _ _ => qR); exact ret _ _ _ qF qN qR)

theorem cut_back_no (B : Below A₀ base outer h₀) (F : Fr h₀ L s.heap m) (X : (hd.heap_39 w.params).In h₀) (N : News h₀ L s.heap (Led a k c σ rest)) (T : TopF mean mg mb h₀) (hk : cs.kind = .function) (hdp : dp + 1 < recursionLimit) (hun : un + 108 < cLine)
    (R : Rel k imm c σ) (hS : Sm σ) (hO : Off a rest) (hA : Ord a) (hI : ∀ p ∈ imm, p ∈ rest) {n : Int} {tn : Tok} (h0 : σ.b ≤ n)
    (ret : ∀  h' tk', Fr h₀ L h' m → News h₀ L h' (Led a k c σ rest) → Q .none { s with heap := h', toks := tk' }) :
    wpAny (model prog w) (ktrTop dp un gd cn cs L ca ccd cl outer) (call (.ref 503) [.ref a.m, .int n tn]) Q E s := by
  have dS := R.s
  obtain ⟨zH, zS, zT, zX⟩ := id hS
  obtain ⟨o1, o2, o3, o4, o5, o6, o7⟩ := id hA
  refine wpAny_call ?_
  k_dflt ktr_enter
  k_steps
  all_goals exact ret _ _ (by k_asm) (by k_asm)

theorem cut_back_pos (B : Below A₀ base outer h₀) (F : Fr h₀ L s.heap m) (X : (hd.heap_39 w.params).In h₀) (N : News h₀ L s.heap (Led a k c σ rest)) (T : TopF mean mg mb h₀) (hk : cs.kind = .function) (hdp : dp + 2 < recursionLimit) (hun : un + 116 < cLine)
    (R : Rel k imm c σ) (hS : Sm σ) (hO : Off a rest) (hA : Ord a) (hI : ∀ p ∈ imm, p ∈ rest) {n : Int} {tn : Tok} {cnt2 hl : Int} (h1 : n < σ.b) (h0 : 0 ≤ n) (h3 : At σ.sk n (.int cnt2)) (h4 : At σ.sk (n + cnt2 + 6) (.int hl))
    (ret : ∀ c' h' tk', Fr h₀ L h' m → News h₀ L h' (Led a k c' { σ with b := n, hb := hl, bb := n } rest) → Rel k imm c' { σ with b := n, hb := hl, bb := n } → Q .none { s with heap := h', toks := tk' }) :
    wpAny (model prog w) (ktrTop dp un gd cn cs L ca ccd cl outer) (call (.ref 503) [.ref a.m, .int n tn]) Q E s := by
  have dS := R.s
  obtain ⟨zH, zS, zT, zX⟩ := id hS
  obtain ⟨o1, o2, o3, o4, o5, o6, o7⟩ := id hA
  refine wpAny_call ?_
  k_dflt ktr_enter
  k_steps
  all_goals ((rename Fr h₀ _ _ _ => qF); (rename News h₀ _ _ _ => qN); (rename Rel _ _ _ _ => qR); exact ret _ _ _ qF qN qR)

theorem cut_back_neg (B : Below A₀ base outer h₀) (F : Fr h₀ L s.heap m) (X : (hd.heap_39 w.params).In h₀) (N : News h₀ L s.heap (Led a k c σ rest)) (T : TopF mean mg mb h₀) (hk : cs.kind = .function) (hdp : dp + 2 < recursionLimit) (hun : un + 116 < cLine)
    (R : Rel k imm c σ) (hS : Sm σ) (hO : Off a rest) (hA : Ord a) (hI : ∀ p ∈ imm, p ∈ rest) {n : Int} {tn : Tok} (h1 : n < σ.b) (h0 : n < 0)
    (ret : ∀ c' h' tk', Fr h₀ L h' m → News h₀ L h' (Led a k c' { σ with b := n, hb := 0, bb := 0 } rest) → Rel k imm c' { σ with b := n, hb := 0, bb := 0 } → Q .none { s with heap := h', toks := tk' }) :
    wpAny (model prog w) (ktrTop dp un gd cn cs L ca ccd cl outer) (call (.ref 503) [.ref a.m, .int n tn]) Q E s := by
  have dS := R.s
  obtain ⟨zH, zS, zT, zX⟩ := id hS
  obtain ⟨o1, o2, o3, o4, o5, o6, o7⟩ := id hA
  refine wpAny_call ?_
  k_dflt ktr_enter
  k_steps
  all_goals ((rename Fr h₀ _ _ _ => qF); (rename News h₀ _ _ _ => qN); (rename Rel _ _ _ _ => qR); exact ret _ _ _ qF qN qR)

end
end Mine
namespace Mine
theorem kw0_C8 : True := by
  k_with_none
  w_top off
  trivial
theorem fill8 : PySem.Challenge.rw_sa0158_01 = PySem.Challenge.rw_sa0158_01 ∧ hd.heap_39 = hd.heap_39 := by k_fill; exact ⟨rfl, rfl⟩
section
variable {prog : Program} {w : World} {mean : ExcName → Option Value} {mg mb : Str → Option Value} {dp un : Nat} {gd : Option (List Code)} {cn : Str} {cs : Scope} {ca : Addr} {ccd : Value} {cl : List (Str × Addr)} {outer : List Env} {A₀ : Around} {base h₀ : Heap} {L : Addr} {m : Str → Option Value} {s : Shared} {Q E : Value → Shared → Prop}
  {a : Adr} {k : Kon} {c : Con} {σ : W} {imm rest : List (Addr × Obj)}
theorem kw_C8_0 : True := by
  k_with_none
  k_with "k_upd" => first | exact upd_sk (by assumption) (by assumption) | exact upd_hp (by assumption) (by assumption) | exact upd_tr (by assumption) (by assumption) | exact upd_xs (by assumption) (by assumption) | exact upd_dm (by assumption) (by assumption) | exact upd_ds (by assumption) (by assumption) | exact upd_pt (by assumption) (by assumption) (by assumption) (by assumption) | exact upd_nu (by assumption) (by assumption) (by assumption) (by assumption) | exact upd_kl (by assumption) (by assumption) (by assumption) (by assumption) (by assumption)
  k_with "k_ne" => (refine neN ?_; (try dsimp only); first | exact Nat.ne_of_gt (by with_reducible assumption) | exact Nat.ne_of_lt (by with_reducible assumption) | exact Nat.ne_of_gt (And.left (by with_reducible assumption)) | exact Nat.ne_of_gt (cj1 (by with_reducible assumption)) | exact Nat.ne_of_gt (cj2 (by with_reducible assumption)) | exact Nat.ne_of_gt (cj3 (by with_reducible assumption)) | exact Nat.ne_of_gt (cj4 (by with_reducible assumption)) | exact Nat.ne_of_gt (cj5 (by with_reducible assumption)) | exact Nat.ne_of_gt (cj6 (by with_reducible assumption)) | exact Nat.ne_of_gt (cj7 (by with_reducible assumption)) | exact Nat.ne_of_gt (cj8 (by with_reducible assumption)) | exact Nat.ne_of_gt (cj9 (by with_reducible assumption)) | exact Nat.ne_of_gt (cj10 (by with_reducible assumption)) | exact Nat.ne_of_gt (cj11 (by with_reducible assumption)) | exact Nat.ne_of_gt (cj12 (by with_reducible assumption)) | exact Nat.ne_of_gt (ce1 (by with_reducible assumption)) | exact Nat.ne_of_gt (ce2 (by with_reducible assumption)) | exact Nat.ne_of_gt (ce3 (by with_reducible assumption)) | exact Nat.ne_of_gt (ce4 (by with_reducible assumption)) | exact Nat.ne_of_gt (ce5 (by with_reducible assumption)) | exact Nat.ne_of_gt (ce6 (by with_reducible assumption)) | exact Nat.ne_of_gt (ce7 (by with_reducible assumption)) | exact Nat.ne_of_gt (ce8 (by with_reducible assumption)) | exact Nat.ne_of_gt (ce9 (by with_reducible assumption)) | exact Nat.ne_of_gt (ce10 (by with_reducible assumption)) | exact Nat.ne_of_gt (ce11 (by with_reducible assumption)) | exact Nat.ne_of_gt (ce12 (by with_reducible assumption)) | exact Nat.ne_of_lt (And.left (by with_reducible assumption)) | exact Nat.ne_of_lt (cj1 (by with_reducible assumption)) | exact Nat.ne_of_lt (cj2 (by with_reducible assumption)) | exact Nat.ne_of_lt (cj3 (by with_reducible assumption)) | exact Nat.ne_of_lt (cj4 (by with_reducible assumption)) | exact Nat.ne_of_lt (cj5 (by with_reducible assumption)) | exact Nat.ne_of_lt (cj6 (by with_reducible assumption)) | exact Nat.ne_of_lt (cj7 (by with_reducible assumption)) | exact Nat.ne_of_lt (cj8 (by with_reducible assumption)) | exact Nat.ne_of_lt (cj9 (by with_reducible assumption)) | exact Nat.ne_of_lt (cj10 (by with_reducible assumption)) | exact Nat.ne_of_lt (cj11 (by with_reducible assumption)) | exact Nat.ne_of_lt (cj12 (by with_reducible assumption)) | exact Nat.ne_of_lt (ce1 (by with_reducible assumption)) | exact Nat.ne_of_lt (ce2 (by with_reducible assumption)) | exact Nat.ne_of_lt (ce3 (by with_reducible assumption)) | exact Nat.ne_of_lt (ce4 (by with_reducible assumption)) | exact Nat.ne_of_lt (ce5 (by with_reducible assumption)) | exact Nat.ne_of_lt (ce6 (by with_reducible assumption)) | exact Nat.ne_of_lt (ce7 (by with_reducible assumption)) | exact Nat.ne_of_lt (ce8 (by with_reducible assumption)) | exact Nat.ne_of_lt (ce9 (by with_reducible assumption)) | exact Nat.ne_of_lt (ce10 (by with_reducible assumption)) | exact Nat.ne_of_lt (ce11 (by with_reducible assumption)) | exact Nat.ne_of_lt (ce12 (by with_reducible assumption)))
  k_with "k_all" => first | exact Off.m (by assumption) | exact Off.dm (by assumption) | exact Off.st (by assumption) | exact Off.ds (by assumption) | exact Off.hp (by assumption) | exact Off.sk (by assumption) | exact Off.tr (by assumption) | exact Off.xs (by assumption)
  k_with "call builtin:len" => (k_here; (with_reducible show wpAny _ _ (call (Value.builtin "len") [Value.ref _]) _ _ _); k_dflt (refine' len_lst (by k_asm) (by k_mem) (by first | omega | (dsimp only; omega)) ?_; k_whole); intro t' tk')
  k_with "subscriptTail" => (k_here; (with_reducible show wpAny _ _ (subscriptTail _ _ (Value.ref _) (Value.int _ _)) _ _ _); k_dflt (refine' item_lst (by k_asm) (by k_mem) (by first | assumption | exact Rel.s (by assumption) | exact Rel.h (by assumption) | exact Rel.x (by assumption)) (by first | assumption | exact At.cast (by assumption) (by omega)) (by first | omega | (dsimp only; omega)) ?_ (by with_unfolding_all rfl); k_whole); intro v' hv')
  k_with "subscriptTail" => (k_here; (with_reducible show wpAny _ _ (subscriptTail _ _ (Value.ref _) (Value.int _ _)) _ _ _); k_dflt (refine' itemI_lst (by k_asm) (by k_mem) (by first | assumption | exact Rel.s (by assumption) | exact Rel.h (by assumption) | exact Rel.x (by assumption)) (by first | assumption | exact At.cast (by assumption) (by omega)) (by first | omega | (dsimp only; omega)) ?_ (by with_unfolding_all rfl); k_whole); intro t')
  k_with "setItem ref" => (k_here; (with_reducible show wpAny _ _ (setItem (Value.ref _) (Value.int _ _) _) _ _ _); k_dflt (refine' set_lst (by k_asm) (by k_asm) (by k_upd) (by omega) (by omega) (by first | omega | (dsimp only; omega)) ?_; k_whole); intro h' F' N'; (try k_sweep))
  k_with "call builtin:list.append" => (k_here; (with_reducible show wpAny _ _ (call (Value.builtin _) [Value.ref _, _]) _ _ _); k_dflt (refine' append_lst (by k_asm) (by k_asm) (by k_upd) (by first | omega | (dsimp only; omega)) ?_; k_whole); intro h' F' N'; (try k_sweep))
  k_with "WhlIf" => first | refine WhlIf.yes (decide_eq_true (by omega)) ?_ | refine WhlIf.no (decide_eq_false (by omega)) ?_
  k_with "exec While Compare cons nil" => ((with_reducible rename MarkW => mk'); clear mk'; refine Stop.by ?_)
  k_with "exec For Name Name cons nil" => ((with_reducible rename MarkF => mk'); (rename Fr _ _ _ _ => lF'); (with_unfolding_all refine' For_invVF lF' (by exact rfl) (by exact rfl) ?_; k_whole))
  k_with "exec For Name Call cons nil" => ((with_reducible rename MarkF => mk'); (rename Fr _ _ _ _ => lF'); (with_unfolding_all refine' For_invVF lF' (by exact rfl) (by exact rfl) ?_; k_whole))
  k_with "pyIter ref" => ((with_reducible rename MarkF => mk'); clear mk'; refine Stop.by ?_)
  k_with "exec While Constant" => (k_here; k_dflt (refine whl_start 100 ?_))
  k_with "compareOp Eq" => (k_here; k_dflt (refine' eq_datB (by assumption) (by assumption) (by exact mem9s (by k_asm) (by repeat (first | assumption | refine immTail ?_)) (by k_asm) (by k_asm)) (by first | rfl | assumption) (by first | rfl | assumption) (by ktr_units) ?_; k_whole))
  k_with "subscriptTail" => (k_here; (with_reducible show wpAny _ _ (subscriptTail _ _ (Value.ref _) (Value.int _ _)) _ _ _); k_dflt (refine' tup9B (by assumption) (by exact mem9s (by k_asm) (by repeat (first | assumption | refine immTail ?_)) (by k_asm) (by k_asm)) (by decide) (by decide) (by rfl) (by rfl) ?_ (by with_unfolding_all rfl); k_whole))
  k_with "call builtin:list.pop" => (k_here; (with_reducible show wpAny _ _ (call (Value.builtin _) [Value.ref _]) _ _ _); k_dflt (refine' pop_lst (by k_asm) (by k_asm) (by k_upd) (by first | omega | (dsimp only; omega)) ?_; k_whole); intro h' F' N'; (try k_sweep))
  k_with "UnrEnd" => (refine unrLed (by k_asm) (by k_asm) (by assumption) ?_)
  k_with "k_mem" => first | with_reducible assumption | (refine memOf ?_; with_reducible assumption)
  k_with "k_all" => assumption
  k_with "call ref" => (k_here; (with_reducible show wpAny _ _ (call (Value.ref _) _) _ _ _); k_dflt (first | (refine' top_spec (by k_asm) (by k_asm) (by k_asm) (by first | k_asm | (refine newsSub (by assumption) ?_; first | exact ledSwap | exact ledSwap2)) (by k_asm) (by rfl) (by ktr_room) (by ktr_units) (by assumption) (by first | assumption | (refine' smSame (by assumption) (by rfl) (by rfl) (by rfl) (by rfl)) | (refine' smUndo (by assumption) (by rfl) (by rfl) (by exact undo_length _ _) (by exact List.length_take_le' ..)) | exact smSeg (by assumption) (by omega) (by omega) (by simp only [List.length_append, List.length_cons, List.length_nil]; omega)) (by first | assumption | exact offPot (by assumption) (by assumption) (by assumption) | exact offApp (Adds.off (by assumption)) (by assumption) | exact offCons (by assumption) (by omega) (by omega) (by omega) (by omega) (by omega) (by omega) (by omega) (by omega)) (by assumption) (by first | assumption | exact immPot (by assumption) | exact immTail (by assumption) | exact immApp (by assumption)) (by assumption) ?_; k_whole)); intro t' h' tk' F' N'; (try dsimp only at N'); (try k_sweep))
  k_with "call ref" => (k_here; (with_reducible show wpAny _ _ (call (Value.ref _) [_, _, _]) _ _ _); k_dflt (first | (refine' stack_put_seg (by k_asm) (by k_asm) (by k_asm) (by first | k_asm | (refine newsSub (by assumption) ?_; first | exact ledSwap | exact ledSwap2)) (by k_asm) (by rfl) (by ktr_room) (by ktr_units) (by assumption) (by first | assumption | (refine' smSame (by assumption) (by rfl) (by rfl) (by rfl) (by rfl)) | (refine' smUndo (by assumption) (by rfl) (by rfl) (by exact undo_length _ _) (by exact List.length_take_le' ..)) | exact smSeg (by assumption) (by omega) (by omega) (by simp only [List.length_append, List.length_cons, List.length_nil]; omega)) (by first | assumption | exact offPot (by assumption) (by assumption) (by assumption) | exact offApp (Adds.off (by assumption)) (by assumption) | exact offCons (by assumption) (by omega) (by omega) (by omega) (by omega) (by omega) (by omega) (by omega) (by omega)) (by assumption) (by first | assumption | exact immPot (by assumption) | exact immTail (by assumption) | exact immApp (by assumption)) (by omega) (by omega) (by (simp only [List.length_append, List.length_cons, List.length_nil]; omega)) (by (simp only [List.length_append, List.length_cons, List.length_nil]; omega)) (by first | assumption | exact DatIn.int _ _ | exact voidIn) ?_; k_whole) | (refine' stack_put_spec (by k_asm) (by k_asm) (by k_asm) (by first | k_asm | (refine newsSub (by assumption) ?_; first | exact ledSwap | exact ledSwap2)) (by k_asm) (by rfl) (by ktr_room) (by ktr_units) (by assumption) (by first | assumption | (refine' smSame (by assumption) (by rfl) (by rfl) (by rfl) (by rfl)) | (refine' smUndo (by assumption) (by rfl) (by rfl) (by exact undo_length _ _) (by exact List.length_take_le' ..)) | exact smSeg (by assumption) (by omega) (by omega) (by simp only [List.length_append, List.length_cons, List.length_nil]; omega)) (by first | assumption | exact offPot (by assumption) (by assumption) (by assumption) | exact offApp (Adds.off (by assumption)) (by assumption) | exact offCons (by assumption) (by omega) (by omega) (by omega) (by omega) (by omega) (by omega) (by omega) (by omega)) (by assumption) (by first | assumption | exact immPot (by assumption) | exact immTail (by assumption) | exact immApp (by assumption)) (by omega) (by omega) (by first | assumption | exact DatIn.int _ _ | exact voidIn) ?_; k_whole)); intro c' h' tk' F' N' R'; (try dsimp only at N'); (try dsimp only at R'); (try k_sweep))
  trivial
theorem push_env0 (B : Below A₀ base outer h₀) (F : Fr h₀ L s.heap m) (X : (hd.heap_39 w.params).In h₀) (N : News h₀ L s.heap (Led a k c σ rest)) (T : TopF mean mg mb h₀) (hk : cs.kind = .function) (hdp : dp + 2 < recursionLimit) (hun : un + 116 < cLine)
    (R : Rel k imm c σ) (hS : Sm σ) (hO : Off a rest) (hA : Ord a) (hI : ∀ p ∈ imm, p ∈ rest) {n : Int} {tn : Tok} (ht : IsTop σ n) (h0 : 0 ≤ n) (h1 : n ≤ σ.sk.length) (h2 : σ.sk.length ≤ 3900)
    (ret : ∀ c' h' tk', Fr h₀ L h' m → News h₀ L h' (Led a k c' { σ with sk := segS σ.sk n.toNat [.int σ.e, .int σ.cp], e := n } rest) → Rel k imm c' { σ with sk := segS σ.sk n.toNat [.int σ.e, .int σ.cp], e := n } → Q .none { s with heap := h', toks := tk' }) :
    wpAny (model prog w) (ktrTop dp un gd cn cs L ca ccd cl outer) (call (.ref 440) [.ref a.m, .int 0 tn]) Q E s := by
  have dS := R.s
  obtain ⟨zH, zS, zT, zX⟩ := id hS
  obtain ⟨o1, o2, o3, o4, o5, o6, o7⟩ := id hA
  refine wpAny_call ?_
  k_dflt ktr_enter
  k_steps
  all_goals ((rename Fr h₀ _ _ _ => qF); (rename News h₀ _ _ _ => qN); (rename Rel _ _ _ _ => qR); (rename Con => qc); obtain ⟨tp, tcp, te, tb, tb0, thb, tbb, vH, nH, vS, nS, vT, nT, vX, nX⟩ := qc; (try dsimp only at qN); (try dsimp only at qR); exact ret ⟨_, _, _, _, _, _, _, _, _, _, _, _, _, _, _⟩ _ _ qF qN ⟨qR.h, qR.s, qR.t, qR.x, qR.c⟩)

theorem push_env1 (B : Below A₀ base outer h₀) (F : Fr h₀ L s.heap m) (X : (hd.heap_39 w.params).In h₀) (N : News h₀ L s.heap (Led a k c σ rest)) (T : TopF mean mg mb h₀) (hk : cs.kind = .function) (hdp : dp + 2 < recursionLimit) (hun : un + 116 < cLine)
    (R : Rel k imm c σ) (hS : Sm σ) (hO : Off a rest) (hA : Ord a) (hI : ∀ p ∈ imm, p ∈ rest) {n : Int} {tn : Tok} (ht : IsTop σ n) (h0 : 0 ≤ n) (h1 : n ≤ σ.sk.length) (h2 : σ.sk.length ≤ 3900)
    (ret : ∀ c' h' tk', Fr h₀ L h' m → News h₀ L h' (Led a k c' { σ with sk := segS σ.sk n.toNat [.int σ.e, .int σ.cp, cell 5 0], e := n } rest) → Rel k imm c' { σ with sk := segS σ.sk n.toNat [.int σ.e, .int σ.cp, cell 5 0], e := n } → Q .none { s with heap := h', toks := tk' }) :
    wpAny (model prog w) (ktrTop dp un gd cn cs L ca ccd cl outer) (call (.ref 440) [.ref a.m, .int 1 tn]) Q E s := by
  have dS := R.s
  obtain ⟨zH, zS, zT, zX⟩ := id hS
  obtain ⟨o1, o2, o3, o4, o5, o6, o7⟩ := id hA
  refine wpAny_call ?_
  k_dflt ktr_enter
  k_steps
  all_goals ((rename Fr h₀ _ _ _ => qF); (rename News h₀ _ _ _ => qN); (rename Rel _ _ _ _ => qR); (rename Con => qc); obtain ⟨tp, tcp, te, tb, tb0, thb, tbb, vH, nH, vS, nS, vT, nT, vX, nX⟩ := qc; (try dsimp only at qN); (try dsimp only at qR); exact ret ⟨_, _, _, _, _, _, _, _, _, _, _, _, _, _, _⟩ _ _ qF qN ⟨qR.h, qR.s, qR.t, qR.x, qR.c⟩)

theorem push_env2 (B : Below A₀ base outer h₀) (F : Fr h₀ L s.heap m) (X : (hd.heap_39 w.params).In h₀) (N : News h₀ L s.heap (Led a k c σ rest)) (T : TopF mean mg mb h₀) (hk : cs.kind = .function) (hdp : dp + 2 < recursionLimit) (hun : un + 116 < cLine)
    (R : Rel k imm c σ) (hS : Sm σ) (hO : Off a rest) (hA : Ord a) (hI : ∀ p ∈ imm, p ∈ rest) {n : Int} {tn : Tok} (ht : IsTop σ n) (h0 : 0 ≤ n) (h1 : n ≤ σ.sk.length) (h2 : σ.sk.length ≤ 3900)
    (ret : ∀ c' h' tk', Fr h₀ L h' m → News h₀ L h' (Led a k c' { σ with sk := segS σ.sk n.toNat [.int σ.e, .int σ.cp, cell 5 0, cell 5 0], e := n } rest) → Rel k imm c' { σ with sk := segS σ.sk n.toNat [.int σ.e, .int σ.cp, cell 5 0, cell 5 0], e := n } → Q .none { s with heap := h', toks := tk' }) :
    wpAny (model prog w) (ktrTop dp un gd cn cs L ca ccd cl outer) (call (.ref 440) [.ref a.m, .int 2 tn]) Q E s := by
  have dS := R.s
  obtain ⟨zH, zS, zT, zX⟩ := id hS
  obtain ⟨o1, o2, o3, o4, o5, o6, o7⟩ := id hA
  refine wpAny_call ?_
  k_dflt ktr_enter
  k_steps
  all_goals ((rename Fr h₀ _ _ _ => qF); (rename News h₀ _ _ _ => qN); (rename Rel _ _ _ _ => qR); (rename Con => qc); obtain ⟨tp, tcp, te, tb, tb0, thb, tbb, vH, nH, vS, nS, vT, nT, vX, nX⟩ := qc; (try dsimp only at qN); (try dsimp only at qR); exact ret ⟨_, _, _, _, _, _, _, _, _, _, _, _, _, _, _⟩ _ _ qF qN ⟨qR.h, qR.s, qR.t, qR.x, qR.c⟩)

end
end Mine
namespace Mine
theorem kw0_C9 : True := by
  k_with_none
  w_top off
  trivial
theorem fill9 : PySem.Challenge.rw_sa0158_01 = PySem.Challenge.rw_sa0158_01 ∧ hd.heap_39 = hd.heap_39 := by k_fill; exact ⟨rfl, rfl⟩
section
variable {prog : Program} {w : World} {mean : ExcName → Option Value} {mg mb : Str → Option Value} {dp un : Nat} {gd : Option (List Code)} {cn : Str} {cs : Scope} {ca : Addr} {ccd : Value} {cl : List (Str × Addr)} {outer : List Env} {A₀ : Around} {base h₀ : Heap} {L : Addr} {m : Str → Option Value} {s : Shared} {Q E : Value → Shared → Prop}
  {a : Adr} {k : Kon} {c : Con} {σ : W} {imm rest : List (Addr × Obj)}
theorem kw_C9_0 : True := by
  k_with_none
  k_with "k_upd" => first | exact upd_sk (by assumption) (by assumption) | exact upd_hp (by assumption) (by assumption) | exact upd_tr (by assumption) (by assumption) | exact upd_xs (by assumption) (by assumption) | exact upd_dm (by assumption) (by assumption) | exact upd_ds (by assumption) (by assumption) | exact upd_pt (by assumption) (by assumption) (by assumption) (by assumption) | exact upd_nu (by assumption) (by assumption) (by assumption) (by assumption) | exact upd_kl (by assumption) (by assumption) (by assumption) (by assumption) (by assumption)
  k_with "k_ne" => (refine neN ?_; (try dsimp only); first | exact Nat.ne_of_gt (by with_reducible assumption) | exact Nat.ne_of_lt (by with_reducible assumption) | exact Nat.ne_of_gt (And.left (by with_reducible assumption)) | exact Nat.ne_of_gt (cj1 (by with_reducible assumption)) | exact Nat.ne_of_gt (cj2 (by with_reducible assumption)) | exact Nat.ne_of_gt (cj3 (by with_reducible assumption)) | exact Nat.ne_of_gt (cj4 (by with_reducible assumption)) | exact Nat.ne_of_gt (cj5 (by with_reducible assumption)) | exact Nat.ne_of_gt (cj6 (by with_reducible assumption)) | exact Nat.ne_of_gt (cj7 (by with_reducible assumption)) | exact Nat.ne_of_gt (cj8 (by with_reducible assumption)) | exact Nat.ne_of_gt (cj9 (by with_reducible assumption)) | exact Nat.ne_of_gt (cj10 (by with_reducible assumption)) | exact Nat.ne_of_gt (cj11 (by with_reducible assumption)) | exact Nat.ne_of_gt (cj12 (by with_reducible assumption)) | exact Nat.ne_of_gt (ce1 (by with_reducible assumption)) | exact Nat.ne_of_gt (ce2 (by with_reducible assumption)) | exact Nat.ne_of_gt (ce3 (by with_reducible assumption)) | exact Nat.ne_of_gt (ce4 (by with_reducible assumption)) | exact Nat.ne_of_gt (ce5 (by with_reducible assumption)) | exact Nat.ne_of_gt (ce6 (by with_reducible assumption)) | exact Nat.ne_of_gt (ce7 (by with_reducible assumption)) | exact Nat.ne_of_gt (ce8 (by with_reducible assumption)) | exact Nat.ne_of_gt (ce9 (by with_reducible assumption)) | exact Nat.ne_of_gt (ce10 (by with_reducible assumption)) | exact Nat.ne_of_gt (ce11 (by with_reducible assumption)) | exact Nat.ne_of_gt (ce12 (by with_reducible assumption)) | exact Nat.ne_of_lt (And.left (by with_reducible assumption)) | exact Nat.ne_of_lt (cj1 (by with_reducible assumption)) | exact Nat.ne_of_lt (cj2 (by with_reducible assumption)) | exact Nat.ne_of_lt (cj3 (by with_reducible assumption)) | exact Nat.ne_of_lt (cj4 (by with_reducible assumption)) | exact Nat.ne_of_lt (cj5 (by with_reducible assumption)) | exact Nat.ne_of_lt (cj6 (by with_reducible assumption)) | exact Nat.ne_of_lt (cj7 (by with_reducible assumption)) | exact Nat.ne_of_lt (cj8 (by with_reducible assumption)) | exact Nat.ne_of_lt (cj9 (by with_reducible assumption)) | exact Nat.ne_of_lt (cj10 (by with_reducible assumption)) | exact Nat.ne_of_lt (cj11 (by with_reducible assumption)) | exact Nat.ne_of_lt (cj12 (by with_reducible assumption)) | exact Nat.ne_of_lt (ce1 (by with_reducible assumption)) | exact Nat.ne_of_lt (ce2 (by with_reducible assumption)) | exact Nat.ne_of_lt (ce3 (by with_reducible assumption)) | exact Nat.ne_of_lt (ce4 (by with_reducible assumption)) | exact Nat.ne_of_lt (ce5 (by with_reducible assumption)) | exact Nat.ne_of_lt (ce6 (by with_reducible assumption)) | exact Nat.ne_of_lt (ce7 (by with_reducible assumption)) | exact Nat.ne_of_lt (ce8 (by with_reducible assumption)) | exact Nat.ne_of_lt (ce9 (by with_reducible assumption)) | exact Nat.ne_of_lt (ce10 (by with_reducible assumption)) | exact Nat.ne_of_lt (ce11 (by with_reducible assumption)) | exact Nat.ne_of_lt (ce12 (by with_reducible assumption)))
  k_with "k_all" => first | exact Off.m (by assumption) | exact Off.dm (by assumption) | exact Off.st (by assumption) | exact Off.ds (by assumption) | exact Off.hp (by assumption) | exact Off.sk (by assumption) | exact Off.tr (by assumption) | exact Off.xs (by assumption)
  k_with "call builtin:len" => (k_here; (with_reducible show wpAny _ _ (call (Value.builtin "len") [Value.ref _]) _ _ _); k_dflt (refine' len_lst (by k_asm) (by k_mem) (by first | omega | (dsimp only; omega)) ?_; k_whole); intro t' tk')
  k_with "subscriptTail" => (k_here; (with_reducible show wpAny _ _ (subscriptTail _ _ (Value.ref _) (Value.int _ _)) _ _ _); k_dflt (refine' item_lst (by k_asm) (by k_mem) (by first | assumption | exact Rel.s (by assumption) | exact Rel.h (by assumption) | exact Rel.x (by assumption)) (by first | assumption | exact At.cast (by assumption) (by omega)) (by first | omega | (dsimp only; omega)) ?_ (by with_unfolding_all rfl); k_whole); intro v' hv')
  k_with "subscriptTail" => (k_here; (with_reducible show wpAny _ _ (subscriptTail _ _ (Value.ref _) (Value.int _ _)) _ _ _); k_dflt (refine' itemI_lst (by k_asm) (by k_mem) (by first | assumption | exact Rel.s (by assumption) | exact Rel.h (by assumption) | exact Rel.x (by assumption)) (by first | assumption | exact At.cast (by assumption) (by omega)) (by first | omega | (dsimp only; omega)) ?_ (by with_unfolding_all rfl); k_whole); intro t')
  k_with "setItem ref" => (k_here; (with_reducible show wpAny _ _ (setItem (Value.ref _) (Value.int _ _) _) _ _ _); k_dflt (refine' set_lst (by k_asm) (by k_asm) (by k_upd) (by omega) (by omega) (by first | omega | (dsimp only; omega)) ?_; k_whole); intro h' F' N'; (try k_sweep))
  k_with "call builtin:list.append" => (k_here; (with_reducible show wpAny _ _ (call (Value.builtin _) [Value.ref _, _]) _ _ _); k_dflt (refine' append_lst (by k_asm) (by k_asm) (by k_upd) (by first | omega | (dsimp only; omega)) ?_; k_whole); intro h' F' N'; (try k_sweep))
  k_with "WhlIf" => first | refine WhlIf.yes (decide_eq_true (by omega)) ?_ | refine WhlIf.no (decide_eq_false (by omega)) ?_
  k_with "exec While Compare cons nil" => ((with_reducible rename MarkW => mk'); clear mk'; refine Stop.by ?_)
  k_with "exec For Name Name cons nil" => ((with_reducible rename MarkF => mk'); (rename Fr _ _ _ _ => lF'); (with_unfolding_all refine' For_invVF lF' (by exact rfl) (by exact rfl) ?_; k_whole))
  k_with "exec For Name Call cons nil" => ((with_reducible rename MarkF => mk'); (rename Fr _ _ _ _ => lF'); (with_unfolding_all refine' For_invVF lF' (by exact rfl) (by exact rfl) ?_; k_whole))
  k_with "pyIter ref" => ((with_reducible rename MarkF => mk'); clear mk'; refine Stop.by ?_)
  k_with "exec While Constant" => (k_here; k_dflt (refine whl_start 100 ?_))
  k_with "compareOp Eq" => (k_here; k_dflt (refine' eq_datB (by assumption) (by assumption) (by exact mem9s (by k_asm) (by repeat (first | assumption | refine immTail ?_)) (by k_asm) (by k_asm)) (by first | rfl | assumption) (by first | rfl | assumption) (by ktr_units) ?_; k_whole))
  k_with "subscriptTail" => (k_here; (with_reducible show wpAny _ _ (subscriptTail _ _ (Value.ref _) (Value.int _ _)) _ _ _); k_dflt (refine' tup9B (by assumption) (by exact mem9s (by k_asm) (by repeat (first | assumption | refine immTail ?_)) (by k_asm) (by k_asm)) (by decide) (by decide) (by rfl) (by rfl) ?_ (by with_unfolding_all rfl); k_whole))
  k_with "call builtin:list.pop" => (k_here; (with_reducible show wpAny _ _ (call (Value.builtin _) [Value.ref _]) _ _ _); k_dflt (refine' pop_lst (by k_asm) (by k_asm) (by k_upd) (by first | omega | (dsimp only; omega)) ?_; k_whole); intro h' F' N'; (try k_sweep))
  k_with "UnrEnd" => (refine unrLed (by k_asm) (by k_asm) (by assumption) ?_)
  k_with "k_mem" => first | with_reducible assumption | (refine memOf ?_; with_reducible assumption)
  k_with "k_all" => assumption
  k_with "call ref" => (k_here; (with_reducible show wpAny _ _ (call (Value.ref _) _) _ _ _); k_dflt (first | (refine' top_spec (by k_asm) (by k_asm) (by k_asm) (by first | k_asm | (refine newsSub (by assumption) ?_; first | exact ledSwap | exact ledSwap2)) (by k_asm) (by rfl) (by ktr_room) (by ktr_units) (by assumption) (by first | assumption | (refine' smSame (by assumption) (by rfl) (by rfl) (by rfl) (by rfl)) | (refine' smUndo (by assumption) (by rfl) (by rfl) (by exact undo_length _ _) (by exact List.length_take_le' ..)) | exact smSeg (by assumption) (by omega) (by omega) (by simp only [List.length_append, List.length_cons, List.length_nil]; omega)) (by first | assumption | exact offPot (by assumption) (by assumption) (by assumption) | exact offApp (Adds.off (by assumption)) (by assumption) | exact offCons (by assumption) (by omega) (by omega) (by omega) (by omega) (by omega) (by omega) (by omega) (by omega)) (by assumption) (by first | assumption | exact immPot (by assumption) | exact immTail (by assumption) | exact immApp (by assumption)) (by assumption) ?_; k_whole)); intro t' h' tk' F' N'; (try dsimp only at N'); (try k_sweep))
  k_with "call ref" => (k_here; (with_reducible show wpAny _ _ (call (Value.ref _) [_, _, _]) _ _ _); k_dflt (first | (refine' stack_put_seg (by k_asm) (by k_asm) (by k_asm) (by first | k_asm | (refine newsSub (by assumption) ?_; first | exact ledSwap | exact ledSwap2)) (by k_asm) (by rfl) (by ktr_room) (by ktr_units) (by assumption) (by first | assumption | (refine' smSame (by assumption) (by rfl) (by rfl) (by rfl) (by rfl)) | (refine' smUndo (by assumption) (by rfl) (by rfl) (by exact undo_length _ _) (by exact List.length_take_le' ..)) | exact smSeg (by assumption) (by omega) (by omega) (by simp only [List.length_append, List.length_cons, List.length_nil]; omega)) (by first | assumption | exact offPot (by assumption) (by assumption) (by assumption) | exact offApp (Adds.off (by assumption)) (by assumption) | exact offCons (by assumption) (by omega) (by omega) (by omega) (by omega) (by omega) (by omega) (by omega) (by omega)) (by assumption) (by first | assumption | exact immPot (by assumption) | exact immTail (by assumption) | exact immApp (by assumption)) (by omega) (by omega) (by (simp only [List.length_append, List.length_cons, List.length_nil]; omega)) (by (simp only [List.length_append, List.length_cons, List.length_nil]; omega)) (by first | assumption | exact DatIn.int _ _ | exact voidIn) ?_; k_whole) | (refine' stack_put_spec (by k_asm) (by k_asm) (by k_asm) (by first | k_asm | (refine newsSub (by assumption) ?_; first | exact ledSwap | exact ledSwap2)) (by k_asm) (by rfl) (by ktr_room) (by ktr_units) (by assumption) (by first | assumption | (refine' smSame (by assumption) (by rfl) (by rfl) (by rfl) (by rfl)) | (refine' smUndo (by assumption) (by rfl) (by rfl) (by exact undo_length _ _) (by exact List.length_take_le' ..)) | exact smSeg (by assumption) (by omega) (by omega) (by simp only [List.length_append, List.length_cons, List.length_nil]; omega)) (by first | assumption | exact offPot (by assumption) (by assumption) (by assumption) | exact offApp (Adds.off (by assumption)) (by assumption) | exact offCons (by assumption) (by omega) (by omega) (by omega) (by omega) (by omega) (by omega) (by omega) (by omega)) (by assumption) (by first | assumption | exact immPot (by assumption) | exact immTail (by assumption) | exact immApp (by assumption)) (by omega) (by omega) (by first | assumption | exact DatIn.int _ _ | exact voidIn) ?_; k_whole)); intro c' h' tk' F' N' R'; (try dsimp only at N'); (try dsimp only at R'); (try k_sweep))
  k_with "call builtin:len" => (k_here; (with_reducible show wpAny _ _ (call (Value.builtin "len") [Value.ref _]) _ _ _); k_dflt (refine' len_dat (by k_asm) (by k_mem) (by first | assumption | exact Rel.h (by assumption) | exact Rel.s (by assumption) | exact Rel.x (by assumption)) (by first | omega | (dsimp only; omega)) ?_; k_whole); intro t' tk')
  k_with "call ref" => (k_here; (with_reducible show wpAny _ _ (call (Value.ref _) _) _ _ _); k_dflt (first | (refine' mark_spec (by k_asm) (by k_asm) (by k_asm) (by first | k_asm | (refine newsSub (by assumption) ?_; first | exact ledSwap | exact ledSwap2)) (by k_asm) (by rfl) (by ktr_room) (by ktr_units) (by assumption) (by first | assumption | (refine' smSame (by assumption) (by rfl) (by rfl) (by rfl) (by rfl)) | (refine' smUndo (by assumption) (by rfl) (by rfl) (by exact undo_length _ _) (by exact List.length_take_le' ..)) | exact smSeg (by assumption) (by omega) (by omega) (by simp only [List.length_append, List.length_cons, List.length_nil]; omega)) (by first | assumption | exact offPot (by assumption) (by assumption) (by assumption) | exact offApp (Adds.off (by assumption)) (by assumption) | exact offCons (by assumption) (by omega) (by omega) (by omega) (by omega) (by omega) (by omega) (by omega) (by omega)) (by assumption) (by first | assumption | exact immPot (by assumption) | exact immTail (by assumption) | exact immApp (by assumption))  ?_;  k_whole)); intro t' h' tk' F' N'; (try dsimp only at N'); (try k_sweep))
  k_with "call ref" => (k_here; (with_reducible show wpAny _ _ (call (Value.ref _) [_, _]) _ _ _); k_dflt (first | (refine' set_choice_neg (by k_asm) (by k_asm) (by k_asm) (by first | k_asm | (refine newsSub (by assumption) ?_; first | exact ledSwap | exact ledSwap2)) (by k_asm) (by rfl) (by ktr_room) (by ktr_units) (by assumption) (by first | assumption | (refine' smSame (by assumption) (by rfl) (by rfl) (by rfl) (by rfl)) | (refine' smUndo (by assumption) (by rfl) (by rfl) (by exact undo_length _ _) (by exact List.length_take_le' ..)) | exact smSeg (by assumption) (by omega) (by omega) (by simp only [List.length_append, List.length_cons, List.length_nil]; omega)) (by first | assumption | exact offPot (by assumption) (by assumption) (by assumption) | exact offApp (Adds.off (by assumption)) (by assumption) | exact offCons (by assumption) (by omega) (by omega) (by omega) (by omega) (by omega) (by omega) (by omega) (by omega)) (by assumption) (by first | assumption | exact immPot (by assumption) | exact immTail (by assumption) | exact immApp (by assumption)) (by omega) ?_; k_whole) | (refine' set_choice_pos (by k_asm) (by k_asm) (by k_asm) (by first | k_asm | (refine newsSub (by assumption) ?_; first | exact ledSwap | exact ledSwap2)) (by k_asm) (by rfl) (by ktr_room) (by ktr_units) (by assumption) (by first | assumption | (refine' smSame (by assumption) (by rfl) (by rfl) (by rfl) (by rfl)) | (refine' smUndo (by assumption) (by rfl) (by rfl) (by exact undo_length _ _) (by exact List.length_take_le' ..)) | exact smSeg (by assumption) (by omega) (by omega) (by simp only [List.length_append, List.length_cons, List.length_nil]; omega)) (by first | assumption | exact offPot (by assumption) (by assumption) (by assumption) | exact offApp (Adds.off (by assumption)) (by assumption) | exact offCons (by assumption) (by omega) (by omega) (by omega) (by omega) (by omega) (by omega) (by omega) (by omega)) (by assumption) (by first | assumption | exact immPot (by assumption) | exact immTail (by assumption) | exact immApp (by assumption)) (by omega) (by assumption) (by first | assumption | exact At.cast (by assumption) (by omega)) ?_; k_whole)); intro c' h' tk' F' N' R'; (try dsimp only at N'); (try dsimp only at R'); (try k_sweep))
  trivial
theorem push_choice_spec (B : Below A₀ base outer h₀) (F : Fr h₀ L s.heap m) (X : (hd.heap_39 w.params).In h₀) (N : News h₀ L s.heap (Led a k c σ rest)) (T : TopF mean mg mb h₀) (hk : cs.kind = .function) (hdp : dp + 2 < recursionLimit) (hun : un + 116 < cLine)
    (R : Rel k imm c σ) (hS : Sm σ) (hO : Off a rest) (hA : Ord a) (hI : ∀ p ∈ imm, p ∈ rest) {n alt : Int} {tn : Tok} {lx : Addr} {ln : Nat} {vs : List Value} {ds : List Dat} (hm : (lx, listOf vs.toArray ln) ∈ rest) (hd : DatAll (KV ++ imm) vs ds) (h4 : ds.length ≤ 3) (ht : IsTop σ n) (h0 : 0 ≤ n) (h1 : n ≤ σ.sk.length) (h2 : σ.sk.length ≤ 3900)
    (ret : ∀ c' h' tk', Fr h₀ L h' m → News h₀ L h' (Led a k c' { σ with sk := segS σ.sk n.toNat (.int (ds.length : Int) :: (ds ++ [.int σ.e,.int σ.cp,.int σ.b,.int alt,.int (σ.tr.length : Int),.int (σ.hp.length : Int),.int σ.b0])), b := n, hb := (σ.hp.length : Int), bb := n } rest) → Rel k imm c' { σ with sk := segS σ.sk n.toNat (.int (ds.length : Int) :: (ds ++ [.int σ.e,.int σ.cp,.int σ.b,.int alt,.int (σ.tr.length : Int),.int (σ.hp.length : Int),.int σ.b0])), b := n, hb := (σ.hp.length : Int), bb := n } → Q .none { s with heap := h', toks := tk' }) :
    wpAny (model prog w) (ktrTop dp un gd cn cs L ca ccd cl outer) (call (.ref 468) [.ref a.m, .ref lx, .int alt tn]) Q E s := by
  have dS := R.s
  obtain ⟨zH, zS, zT, zX⟩ := id hS
  obtain ⟨o1, o2, o3, o4, o5, o6, o7⟩ := id hA
  have q0 := hd.length
  have q1 : At (segS σ.sk n.toNat ([.int (ds.length : Int)] ++ ds ++ [.int σ.e] ++ [.int σ.cp] ++ [.int σ.b] ++ [.int alt] ++ [.int (σ.tr.length : Int)] ++ [.int (σ.hp.length : Int)] ++ [.int σ.b0])) n (.int (ds.length : Int)) := segAt (i := 0) (by omega) rfl (by omega)
  have q2 : At (segS σ.sk n.toNat ([.int (ds.length : Int)] ++ ds ++ [.int σ.e] ++ [.int σ.cp] ++ [.int σ.b] ++ [.int alt] ++ [.int (σ.tr.length : Int)] ++ [.int (σ.hp.length : Int)] ++ [.int σ.b0])) (n + (ds.length : Int) + 6) (.int (σ.hp.length : Int)) := by
    refine segAt (i := ds.length + 6) (by omega) ?_ (by omega)
    simp only [List.append_assoc, List.cons_append, List.nil_append]
    rw [List.getElem?_cons_succ, List.getElem?_append_right (by omega)]
    have : ds.length + 5 - ds.length = 5 := by omega
    rw [this]; rfl
  have mkf : MarkF := ⟨⟩
  refine wpAny_call ?_
  k_dflt ktr_enter
  k_steps
  refine Stop.out ?_
  (rename Fr _ _ _ _ => F1); (rename News _ _ _ _ => N1); (rename Rel _ _ _ _ => R1)
  refine' led_list (fun i m₁ c₁ σ₁ => σ₁ = { σ with sk := segS σ.sk n.toNat ([.int (ds.length : Int)] ++ ds.take i) } ∧ Rel k imm c₁ σ₁ ∧ ∃ z t3 t4, z = n + (i : Int) ∧ ∀ p ∈ [(Str.ofString "self", Value.ref a.m), (Str.ofString "store", Value.ref a.st), (Str.ofString "at", Value.int z t3), (Str.ofString "place", Value.int n t4), (Str.ofString "alternative", Value.int alt tn)], m₁ p.1 = some p.2) rfl hm ?fF ?fN ?_ ?_ ?_
  case fF => exact F1
  case fN => exact N1
  · exact ⟨by simp, R1, n, _, _, by simp, allC rfl (allC rfl (allC rfl (allC rfl (all1 rfl))))⟩
  · clear F1 N1 R1
    rintro i v m₁ c₁ σ₁ h tk own hv hown ⟨rfl, R1, z, t3, t4, rfl, hm1⟩ F1 N1
    rw [knownL hm1] at F1
    obtain ⟨d, hd1, hv1⟩ := datGet hd hv
    have hi : i < ds.length := (List.getElem?_eq_some_iff.mp hd1).1
    have hl : (ds.take i).length = i := by rw [List.length_take]; omega
    have hO := offApp hO hown
    have hI' : ∀ p ∈ imm, p ∈ rest ++ own := fun p hp => List.mem_append.mpr (.inl (hI p hp))
    k_steps
    (rename Fr _ _ _ _ => F2); (rename News _ _ _ _ => N2); (rename Rel _ _ _ _ => R2)
    refine ⟨_, _, _, _, _, rfl, F2, N2, ?_, R2, _, _, _, ?_, allC rfl (allC rfl (allC rfl (allC rfl (all1 rfl))))⟩
    · rw [dTakeS hd1, List.append_assoc]; rfl
    · omega
  · rintro m₁ c₁ σ₁ h tk ⟨rfl, R1, z, t3, t4, rfl, hm1⟩ F1 N1
    rw [knownL hm1] at F1
    rw [q0, List.take_length] at R1 N1
    k_steps
    all_goals ((rename Fr h₀ _ _ _ => qF); (rename News h₀ _ _ _ => qN); (rename Rel _ _ _ _ => qR); (simp only [List.append_assoc, List.cons_append, List.nil_append] at qN qR); exact ret _ _ _ qF qN qR)

end
end Mine
namespace Mine
theorem kw0_C5 : True := by
  k_with_none
  w_top off
  trivial
theorem fill5 : PySem.Challenge.rw_sa0158_01 = PySem.Challenge.rw_sa0158_01 ∧ hd.heap_39 = hd.heap_39 := by k_fill; exact ⟨rfl, rfl⟩
section
variable {prog : Program} {w : World} {mean : ExcName → Option Value} {mg mb : Str → Option Value} {dp un : Nat} {gd : Option (List Code)} {cn : Str} {cs : Scope} {ca : Addr} {ccd : Value} {cl : List (Str × Addr)} {outer : List Env} {A₀ : Around} {base h₀ : Heap} {L : Addr} {m : Str → Option Value} {s : Shared} {Q E : Value → Shared → Prop}
  {a : Adr} {k : Kon} {c : Con} {σ : W} {imm rest : List (Addr × Obj)}
theorem kw_C5_0 : True := by
  k_with_none
  k_with "k_upd" => first | exact upd_sk (by assumption) (by assumption) | exact upd_hp (by assumption) (by assumption) | exact upd_tr (by assumption) (by assumption) | exact upd_xs (by assumption) (by assumption) | exact upd_dm (by assumption) (by assumption) | exact upd_ds (by assumption) (by assumption) | exact upd_pt (by assumption) (by assumption) (by assumption) (by assumption) | exact upd_nu (by assumption) (by assumption) (by assumption) (by assumption) | exact upd_kl (by assumption) (by assumption) (by assumption) (by assumption) (by assumption)
  k_with "k_ne" => (refine neN ?_; (try dsimp only); first | exact Nat.ne_of_gt (by with_reducible assumption) | exact Nat.ne_of_lt (by with_reducible assumption) | exact Nat.ne_of_gt (And.left (by with_reducible assumption)) | exact Nat.ne_of_gt (cj1 (by with_reducible assumption)) | exact Nat.ne_of_gt (cj2 (by with_reducible assumption)) | exact Nat.ne_of_gt (cj3 (by with_reducible assumption)) | exact Nat.ne_of_gt (cj4 (by with_reducible assumption)) | exact Nat.ne_of_gt (cj5 (by with_reducible assumption)) | exact Nat.ne_of_gt (cj6 (by with_reducible assumption)) | exact Nat.ne_of_gt (cj7 (by with_reducible assumption)) | exact Nat.ne_of_gt (cj8 (by with_reducible assumption)) | exact Nat.ne_of_gt (cj9 (by with_reducible assumption)) | exact Nat.ne_of_gt (cj10 (by with_reducible assumption)) | exact Nat.ne_of_gt (cj11 (by with_reducible assumption)) | exact Nat.ne_of_gt (cj12 (by with_reducible assumption)) | exact Nat.ne_of_gt (ce1 (by with_reducible assumption)) | exact Nat.ne_of_gt (ce2 (by with_reducible assumption)) | exact Nat.ne_of_gt (ce3 (by with_reducible assumption)) | exact Nat.ne_of_gt (ce4 (by with_reducible assumption)) | exact Nat.ne_of_gt (ce5 (by with_reducible assumption)) | exact Nat.ne_of_gt (ce6 (by with_reducible assumption)) | exact Nat.ne_of_gt (ce7 (by with_reducible assumption)) | exact Nat.ne_of_gt (ce8 (by with_reducible assumption)) | exact Nat.ne_of_gt (ce9 (by with_reducible assumption)) | exact Nat.ne_of_gt (ce10 (by with_reducible assumption)) | exact Nat.ne_of_gt (ce11 (by with_reducible assumption)) | exact Nat.ne_of_gt (ce12 (by with_reducible assumption)) | exact Nat.ne_of_lt (And.left (by with_reducible assumption)) | exact Nat.ne_of_lt (cj1 (by with_reducible assumption)) | exact Nat.ne_of_lt (cj2 (by with_reducible assumption)) | exact Nat.ne_of_lt (cj3 (by with_reducible assumption)) | exact Nat.ne_of_lt (cj4 (by with_reducible assumption)) | exact Nat.ne_of_lt (cj5 (by with_reducible assumption)) | exact Nat.ne_of_lt (cj6 (by with_reducible assumption)) | exact Nat.ne_of_lt (cj7 (by with_reducible assumption)) | exact Nat.ne_of_lt (cj8 (by with_reducible assumption)) | exact Nat.ne_of_lt (cj9 (by with_reducible assumption)) | exact Nat.ne_of_lt (cj10 (by with_reducible assumption)) | exact Nat.ne_of_lt (cj11 (by with_reducible assumption)) | exact Nat.ne_of_lt (cj12 (by with_reducible assumption)) | exact Nat.ne_of_lt (ce1 (by with_reducible assumption)) | exact Nat.ne_of_lt (ce2 (by with_reducible assumption)) | exact Nat.ne_of_lt (ce3 (by with_reducible assumption)) | exact Nat.ne_of_lt (ce4 (by with_reducible assumption)) | exact Nat.ne_of_lt (ce5 (by with_reducible assumption)) | exact Nat.ne_of_lt (ce6 (by with_reducible assumption)) | exact Nat.ne_of_lt (ce7 (by with_reducible assumption)) | exact Nat.ne_of_lt (ce8 (by with_reducible assumption)) | exact Nat.ne_of_lt (ce9 (by with_reducible assumption)) | exact Nat.ne_of_lt (ce10 (by with_reducible assumption)) | exact Nat.ne_of_lt (ce11 (by with_reducible assumption)) | exact Nat.ne_of_lt (ce12 (by with_reducible assumption)))
  k_with "k_all" => first | exact Off.m (by assumption) | exact Off.dm (by assumption) | exact Off.st (by assumption) | exact Off.ds (by assumption) | exact Off.hp (by assumption) | exact Off.sk (by assumption) | exact Off.tr (by assumption) | exact Off.xs (by assumption)
  k_with "call builtin:len" => (k_here; (with_reducible show wpAny _ _ (call (Value.builtin "len") [Value.ref _]) _ _ _); k_dflt (refine' len_lst (by k_asm) (by k_mem) (by first | omega | (dsimp only; omega)) ?_; k_whole); intro t' tk')
  k_with "subscriptTail" => (k_here; (with_reducible show wpAny _ _ (subscriptTail _ _ (Value.ref _) (Value.int _ _)) _ _ _); k_dflt (refine' item_lst (by k_asm) (by k_mem) (by first | assumption | exact Rel.s (by assumption) | exact Rel.h (by assumption) | exact Rel.x (by assumption)) (by first | assumption | exact At.cast (by assumption) (by omega)) (by first | omega | (dsimp only; omega)) ?_ (by with_unfolding_all rfl); k_whole); intro v' hv')
  k_with "subscriptTail" => (k_here; (with_reducible show wpAny _ _ (subscriptTail _ _ (Value.ref _) (Value.int _ _)) _ _ _); k_dflt (refine' itemI_lst (by k_asm) (by k_mem) (by first | assumption | exact Rel.s (by assumption) | exact Rel.h (by assumption) | exact Rel.x (by assumption)) (by first | assumption | exact At.cast (by assumption) (by omega)) (by first | omega | (dsimp only; omega)) ?_ (by with_unfolding_all rfl); k_whole); intro t')
  k_with "setItem ref" => (k_here; (with_reducible show wpAny _ _ (setItem (Value.ref _) (Value.int _ _) _) _ _ _); k_dflt (refine' set_lst (by k_asm) (by k_asm) (by k_upd) (by omega) (by omega) (by first | omega | (dsimp only; omega)) ?_; k_whole); intro h' F' N'; (try k_sweep))
  k_with "call builtin:list.append" => (k_here; (with_reducible show wpAny _ _ (call (Value.builtin _) [Value.ref _, _]) _ _ _); k_dflt (refine' append_lst (by k_asm) (by k_asm) (by k_upd) (by first | omega | (dsimp only; omega)) ?_; k_whole); intro h' F' N'; (try k_sweep))
  k_with "WhlIf" => first | refine WhlIf.yes (decide_eq_true (by omega)) ?_ | refine WhlIf.no (decide_eq_false (by omega)) ?_
  k_with "exec While Compare cons nil" => ((with_reducible rename MarkW => mk'); clear mk'; refine Stop.by ?_)
  k_with "exec For Name Name cons nil" => ((with_reducible rename MarkF => mk'); (rename Fr _ _ _ _ => lF'); (with_unfolding_all refine' For_invVF lF' (by exact rfl) (by exact rfl) ?_; k_whole))
  k_with "exec For Name Call cons nil" => ((with_reducible rename MarkF => mk'); (rename Fr _ _ _ _ => lF'); (with_unfolding_all refine' For_invVF lF' (by exact rfl) (by exact rfl) ?_; k_whole))
  k_with "pyIter ref" => ((with_reducible rename MarkF => mk'); clear mk'; refine Stop.by ?_)
  k_with "exec While Constant" => (k_here; k_dflt (refine whl_start 100 ?_))
  k_with "compareOp Eq" => (k_here; k_dflt (refine' eq_datB (by assumption) (by assumption) (by exact mem9s (by k_asm) (by repeat (first | assumption | refine immTail ?_)) (by k_asm) (by k_asm)) (by first | rfl | assumption) (by first | rfl | assumption) (by ktr_units) ?_; k_whole))
  k_with "subscriptTail" => (k_here; (with_reducible show wpAny _ _ (subscriptTail _ _ (Value.ref _) (Value.int _ _)) _ _ _); k_dflt (refine' tup9B (by assumption) (by exact mem9s (by k_asm) (by repeat (first | assumption | refine immTail ?_)) (by k_asm) (by k_asm)) (by decide) (by decide) (by rfl) (by rfl) ?_ (by with_unfolding_all rfl); k_whole))
  k_with "call builtin:list.pop" => (k_here; (with_reducible show wpAny _ _ (call (Value.builtin _) [Value.ref _]) _ _ _); k_dflt (refine' pop_lst (by k_asm) (by k_asm) (by k_upd) (by first | omega | (dsimp only; omega)) ?_; k_whole); intro h' F' N'; (try k_sweep))
  k_with "UnrEnd" => (refine unrLed (by k_asm) (by k_asm) (by assumption) ?_)
  k_with "k_mem" => first | with_reducible assumption | (refine memOf ?_; with_reducible assumption)
  k_with "k_all" => assumption
  trivial
theorem undo_to_spec (B : Below A₀ base outer h₀) (F : Fr h₀ L s.heap m) (X : (hd.heap_39 w.params).In h₀) (N : News h₀ L s.heap (Led a k c σ rest)) (T : TopF mean mg mb h₀) (hk : cs.kind = .function) (hdp : dp + 1 < recursionLimit) (hun : un + 108 < cLine)
    (R : Rel k imm c σ) (hS : Sm σ) (hO : Off a rest) (hA : Ord a) (hI : ∀ p ∈ imm, p ∈ rest) {n : Int} {tn : Tok} (h0 : 0 ≤ n) (h1 : n ≤ σ.tr.length) (h2 : ∀ x ∈ σ.tr, 0 ≤ x ∧ x < σ.hp.length)
    (ret : ∀ c' add h' tk', Fr h₀ L h' m → News h₀ L h' (Led a k c' (undoW σ n.toNat) (add ++ rest)) → Rel k (add ++ imm) c' (undoW σ n.toNat) → Adds a rest add → Q .none { s with heap := h', toks := tk' }) :
    wpAny (model prog w) (ktrTop dp un gd cn cs L ca ccd cl outer) (call (.ref 167) [.ref a.st, .int n tn]) Q E s := by
  obtain ⟨tp, tcp, te, tb, tb0, thb, tbb, vH, nH, vS, nS, vT, nT, vX, nX⟩ := c
  have dH := R.h; have dS := R.s; have dT := R.t; have dX := R.x
  have lH := dH.length; have lS := dS.length; have lT := dT.length; have lX := dX.length
  rw [List.length_map] at lT
  have hS' := hS
  have hA' := hA
  obtain ⟨zH, zS, zT, zX⟩ := hS
  obtain ⟨o1, o2, o3, o4, o5, o6, o7⟩ := id hA
  dsimp only at dH dS dT dX lH lS lT lX
  dsimp only [Led] at N
  have mkw : MarkW := ⟨⟩
  refine wpAny_call ?_
  k_dflt ktr_enter
  k_steps
  refine Stop.out ?_
  (rename Fr _ _ _ _ => F1); (rename News _ _ _ _ => N1)
  refine While_inv2 (fun j m₁ nx => n.toNat + j ≤ σ.tr.length ∧ (∃ c' add, nx = Led a k c' (undoW σ (n.toNat + j)) (add ++ rest) ∧ Rel k (add ++ imm) c' (undoW σ (n.toNat + j)) ∧ Adds a rest add) ∧ m₁ (Str.ofString "self") = some (.ref a.st) ∧ m₁ (Str.ofString "mark") = some (.int n tn)) (n₀ := σ.tr.length - n.toNat) F1 N1 ?_ ?_ (by with_unfolding_all passes_own)
  · have e : n.toNat + (σ.tr.length - n.toNat) = σ.tr.length := by omega
    rw [e, undoW_all]
    exact ⟨Nat.le_refl _, ⟨⟨tp, tcp, te, tb, tb0, thb, tbb, vH, nH, vS, nS, vT, nT, vX, nX⟩, [], rfl, ⟨dH, dS, dT, dX, R.c⟩, addsNil⟩, rfl, rfl⟩
  · clear N1 F1
    rintro j m₁ nx h₁ tk₁ F₁ N₁ ⟨hj, ⟨c', add, rfl, R', A'⟩, e1, e2⟩
    rw [known2 e1 e2] at F₁
    obtain ⟨tp, tcp, te, tb, tb0, thb, tbb, vH, nH, vS, nS, vT, nT, vX, nX⟩ := c'
    clear dH dS dT dX lH lS lT lX N R
    have dH := R'.h; have dS := R'.s; have dT := R'.t; have dX := R'.x
    have lH := dH.length; have lS := dS.length; have lT := dT.length; have lX := dX.length
    dsimp only at dH dS dT dX lH lS lT lX
    rw [undo_length] at lH
    have hO := offApp A'.off hO
    have hI' : ∀ p ∈ add ++ imm, p ∈ add ++ rest := immApp hI
    cases j with
    | zero =>
      rw [List.length_map, List.length_take] at lT
      dsimp only [Led] at N₁
      k_steps
      all_goals ((rename Fr h₀ _ _ _ => qF); (rename News h₀ _ _ _ => qN); exact ret ⟨_, _, _, _, _, _, _, _, _, _, _, _, _, _, _⟩ _ _ _ qF qN R' A')
    | succ j =>
      have hlt : n.toNat + j < σ.tr.length := by omega
      have hx := h2 _ (List.getElem_mem hlt)
      rw [← Nat.add_assoc, take_step hlt, List.map_append] at dT
      obtain ⟨vT, v, rfl, dT0, hv⟩ := datSnoc dT
      obtain ⟨t, rfl⟩ := datTi hv
      rw [List.length_map, List.length_take] at lT
      have lT2 := lT
      rw [List.length_append, List.length_singleton] at lT2
      dsimp only [Led] at N₁
      k_steps
      (rename Fr _ _ _ _ => F2); (rename News _ _ _ _ => N2)
      have N3 : ∃ D t1 t2, News _ _ _ (Led a k ⟨tp, tcp, te, tb, tb0, thb, tbb, vH.set (σ.tr[n.toNat + j]).toNat (.ref D), nH, vS, nS, vT, nT + 1, vX, nX⟩ (undoW σ (n.toNat + j)) (((D, tupO 0 (σ.tr[n.toNat + j]) t1 t2 0) :: add) ++ rest)) ∧ ∀ o, Adds a (add ++ rest) [(D, o)] :=
        ⟨_, _, _, newsSub N2 (by kqd_sub), fun o => addsOne (o := o) (rest := add ++ rest) (k := k) (c := ⟨tp, tcp, te, tb, tb0, thb, tbb, vH, nH, vS, nS, vT, nT, vX, nX⟩) (σ := σ) (allLt_all (by assumption))⟩
      obtain ⟨D, t1, t2, N3, hN⟩ := N3
      have hs : ∀ p ∈ add ++ imm, p ∈ ((D, tupO 0 (σ.tr[n.toNat + j]) t1 t2 0) :: add) ++ imm := fun p hp => List.Mem.tail _ hp
      refine ⟨_, _, _, _, j, rfl, F2, N3, Nat.lt_succ_self j, by omega, ⟨_, _, rfl, ⟨?_, dS.mono (kvMono hs), dT0.mono (kvMono hs), dX.mono (kvMono hs), R'.c.mono (kvMono hs)⟩, addsTrans A' (hN _)⟩, rfl, rfl⟩
      show DatAll _ _ (undo σ.hp (σ.tr.drop (n.toNat + j)))
      rw [undoW_step hlt]
      exact datSet (dH.mono (kvMono hs)) (DatIn.tuple (List.mem_append.mpr (.inr (List.Mem.head _))) (.cons (.int _ _) (.cons (.int _ _) .nil))) _

end
end Mine
namespace Mine
theorem kw0_DelS : True := by
  k_with_none
  w_top off
  trivial
theorem cut_take {α : Type} (f : Nat → Bool) (H : Nat) (l : List α) : ∀ (i : Nat), (∀ j, i ≤ j → j < i + l.length → f j = decide (H ≤ j)) → (l.zipIdx i).filterMap (fun p => if f p.2 = true then none else some p.1) = l.take (H - i) := by
  induction l with
  | nil => intro i _; simp
  | cons x l ih =>
    intro i h
    have h0 := h i (Nat.le_refl _) (by rw [List.length_cons]; omega)
    have hr := ih (i + 1) fun j h1 h2 => h j (by omega) (by rw [List.length_cons]; omega)
    rw [List.zipIdx_cons, List.filterMap_cons, hr]
    by_cases q : H ≤ i
    · rw [h0, decide_eq_true q]
      have e1 : H - i = 0 := by omega
      have e2 : H - (i + 1) = 0 := by omega
      simp [e1, e2]
    · rw [h0, decide_eq_false q]
      have e1 : H - i = (H - (i + 1)) + 1 := by rw [Nat.sub_add_eq, Nat.sub_add_cancel (Nat.sub_pos_of_lt (Nat.lt_of_not_le q))]
      rw [e1, List.take_succ_cons]
      simp
section
variable {prog : Program} {w : World} {A : Around} {E : Value → Shared → Prop} {s : Shared} {h₀ : Heap} {L l sl : Addr} {m : Str → Option Value} {news : List (Addr × Obj)} {news' : Nat → List (Addr × Obj)} {vs : List Value} {n : Nat} {k : Int} {u : Tok}
theorem del_from {Q : Unit → Shared → Prop} (ho : s.heap.get? l = some (listOf vs.toArray n)) (hs : s.heap.IsSliceOf sl (.int k u) .none .none) (h0 : 0 ≤ k) (h1 : k ≤ vs.length) (hz : vs.length ≤ 100000)
    (h : ∀ f, f vs.toArray = (vs.take k.toNat).toArray → Q () { s with heap := s.heap.update l (Obj.mapSeq f) }) : wpAny (model prog w) A (delItem (.ref l) (.ref sl)) Q E s := by
  obtain ⟨os, hos, hcs, hds⟩ := id hs
  have hTs : s.TypeIs (.ref sl) "slice" := ⟨os, hos, hcs⟩
  have hTl : s.TypeIs (.ref l) "list" := ⟨_, ho, rfl⟩
  refine wpAny_delItem_slot hTl (by decide) PySem.F.slot_list_delitem (wpAny_call_entry PySem.F.slot_list_delitem hTl PySem.F.entry_list_delitem ?_ (PySem.F.args_list_delitem_2 _ _))
  show wpAny _ _ (Builtin.List.listSubscript? (.ref sl) >>= _) _ _ s
  refine wpAny_bind ?_
  unfold Builtin.List.listSubscript?
  refine wpAny_bind (wpAny_specialOf hTs slice_no_index ?_)
  simp only [Option.isNone_none, if_true]
  refine wpAny_pure ?_
  show wpAny _ _ (typeOf (.ref sl) >>= _) _ _ s
  refine wpAny_bind (wpAny_typeOf hTs ?_)
  rw [if_neg (by decide)]
  rw [listSliceParts_eq]
  refine wpAny_bind (wpAny_bind (wpAny_field hos hds (x := .none) rfl (wpAny_bind (wpAny_listPart .none ?_))))
  rw [if_neg (by exact Bool.false_ne_true)]
  refine wpAny_bind (wpAny_field hos hds (x := .int k u) rfl (wpAny_bind (wpAny_listPart (.int k u) ?_)))
  refine wpAny_bind (wpAny_field hos hds (x := .none) rfl (wpAny_bind (wpAny_listPart .none (wpAny_pure ?_))))
  refine wpAny_bind (m := Builtin.List.listItems (.ref l)) ?_
  unfold Builtin.List.listItems
  refine wpAny_bind (wpAny_seqItems ho rfl (wpAny_pure ?_))
  refine wpAny_bind (wpAny_of_eq (sliceIndices_raw (some k) none none vs.toArray.size (by simp)) ?_)
  have e : sliceBounds (some k) none none vs.toArray.size = (k, (vs.length : Int), 1) := by
    simp only [sliceBounds, Option.getD_none, show (1 : Int) > 0 by decide, if_true, if_neg (show ¬ (k < 0) by omega), List.size_toArray]
    congr 1
    omega
  rw [e]
  refine wpAny_bind (wpAny_rule ?_)
  have hf : ∀ (f : Array Value → Array Value), (∀ xs : Array Value, f xs = (xs.toList.zipIdx.filterMap fun p => if (decide (k ≤ (p.2 : Int)) && decide ((p.2 : Int) < (vs.length : Int)) && (((p.2 : Int) - k) % 1 == 0)) = true then none else some p.1).toArray) → f vs.toArray = (vs.take k.toNat).toArray := by
    intro f e
    rw [e]
    have q := cut_take (fun i => decide (k ≤ (i : Int)) && decide ((i : Int) < (vs.length : Int)) && (((i : Int) - k) % 1 == 0)) k.toNat vs 0 fun j _ hj => by
      have a1 : (((j : Int) - k) % 1 == 0) = true := by rw [Int.emod_one]; rfl
      have a2 : decide ((j : Int) < (vs.length : Int)) = true := decide_eq_true (by omega)
      rw [a1, a2, Bool.and_true, Bool.and_true]
      by_cases q : k ≤ (j : Int)
      · rw [decide_eq_true q, decide_eq_true (show k.toNat ≤ j by omega)]
      · rw [decide_eq_false q, decide_eq_false (show ¬ k.toNat ≤ j by omega)]
    simp only [Nat.sub_zero] at q
    rw [← q]
  refine wpAny_bind (m := updateSeq l _) (wpAny_updateSeq ho rfl ?_ (by rw [List.size_toArray, sizeLine_eq]; omega) ?_)
  · refine wpAny_bind (wpAny_letGo (wpAny_pure ?_))
    exact ⟨_, rfl, h _ (hf _ fun xs => rfl)⟩
  · refine Nat.le_trans (Nat.le_of_eq (congrArg Array.size (hf _ fun xs => rfl))) ?_
    rw [List.size_toArray, List.length_take, sizeLine_eq]; omega
theorem del_lst {Q : Unit → Shared → Prop} (F : Fr h₀ L s.heap m) (N : News h₀ L s.heap news) (U : ∀ n', Upd l (listOf vs.toArray n) (listOf (vs.take k.toNat).toArray n') news (news' n')) (hsl : s.heap.IsSliceOf sl (.int k u) .none .none) (h0 : 0 ≤ k) (h1 : k ≤ vs.length) (hz : vs.length ≤ 100000)
    (h : ∀ h' n', Fr h₀ L h' m → News h₀ L h' (news' n') → Q () { s with heap := h' }) : wpAny (model prog w) A (delItem (.ref l) (.ref sl)) Q E s := by
  have U1 := U (if ((vs.take k.toNat).toArray.size == vs.toArray.size) = true then n else n + 1)
  obtain ⟨pre, post, e1, e2, a, b⟩ := U1.split
  subst e1
  have z := N (l, listOf vs.toArray n) (List.mem_append.mpr (.inr (.head _)))
  refine del_from z.1 hsl h0 h1 hz fun f hf => h _ (if ((vs.take k.toNat).toArray.size == vs.toArray.size) = true then n else n + 1) (F.change (Heap.SameBut.update ..) z.2.1 z.2.2) ?_
  rw [e2]
  exact ki_turn f N a b hf rfl
end
end Mine
namespace Mine
theorem kw0_C6 : True := by
  k_with_none
  w_top off
  trivial
theorem fill6 : PySem.Challenge.rw_sa0158_01 = PySem.Challenge.rw_sa0158_01 ∧ hd.heap_39 = hd.heap_39 := by k_fill; exact ⟨rfl, rfl⟩
section
variable {prog : Program} {w : World} {mean : ExcName → Option Value} {mg mb : Str → Option Value} {dp un : Nat} {gd : Option (List Code)} {cn : Str} {cs : Scope} {ca : Addr} {ccd : Value} {cl : List (Str × Addr)} {outer : List Env} {A₀ : Around} {base h₀ : Heap} {L : Addr} {m : Str → Option Value} {s : Shared} {Q E : Value → Shared → Prop}
  {a : Adr} {k : Kon} {c : Con} {σ : W} {imm rest : List (Addr × Obj)}
theorem kw_C6_0 : True := by
  k_with_none
  k_with "k_upd" => first | exact upd_sk (by assumption) (by assumption) | exact upd_hp (by assumption) (by assumption) | exact upd_tr (by assumption) (by assumption) | exact upd_xs (by assumption) (by assumption) | exact upd_dm (by assumption) (by assumption) | exact upd_ds (by assumption) (by assumption) | exact upd_pt (by assumption) (by assumption) (by assumption) (by assumption) | exact upd_nu (by assumption) (by assumption) (by assumption) (by assumption) | exact upd_kl (by assumption) (by assumption) (by assumption) (by assumption) (by assumption)
  k_with "k_ne" => (refine neN ?_; (try dsimp only); first | exact Nat.ne_of_gt (by with_reducible assumption) | exact Nat.ne_of_lt (by with_reducible assumption) | exact Nat.ne_of_gt (And.left (by with_reducible assumption)) | exact Nat.ne_of_gt (cj1 (by with_reducible assumption)) | exact Nat.ne_of_gt (cj2 (by with_reducible assumption)) | exact Nat.ne_of_gt (cj3 (by with_reducible assumption)) | exact Nat.ne_of_gt (cj4 (by with_reducible assumption)) | exact Nat.ne_of_gt (cj5 (by with_reducible assumption)) | exact Nat.ne_of_gt (cj6 (by with_reducible assumption)) | exact Nat.ne_of_gt (cj7 (by with_reducible assumption)) | exact Nat.ne_of_gt (cj8 (by with_reducible assumption)) | exact Nat.ne_of_gt (cj9 (by with_reducible assumption)) | exact Nat.ne_of_gt (cj10 (by with_reducible assumption)) | exact Nat.ne_of_gt (cj11 (by with_reducible assumption)) | exact Nat.ne_of_gt (cj12 (by with_reducible assumption)) | exact Nat.ne_of_gt (ce1 (by with_reducible assumption)) | exact Nat.ne_of_gt (ce2 (by with_reducible assumption)) | exact Nat.ne_of_gt (ce3 (by with_reducible assumption)) | exact Nat.ne_of_gt (ce4 (by with_reducible assumption)) | exact Nat.ne_of_gt (ce5 (by with_reducible assumption)) | exact Nat.ne_of_gt (ce6 (by with_reducible assumption)) | exact Nat.ne_of_gt (ce7 (by with_reducible assumption)) | exact Nat.ne_of_gt (ce8 (by with_reducible assumption)) | exact Nat.ne_of_gt (ce9 (by with_reducible assumption)) | exact Nat.ne_of_gt (ce10 (by with_reducible assumption)) | exact Nat.ne_of_gt (ce11 (by with_reducible assumption)) | exact Nat.ne_of_gt (ce12 (by with_reducible assumption)) | exact Nat.ne_of_lt (And.left (by with_reducible assumption)) | exact Nat.ne_of_lt (cj1 (by with_reducible assumption)) | exact Nat.ne_of_lt (cj2 (by with_reducible assumption)) | exact Nat.ne_of_lt (cj3 (by with_reducible assumption)) | exact Nat.ne_of_lt (cj4 (by with_reducible assumption)) | exact Nat.ne_of_lt (cj5 (by with_reducible assumption)) | exact Nat.ne_of_lt (cj6 (by with_reducible assumption)) | exact Nat.ne_of_lt (cj7 (by with_reducible assumption)) | exact Nat.ne_of_lt (cj8 (by with_reducible assumption)) | exact Nat.ne_of_lt (cj9 (by with_reducible assumption)) | exact Nat.ne_of_lt (cj10 (by with_reducible assumption)) | exact Nat.ne_of_lt (cj11 (by with_reducible assumption)) | exact Nat.ne_of_lt (cj12 (by with_reducible assumption)) | exact Nat.ne_of_lt (ce1 (by with_reducible assumption)) | exact Nat.ne_of_lt (ce2 (by with_reducible assumption)) | exact Nat.ne_of_lt (ce3 (by with_reducible assumption)) | exact Nat.ne_of_lt (ce4 (by with_reducible assumption)) | exact Nat.ne_of_lt (ce5 (by with_reducible assumption)) | exact Nat.ne_of_lt (ce6 (by with_reducible assumption)) | exact Nat.ne_of_lt (ce7 (by with_reducible assumption)) | exact Nat.ne_of_lt (ce8 (by with_reducible assumption)) | exact Nat.ne_of_lt (ce9 (by with_reducible assumption)) | exact Nat.ne_of_lt (ce10 (by with_reducible assumption)) | exact Nat.ne_of_lt (ce11 (by with_reducible assumption)) | exact Nat.ne_of_lt (ce12 (by with_reducible assumption)))
  k_with "k_all" => first | exact Off.m (by assumption) | exact Off.dm (by assumption) | exact Off.st (by assumption) | exact Off.ds (by assumption) | exact Off.hp (by assumption) | exact Off.sk (by assumption) | exact Off.tr (by assumption) | exact Off.xs (by assumption)
  k_with "call builtin:len" => (k_here; (with_reducible show wpAny _ _ (call (Value.builtin "len") [Value.ref _]) _ _ _); k_dflt (refine' len_lst (by k_asm) (by k_mem) (by first | omega | (dsimp only; omega)) ?_; k_whole); intro t' tk')
  k_with "subscriptTail" => (k_here; (with_reducible show wpAny _ _ (subscriptTail _ _ (Value.ref _) (Value.int _ _)) _ _ _); k_dflt (refine' item_lst (by k_asm) (by k_mem) (by first | assumption | exact Rel.s (by assumption) | exact Rel.h (by assumption) | exact Rel.x (by assumption)) (by first | assumption | exact At.cast (by assumption) (by omega)) (by first | omega | (dsimp only; omega)) ?_ (by with_unfolding_all rfl); k_whole); intro v' hv')
  k_with "subscriptTail" => (k_here; (with_reducible show wpAny _ _ (subscriptTail _ _ (Value.ref _) (Value.int _ _)) _ _ _); k_dflt (refine' itemI_lst (by k_asm) (by k_mem) (by first | assumption | exact Rel.s (by assumption) | exact Rel.h (by assumption) | exact Rel.x (by assumption)) (by first | assumption | exact At.cast (by assumption) (by omega)) (by first | omega | (dsimp only; omega)) ?_ (by with_unfolding_all rfl); k_whole); intro t')
  k_with "setItem ref" => (k_here; (with_reducible show wpAny _ _ (setItem (Value.ref _) (Value.int _ _) _) _ _ _); k_dflt (refine' set_lst (by k_asm) (by k_asm) (by k_upd) (by omega) (by omega) (by first | omega | (dsimp only; omega)) ?_; k_whole); intro h' F' N'; (try k_sweep))
  k_with "call builtin:list.append" => (k_here; (with_reducible show wpAny _ _ (call (Value.builtin _) [Value.ref _, _]) _ _ _); k_dflt (refine' append_lst (by k_asm) (by k_asm) (by k_upd) (by first | omega | (dsimp only; omega)) ?_; k_whole); intro h' F' N'; (try k_sweep))
  k_with "WhlIf" => first | refine WhlIf.yes (decide_eq_true (by omega)) ?_ | refine WhlIf.no (decide_eq_false (by omega)) ?_
  k_with "exec While Compare cons nil" => ((with_reducible rename MarkW => mk'); clear mk'; refine Stop.by ?_)
  k_with "exec For Name Name cons nil" => ((with_reducible rename MarkF => mk'); (rename Fr _ _ _ _ => lF'); (with_unfolding_all refine' For_invVF lF' (by exact rfl) (by exact rfl) ?_; k_whole))
  k_with "exec For Name Call cons nil" => ((with_reducible rename MarkF => mk'); (rename Fr _ _ _ _ => lF'); (with_unfolding_all refine' For_invVF lF' (by exact rfl) (by exact rfl) ?_; k_whole))
  k_with "pyIter ref" => ((with_reducible rename MarkF => mk'); clear mk'; refine Stop.by ?_)
  k_with "exec While Constant" => (k_here; k_dflt (refine whl_start 100 ?_))
  k_with "compareOp Eq" => (k_here; k_dflt (refine' eq_datB (by assumption) (by assumption) (by exact mem9s (by k_asm) (by repeat (first | assumption | refine immTail ?_)) (by k_asm) (by k_asm)) (by first | rfl | assumption) (by first | rfl | assumption) (by ktr_units) ?_; k_whole))
  k_with "subscriptTail" => (k_here; (with_reducible show wpAny _ _ (subscriptTail _ _ (Value.ref _) (Value.int _ _)) _ _ _); k_dflt (refine' tup9B (by assumption) (by exact mem9s (by k_asm) (by repeat (first | assumption | refine immTail ?_)) (by k_asm) (by k_asm)) (by decide) (by decide) (by rfl) (by rfl) ?_ (by with_unfolding_all rfl); k_whole))
  k_with "call builtin:list.pop" => (k_here; (with_reducible show wpAny _ _ (call (Value.builtin _) [Value.ref _]) _ _ _); k_dflt (refine' pop_lst (by k_asm) (by k_asm) (by k_upd) (by first | omega | (dsimp only; omega)) ?_; k_whole); intro h' F' N'; (try k_sweep))
  k_with "UnrEnd" => (refine unrLed (by k_asm) (by k_asm) (by assumption) ?_)
  k_with "k_mem" => first | with_reducible assumption | (refine memOf ?_; with_reducible assumption)
  k_with "k_all" => assumption
  trivial
theorem trim_spec (B : Below A₀ base outer h₀) (F : Fr h₀ L s.heap m) (X : (hd.heap_39 w.params).In h₀) (N : News h₀ L s.heap (Led a k c σ rest)) (T : TopF mean mg mb h₀) (hk : cs.kind = .function) (hdp : dp + 1 < recursionLimit) (hun : un + 108 < cLine)
    (R : Rel k imm c σ) (hS : Sm σ) (hO : Off a rest) (hA : Ord a) (hI : ∀ p ∈ imm, p ∈ rest) {n : Int} {tn : Tok} (h0 : 0 ≤ n) (h1 : n ≤ σ.hp.length)
    (ret : ∀ c' h' tk', Fr h₀ L h' m → News h₀ L h' (Led a k c' { σ with hp := σ.hp.take n.toNat } rest) → Rel k imm c' { σ with hp := σ.hp.take n.toNat } → Q .none { s with heap := h', toks := tk' }) :
    wpAny (model prog w) (ktrTop dp un gd cn cs L ca ccd cl outer) (call (.ref 118) [.ref a.st, .int n tn]) Q E s := by
  obtain ⟨tp, tcp, te, tb, tb0, thb, tbb, vH, nH, vS, nS, vT, nT, vX, nX⟩ := c
  have dH := R.h; have dS := R.s; have dT := R.t; have dX := R.x
  have lH := dH.length; have lS := dS.length; have lT := dT.length; have lX := dX.length
  rw [List.length_map] at lT
  have hS' := hS
  have hA' := hA
  obtain ⟨zH, zS, zT, zX⟩ := hS
  obtain ⟨o1, o2, o3, o4, o5, o6, o7⟩ := id hA
  dsimp only at dH dS dT dX lH lS lT lX
  dsimp only [Led] at N
  refine wpAny_call ?_
  k_dflt ktr_enter
  k_steps
  (rename Fr _ _ _ _ => F1); (rename News _ _ _ _ => N1)
  have N2 := N1.push F1 { cls := .type "slice", data := .fields #[.int n tn, .none, .none] }
  refine del_lst (vs := vH) (n := nH) (F1.push _) (newsSub N2 (fun p hp => List.Mem.tail _ hp)) (fun n' => by k_upd) (Heap.IsSliceOf.new ..) h0 (by omega) (by omega) ?_
  intro h' n' F2 N2
  k_steps
  all_goals ((rename Fr h₀ _ _ _ => qF); (rename News h₀ _ _ _ => qN); exact ret ⟨_, _, _, _, _, _, _, _, _, _, _, _, _, _, _⟩ _ _ qF qN ⟨dTake dH _, dS, dT, dX, R.c⟩)

end
end Mine
namespace Mine
theorem kw0_C10 : True := by
  k_with_none
  w_top off
  trivial
theorem fill10 : PySem.Challenge.rw_sa0158_01 = PySem.Challenge.rw_sa0158_01 ∧ hd.heap_39 = hd.heap_39 := by k_fill; exact ⟨rfl, rfl⟩
section
variable {prog : Program} {w : World} {mean : ExcName → Option Value} {mg mb : Str → Option Value} {dp un : Nat} {gd : Option (List Code)} {cn : Str} {cs : Scope} {ca : Addr} {ccd : Value} {cl : List (Str × Addr)} {outer : List Env} {A₀ : Around} {base h₀ : Heap} {L : Addr} {m : Str → Option Value} {s : Shared} {Q E : Value → Shared → Prop}
  {a : Adr} {k : Kon} {c : Con} {σ : W} {imm rest : List (Addr × Obj)}
theorem kw_C10_0 : True := by
  k_with_none
  k_with "k_upd" => first | exact upd_sk (by assumption) (by assumption) | exact upd_hp (by assumption) (by assumption) | exact upd_tr (by assumption) (by assumption) | exact upd_xs (by assumption) (by assumption) | exact upd_dm (by assumption) (by assumption) | exact upd_ds (by assumption) (by assumption) | exact upd_pt (by assumption) (by assumption) (by assumption) (by assumption) | exact upd_nu (by assumption) (by assumption) (by assumption) (by assumption) | exact upd_kl (by assumption) (by assumption) (by assumption) (by assumption) (by assumption)
  k_with "k_ne" => (refine neN ?_; (try dsimp only); first | exact Nat.ne_of_gt (by with_reducible assumption) | exact Nat.ne_of_lt (by with_reducible assumption) | exact Nat.ne_of_gt (And.left (by with_reducible assumption)) | exact Nat.ne_of_gt (cj1 (by with_reducible assumption)) | exact Nat.ne_of_gt (cj2 (by with_reducible assumption)) | exact Nat.ne_of_gt (cj3 (by with_reducible assumption)) | exact Nat.ne_of_gt (cj4 (by with_reducible assumption)) | exact Nat.ne_of_gt (cj5 (by with_reducible assumption)) | exact Nat.ne_of_gt (cj6 (by with_reducible assumption)) | exact Nat.ne_of_gt (cj7 (by with_reducible assumption)) | exact Nat.ne_of_gt (cj8 (by with_reducible assumption)) | exact Nat.ne_of_gt (cj9 (by with_reducible assumption)) | exact Nat.ne_of_gt (cj10 (by with_reducible assumption)) | exact Nat.ne_of_gt (cj11 (by with_reducible assumption)) | exact Nat.ne_of_gt (cj12 (by with_reducible assumption)) | exact Nat.ne_of_gt (ce1 (by with_reducible assumption)) | exact Nat.ne_of_gt (ce2 (by with_reducible assumption)) | exact Nat.ne_of_gt (ce3 (by with_reducible assumption)) | exact Nat.ne_of_gt (ce4 (by with_reducible assumption)) | exact Nat.ne_of_gt (ce5 (by with_reducible assumption)) | exact Nat.ne_of_gt (ce6 (by with_reducible assumption)) | exact Nat.ne_of_gt (ce7 (by with_reducible assumption)) | exact Nat.ne_of_gt (ce8 (by with_reducible assumption)) | exact Nat.ne_of_gt (ce9 (by with_reducible assumption)) | exact Nat.ne_of_gt (ce10 (by with_reducible assumption)) | exact Nat.ne_of_gt (ce11 (by with_reducible assumption)) | exact Nat.ne_of_gt (ce12 (by with_reducible assumption)) | exact Nat.ne_of_lt (And.left (by with_reducible assumption)) | exact Nat.ne_of_lt (cj1 (by with_reducible assumption)) | exact Nat.ne_of_lt (cj2 (by with_reducible assumption)) | exact Nat.ne_of_lt (cj3 (by with_reducible assumption)) | exact Nat.ne_of_lt (cj4 (by with_reducible assumption)) | exact Nat.ne_of_lt (cj5 (by with_reducible assumption)) | exact Nat.ne_of_lt (cj6 (by with_reducible assumption)) | exact Nat.ne_of_lt (cj7 (by with_reducible assumption)) | exact Nat.ne_of_lt (cj8 (by with_reducible assumption)) | exact Nat.ne_of_lt (cj9 (by with_reducible assumption)) | exact Nat.ne_of_lt (cj10 (by with_reducible assumption)) | exact Nat.ne_of_lt (cj11 (by with_reducible assumption)) | exact Nat.ne_of_lt (cj12 (by with_reducible assumption)) | exact Nat.ne_of_lt (ce1 (by with_reducible assumption)) | exact Nat.ne_of_lt (ce2 (by with_reducible assumption)) | exact Nat.ne_of_lt (ce3 (by with_reducible assumption)) | exact Nat.ne_of_lt (ce4 (by with_reducible assumption)) | exact Nat.ne_of_lt (ce5 (by with_reducible assumption)) | exact Nat.ne_of_lt (ce6 (by with_reducible assumption)) | exact Nat.ne_of_lt (ce7 (by with_reducible assumption)) | exact Nat.ne_of_lt (ce8 (by with_reducible assumption)) | exact Nat.ne_of_lt (ce9 (by with_reducible assumption)) | exact Nat.ne_of_lt (ce10 (by with_reducible assumption)) | exact Nat.ne_of_lt (ce11 (by with_reducible assumption)) | exact Nat.ne_of_lt (ce12 (by with_reducible assumption)))
  k_with "k_all" => first | exact Off.m (by assumption) | exact Off.dm (by assumption) | exact Off.st (by assumption) | exact Off.ds (by assumption) | exact Off.hp (by assumption) | exact Off.sk (by assumption) | exact Off.tr (by assumption) | exact Off.xs (by assumption)
  k_with "call builtin:len" => (k_here; (with_reducible show wpAny _ _ (call (Value.builtin "len") [Value.ref _]) _ _ _); k_dflt (refine' len_lst (by k_asm) (by k_mem) (by first | omega | (dsimp only; omega)) ?_; k_whole); intro t' tk')
  k_with "subscriptTail" => (k_here; (with_reducible show wpAny _ _ (subscriptTail _ _ (Value.ref _) (Value.int _ _)) _ _ _); k_dflt (refine' item_lst (by k_asm) (by k_mem) (by first | assumption | exact Rel.s (by assumption) | exact Rel.h (by assumption) | exact Rel.x (by assumption)) (by first | assumption | exact At.cast (by assumption) (by omega)) (by first | omega | (dsimp only; omega)) ?_ (by with_unfolding_all rfl); k_whole); intro v' hv')
  k_with "subscriptTail" => (k_here; (with_reducible show wpAny _ _ (subscriptTail _ _ (Value.ref _) (Value.int _ _)) _ _ _); k_dflt (refine' itemI_lst (by k_asm) (by k_mem) (by first | assumption | exact Rel.s (by assumption) | exact Rel.h (by assumption) | exact Rel.x (by assumption)) (by first | assumption | exact At.cast (by assumption) (by omega)) (by first | omega | (dsimp only; omega)) ?_ (by with_unfolding_all rfl); k_whole); intro t')
  k_with "setItem ref" => (k_here; (with_reducible show wpAny _ _ (setItem (Value.ref _) (Value.int _ _) _) _ _ _); k_dflt (refine' set_lst (by k_asm) (by k_asm) (by k_upd) (by omega) (by omega) (by first | omega | (dsimp only; omega)) ?_; k_whole); intro h' F' N'; (try k_sweep))
  k_with "call builtin:list.append" => (k_here; (with_reducible show wpAny _ _ (call (Value.builtin _) [Value.ref _, _]) _ _ _); k_dflt (refine' append_lst (by k_asm) (by k_asm) (by k_upd) (by first | omega | (dsimp only; omega)) ?_; k_whole); intro h' F' N'; (try k_sweep))
  k_with "WhlIf" => first | refine WhlIf.yes (decide_eq_true (by omega)) ?_ | refine WhlIf.no (decide_eq_false (by omega)) ?_
  k_with "exec While Compare cons nil" => ((with_reducible rename MarkW => mk'); clear mk'; refine Stop.by ?_)
  k_with "exec For Name Name cons nil" => ((with_reducible rename MarkF => mk'); (rename Fr _ _ _ _ => lF'); (with_unfolding_all refine' For_invVF lF' (by exact rfl) (by exact rfl) ?_; k_whole))
  k_with "exec For Name Call cons nil" => ((with_reducible rename MarkF => mk'); (rename Fr _ _ _ _ => lF'); (with_unfolding_all refine' For_invVF lF' (by exact rfl) (by exact rfl) ?_; k_whole))
  k_with "pyIter ref" => ((with_reducible rename MarkF => mk'); clear mk'; refine Stop.by ?_)
  k_with "exec While Constant" => (k_here; k_dflt (refine whl_start 100 ?_))
  k_with "compareOp Eq" => (k_here; k_dflt (refine' eq_datB (by assumption) (by assumption) (by exact mem9s (by k_asm) (by repeat (first | assumption | refine immTail ?_)) (by k_asm) (by k_asm)) (by first | rfl | assumption) (by first | rfl | assumption) (by ktr_units) ?_; k_whole))
  k_with "subscriptTail" => (k_here; (with_reducible show wpAny _ _ (subscriptTail _ _ (Value.ref _) (Value.int _ _)) _ _ _); k_dflt (refine' tup9B (by assumption) (by exact mem9s (by k_asm) (by repeat (first | assumption | refine immTail ?_)) (by k_asm) (by k_asm)) (by decide) (by decide) (by rfl) (by rfl) ?_ (by with_unfolding_all rfl); k_whole))
  k_with "call builtin:list.pop" => (k_here; (with_reducible show wpAny _ _ (call (Value.builtin _) [Value.ref _]) _ _ _); k_dflt (refine' pop_lst (by k_asm) (by k_asm) (by k_upd) (by first | omega | (dsimp only; omega)) ?_; k_whole); intro h' F' N'; (try k_sweep))
  k_with "UnrEnd" => (refine unrLed (by k_asm) (by k_asm) (by assumption) ?_)
  k_with "k_mem" => first | with_reducible assumption | (refine memOf ?_; with_reducible assumption)
  k_with "k_all" => assumption
  k_with "call ref" => (k_here; (with_reducible show wpAny _ _ (call (Value.ref _) [_, _]) _ _ _); k_dflt (first | (refine' choice_part_spec (by k_asm) (by k_asm) (by k_asm) (by first | k_asm | (refine newsSub (by assumption) ?_; first | exact ledSwap | exact ledSwap2)) (by k_asm) (by rfl) (by ktr_room) (by ktr_units) (by assumption) (by first | assumption | (refine' smSame (by assumption) (by rfl) (by rfl) (by rfl) (by rfl)) | (refine' smUndo (by assumption) (by rfl) (by rfl) (by exact undo_length _ _) (by exact List.length_take_le' ..)) | exact smSeg (by assumption) (by omega) (by omega) (by simp only [List.length_append, List.length_cons, List.length_nil]; omega)) (by first | assumption | exact offPot (by assumption) (by assumption) (by assumption) | exact offApp (Adds.off (by assumption)) (by assumption) | exact offCons (by assumption) (by omega) (by omega) (by omega) (by omega) (by omega) (by omega) (by omega) (by omega)) (by assumption) (by first | assumption | exact immPot (by assumption) | exact immTail (by assumption) | exact immApp (by assumption)) (by assumption) (by first | assumption | exact At.cast (by assumption) (by omega)) ?_; k_whole)); intro t' h' tk' F' N'; (try dsimp only at N'); (try k_sweep))
  k_with "call ref" => (k_here; (with_reducible show wpAny _ _ (call (Value.ref _) [_, _, _]) _ _ _); k_dflt (first | (refine' set_x_spec (by k_asm) (by k_asm) (by k_asm) (by first | k_asm | (refine newsSub (by assumption) ?_; first | exact ledSwap | exact ledSwap2)) (by k_asm) (by rfl) (by ktr_room) (by ktr_units) (by assumption) (by first | assumption | (refine' smSame (by assumption) (by rfl) (by rfl) (by rfl) (by rfl)) | (refine' smUndo (by assumption) (by rfl) (by rfl) (by exact undo_length _ _) (by exact List.length_take_le' ..)) | exact smSeg (by assumption) (by omega) (by omega) (by simp only [List.length_append, List.length_cons, List.length_nil]; omega)) (by first | assumption | exact offPot (by assumption) (by assumption) (by assumption) | exact offApp (Adds.off (by assumption)) (by assumption) | exact offCons (by assumption) (by omega) (by omega) (by omega) (by omega) (by omega) (by omega) (by omega) (by omega)) (by assumption) (by first | assumption | exact immPot (by assumption) | exact immTail (by assumption) | exact immApp (by assumption)) (by omega) (by omega) (by first | assumption | exact DatIn.int _ _ | exact voidIn) ?_; k_whole)); intro c' h' tk' F' N' R'; (try dsimp only at N'); (try dsimp only at R'); (try k_sweep))
  k_with "call ref" => (k_here; (with_reducible show wpAny _ _ (call (Value.ref _) [_, _]) _ _ _); k_dflt (first | (refine' undo_to_spec (by k_asm) (by k_asm) (by k_asm) (by first | k_asm | (refine newsSub (by assumption) ?_; first | exact ledSwap | exact ledSwap2)) (by k_asm) (by rfl) (by ktr_room) (by ktr_units) (by assumption) (by first | assumption | (refine' smSame (by assumption) (by rfl) (by rfl) (by rfl) (by rfl)) | (refine' smUndo (by assumption) (by rfl) (by rfl) (by exact undo_length _ _) (by exact List.length_take_le' ..)) | exact smSeg (by assumption) (by omega) (by omega) (by simp only [List.length_append, List.length_cons, List.length_nil]; omega)) (by first | assumption | exact offPot (by assumption) (by assumption) (by assumption) | exact offApp (Adds.off (by assumption)) (by assumption) | exact offCons (by assumption) (by omega) (by omega) (by omega) (by omega) (by omega) (by omega) (by omega) (by omega)) (by assumption) (by first | assumption | exact immPot (by assumption) | exact immTail (by assumption) | exact immApp (by assumption)) (by omega) (by first | omega | (dsimp only; omega)) (by assumption) ?_; k_whole)); intro c' add' h' tk' F' N' R' A'; (try dsimp only at N'); (try dsimp only at R'); (try k_sweep))
  k_with "call ref" => (k_here; (with_reducible show wpAny _ _ (call (Value.ref _) [_, _]) _ _ _); k_dflt (first | (refine' trim_spec (by k_asm) (by k_asm) (by k_asm) (by first | k_asm | (refine newsSub (by assumption) ?_; first | exact ledSwap | exact ledSwap2)) (by k_asm) (by rfl) (by ktr_room) (by ktr_units) (by assumption) (by first | assumption | (refine' smSame (by assumption) (by rfl) (by rfl) (by rfl) (by rfl)) | (refine' smUndo (by assumption) (by rfl) (by rfl) (by exact undo_length _ _) (by exact List.length_take_le' ..)) | exact smSeg (by assumption) (by omega) (by omega) (by simp only [List.length_append, List.length_cons, List.length_nil]; omega)) (by first | assumption | exact offPot (by assumption) (by assumption) (by assumption) | exact offApp (Adds.off (by assumption)) (by assumption) | exact offCons (by assumption) (by omega) (by omega) (by omega) (by omega) (by omega) (by omega) (by omega) (by omega)) (by assumption) (by first | assumption | exact immPot (by assumption) | exact immTail (by assumption) | exact immApp (by assumption)) (by omega) (by (dsimp only; (try simp only [undo_length]); omega)) ?_; k_whole)); intro c' h' tk' F' N' R'; (try dsimp only at N'); (try dsimp only at R'); (try k_sweep))
  k_with "setAttr ref" => (k_here; k_dflt (first | ((with_reducible show wpAny _ _ (setAttr _ (PySem.Str.ofString "e") _) _ _ _); refine' set_e (by k_asm) (by k_asm) (by k_asm) (by assumption) (by assumption) (by assumption) ?_; k_whole) | ((with_reducible show wpAny _ _ (setAttr _ (PySem.Str.ofString "cp") _) _ _ _); refine' set_cp (by k_asm) (by k_asm) (by k_asm) (by assumption) (by assumption) (by assumption) ?_; k_whole) | ((with_reducible show wpAny _ _ (setAttr _ (PySem.Str.ofString "p") _) _ _ _); refine' set_p (by k_asm) (by k_asm) (by k_asm) (by assumption) (by assumption) (by assumption) ?_; k_whole) | ((with_reducible show wpAny _ _ (setAttr _ (PySem.Str.ofString "b0") _) _ _ _); refine' set_b0 (by k_asm) (by k_asm) (by k_asm) (by assumption) (by assumption) (by assumption) ?_; k_whole)); intro h' c' F' N' R'; (try dsimp only at N' R'); (try k_sweep))
  trivial
theorem restore_choice_spec (B : Below A₀ base outer h₀) (F : Fr h₀ L s.heap m) (X : (hd.heap_39 w.params).In h₀) (N : News h₀ L s.heap (Led a k c σ rest)) (T : TopF mean mg mb h₀) (hk : cs.kind = .function) (hdp : dp + 2 < recursionLimit) (hun : un + 116 < cLine)
    (R : Rel k imm c σ) (hS : Sm σ) (hO : Off a rest) (hA : Ord a) (hI : ∀ p ∈ imm, p ∈ rest) {ds : List Dat} {e' cp' mk hl : Int} (hc : At σ.sk σ.b (.int (ds.length : Int))) (hr : ∀ (i : Nat) d, ds[i]? = some d → At σ.sk (σ.b + (1 + (i : Int))) d) (h3 : ds.length ≤ 3) (g1 : At σ.sk (σ.b + (ds.length : Int) + 1) (.int e')) (g2 : At σ.sk (σ.b + (ds.length : Int) + 2) (.int cp')) (g5 : At σ.sk (σ.b + (ds.length : Int) + 5) (.int mk)) (g6 : At σ.sk (σ.b + (ds.length : Int) + 6) (.int hl)) (m0 : 0 ≤ mk) (m1 : mk ≤ σ.tr.length) (m2 : ∀ x ∈ σ.tr, 0 ≤ x ∧ x < σ.hp.length) (l0 : 0 ≤ hl) (l1 : hl ≤ σ.hp.length)
    (ret : ∀ c' add h' tk', Fr h₀ L h' m → News h₀ L h' (Led a k c' { σ with x := segS σ.x 1 ds, e := e', cp := cp', tr := σ.tr.take mk.toNat, hp := (undo σ.hp (σ.tr.drop mk.toNat)).take hl.toNat } (add ++ rest)) → Rel k (add ++ imm) c' { σ with x := segS σ.x 1 ds, e := e', cp := cp', tr := σ.tr.take mk.toNat, hp := (undo σ.hp (σ.tr.drop mk.toNat)).take hl.toNat } → Adds a rest add → Q .none { s with heap := h', toks := tk' }) :
    wpAny (model prog w) (ktrTop dp un gd cn cs L ca ccd cl outer) (call (.ref 489) [.ref a.m]) Q E s := by
  have dS := R.s
  obtain ⟨zH, zS, zT, zX⟩ := id hS
  obtain ⟨o1, o2, o3, o4, o5, o6, o7⟩ := id hA
  have mkf : MarkF := ⟨⟩
  have hb : (ds.length : Int) ≤ 4000 := by omega
  have h3' : Stop (ds.length ≤ 3) := h3
  clear h3
  refine wpAny_call ?_
  k_dflt ktr_enter
  k_steps
  refine Stop.out ?_
  (rename Fr _ _ _ _ => F1); (rename News _ _ _ _ => N1)
  refine' led_range (n := ds.length) (fun i m₁ c₁ σ₁ => σ₁ = { σ with x := segS σ.x 1 (ds.take i) } ∧ Rel k imm c₁ σ₁ ∧ ∀ p ∈ [(Str.ofString "self", Value.ref a.m), (Str.ofString "store", Value.ref a.st)], m₁ p.1 = some p.2) rfl ?r1 ?r2 ?r3 ?fF ?fN ?_ ?_ ?_
  case r1 => assumption
  case r3 => exact rangeLen
  case fF => exact F1
  case fN => exact newsSub N1 (by kqd_sub)
  · exact small_one (by omega) (by omega) (by omega) (by omega)
  · exact ⟨by rw [List.take_zero, segNil], R, allC rfl (all1 rfl)⟩
  · clear F1 N1
    rintro i t m₁ c₁ σ₁ h tk own hi hown ⟨rfl, R1, hm1⟩ F1 N1
    rw [knownL hm1] at F1
    have hd1 := List.getElem?_eq_getElem hi
    have hr1 := hr i _ hd1
    have h3 : ds.length ≤ 3 := h3'
    have hl : (ds.take i).length = i := by rw [List.length_take]; omega
    have hO := offApp hO hown
    have hI' : ∀ p ∈ imm, p ∈ rest ++ own := fun p hp => List.mem_append.mpr (.inl (hI p hp))
    have hS1 : Sm { σ with x := segS σ.x 1 (ds.take i) } := smX hS (by omega)
    k_steps
    (rename Fr _ _ _ _ => F2); (rename News _ _ _ _ => N2); (rename Rel _ _ _ _ => R2)
    rw [setX hS.x (by omega) (by omega), ← dTakeS hd1] at N2 R2
    exact ⟨_, _, _, _, _, rfl, F2, N2, rfl, R2, allC rfl (all1 rfl)⟩
  · rintro m₁ c₁ σ₁ h tk ⟨rfl, R1, hm1⟩ F1 N1
    rw [knownL hm1] at F1
    rw [List.take_length] at R1 N1
    have h3 : ds.length ≤ 3 := h3'
    have hS1 : Sm { σ with x := segS σ.x 1 ds } := smX hS (by omega)
    k_steps
    all_goals ((rename Fr h₀ _ _ _ => qF); (rename News h₀ _ _ _ => qN); (rename Rel _ _ _ _ => qR); (rename Adds _ _ _ => qA); exact ret _ _ _ _ qF qN qR qA)

end
end Mine
namespace Mine
theorem kw0_C11 : True := by
  k_with_none
  w_top off
  trivial
theorem fill11 : PySem.Challenge.rw_sa0158_01 = PySem.Challenge.rw_sa0158_01 ∧ hd.heap_39 = hd.heap_39 := by k_fill; exact ⟨rfl, rfl⟩
section
variable {prog : Program} {w : World} {mean : ExcName → Option Value} {mg mb : Str → Option Value} {dp un : Nat} {gd : Option (List Code)} {cn : Str} {cs : Scope} {ca : Addr} {ccd : Value} {cl : List (Str × Addr)} {outer : List Env} {A₀ : Around} {base h₀ : Heap} {L : Addr} {m : Str → Option Value} {s : Shared} {Q E : Value → Shared → Prop}
  {a : Adr} {k : Kon} {c : Con} {σ : W} {imm rest : List (Addr × Obj)}
theorem kw_C11_0 : True := by
  k_with_none
  k_with "k_upd" => first | exact upd_sk (by assumption) (by assumption) | exact upd_hp (by assumption) (by assumption) | exact upd_tr (by assumption) (by assumption) | exact upd_xs (by assumption) (by assumption) | exact upd_dm (by assumption) (by assumption) | exact upd_ds (by assumption) (by assumption) | exact upd_pt (by assumption) (by assumption) (by assumption) (by assumption) | exact upd_nu (by assumption) (by assumption) (by assumption) (by assumption) | exact upd_kl (by assumption) (by assumption) (by assumption) (by assumption) (by assumption)
  k_with "k_ne" => (refine neN ?_; (try dsimp only); first | exact Nat.ne_of_gt (by with_reducible assumption) | exact Nat.ne_of_lt (by with_reducible assumption) | exact Nat.ne_of_gt (And.left (by with_reducible assumption)) | exact Nat.ne_of_gt (cj1 (by with_reducible assumption)) | exact Nat.ne_of_gt (cj2 (by with_reducible assumption)) | exact Nat.ne_of_gt (cj3 (by with_reducible assumption)) | exact Nat.ne_of_gt (cj4 (by with_reducible assumption)) | exact Nat.ne_of_gt (cj5 (by with_reducible assumption)) | exact Nat.ne_of_gt (cj6 (by with_reducible assumption)) | exact Nat.ne_of_gt (cj7 (by with_reducible assumption)) | exact Nat.ne_of_gt (cj8 (by with_reducible assumption)) | exact Nat.ne_of_gt (cj9 (by with_reducible assumption)) | exact Nat.ne_of_gt (cj10 (by with_reducible assumption)) | exact Nat.ne_of_gt (cj11 (by with_reducible assumption)) | exact Nat.ne_of_gt (cj12 (by with_reducible assumption)) | exact Nat.ne_of_gt (ce1 (by with_reducible assumption)) | exact Nat.ne_of_gt (ce2 (by with_reducible assumption)) | exact Nat.ne_of_gt (ce3 (by with_reducible assumption)) | exact Nat.ne_of_gt (ce4 (by with_reducible assumption)) | exact Nat.ne_of_gt (ce5 (by with_reducible assumption)) | exact Nat.ne_of_gt (ce6 (by with_reducible assumption)) | exact Nat.ne_of_gt (ce7 (by with_reducible assumption)) | exact Nat.ne_of_gt (ce8 (by with_reducible assumption)) | exact Nat.ne_of_gt (ce9 (by with_reducible assumption)) | exact Nat.ne_of_gt (ce10 (by with_reducible assumption)) | exact Nat.ne_of_gt (ce11 (by with_reducible assumption)) | exact Nat.ne_of_gt (ce12 (by with_reducible assumption)) | exact Nat.ne_of_lt (And.left (by with_reducible assumption)) | exact Nat.ne_of_lt (cj1 (by with_reducible assumption)) | exact Nat.ne_of_lt (cj2 (by with_reducible assumption)) | exact Nat.ne_of_lt (cj3 (by with_reducible assumption)) | exact Nat.ne_of_lt (cj4 (by with_reducible assumption)) | exact Nat.ne_of_lt (cj5 (by with_reducible assumption)) | exact Nat.ne_of_lt (cj6 (by with_reducible assumption)) | exact Nat.ne_of_lt (cj7 (by with_reducible assumption)) | exact Nat.ne_of_lt (cj8 (by with_reducible assumption)) | exact Nat.ne_of_lt (cj9 (by with_reducible assumption)) | exact Nat.ne_of_lt (cj10 (by with_reducible assumption)) | exact Nat.ne_of_lt (cj11 (by with_reducible assumption)) | exact Nat.ne_of_lt (cj12 (by with_reducible assumption)) | exact Nat.ne_of_lt (ce1 (by with_reducible assumption)) | exact Nat.ne_of_lt (ce2 (by with_reducible assumption)) | exact Nat.ne_of_lt (ce3 (by with_reducible assumption)) | exact Nat.ne_of_lt (ce4 (by with_reducible assumption)) | exact Nat.ne_of_lt (ce5 (by with_reducible assumption)) | exact Nat.ne_of_lt (ce6 (by with_reducible assumption)) | exact Nat.ne_of_lt (ce7 (by with_reducible assumption)) | exact Nat.ne_of_lt (ce8 (by with_reducible assumption)) | exact Nat.ne_of_lt (ce9 (by with_reducible assumption)) | exact Nat.ne_of_lt (ce10 (by with_reducible assumption)) | exact Nat.ne_of_lt (ce11 (by with_reducible assumption)) | exact Nat.ne_of_lt (ce12 (by with_reducible assumption)))
  k_with "k_all" => first | exact Off.m (by assumption) | exact Off.dm (by assumption) | exact Off.st (by assumption) | exact Off.ds (by assumption) | exact Off.hp (by assumption) | exact Off.sk (by assumption) | exact Off.tr (by assumption) | exact Off.xs (by assumption)
  k_with "call builtin:len" => (k_here; (with_reducible show wpAny _ _ (call (Value.builtin "len") [Value.ref _]) _ _ _); k_dflt (refine' len_lst (by k_asm) (by k_mem) (by first | omega | (dsimp only; omega)) ?_; k_whole); intro t' tk')
  k_with "subscriptTail" => (k_here; (with_reducible show wpAny _ _ (subscriptTail _ _ (Value.ref _) (Value.int _ _)) _ _ _); k_dflt (refine' item_lst (by k_asm) (by k_mem) (by first | assumption | exact Rel.s (by assumption) | exact Rel.h (by assumption) | exact Rel.x (by assumption)) (by first | assumption | exact At.cast (by assumption) (by omega)) (by first | omega | (dsimp only; omega)) ?_ (by with_unfolding_all rfl); k_whole); intro v' hv')
  k_with "subscriptTail" => (k_here; (with_reducible show wpAny _ _ (subscriptTail _ _ (Value.ref _) (Value.int _ _)) _ _ _); k_dflt (refine' itemI_lst (by k_asm) (by k_mem) (by first | assumption | exact Rel.s (by assumption) | exact Rel.h (by assumption) | exact Rel.x (by assumption)) (by first | assumption | exact At.cast (by assumption) (by omega)) (by first | omega | (dsimp only; omega)) ?_ (by with_unfolding_all rfl); k_whole); intro t')
  k_with "setItem ref" => (k_here; (with_reducible show wpAny _ _ (setItem (Value.ref _) (Value.int _ _) _) _ _ _); k_dflt (refine' set_lst (by k_asm) (by k_asm) (by k_upd) (by omega) (by omega) (by first | omega | (dsimp only; omega)) ?_; k_whole); intro h' F' N'; (try k_sweep))
  k_with "call builtin:list.append" => (k_here; (with_reducible show wpAny _ _ (call (Value.builtin _) [Value.ref _, _]) _ _ _); k_dflt (refine' append_lst (by k_asm) (by k_asm) (by k_upd) (by first | omega | (dsimp only; omega)) ?_; k_whole); intro h' F' N'; (try k_sweep))
  k_with "WhlIf" => first | refine WhlIf.yes (decide_eq_true (by omega)) ?_ | refine WhlIf.no (decide_eq_false (by omega)) ?_
  k_with "exec While Compare cons nil" => ((with_reducible rename MarkW => mk'); clear mk'; refine Stop.by ?_)
  k_with "exec For Name Name cons nil" => ((with_reducible rename MarkF => mk'); (rename Fr _ _ _ _ => lF'); (with_unfolding_all refine' For_invVF lF' (by exact rfl) (by exact rfl) ?_; k_whole))
  k_with "exec For Name Call cons nil" => ((with_reducible rename MarkF => mk'); (rename Fr _ _ _ _ => lF'); (with_unfolding_all refine' For_invVF lF' (by exact rfl) (by exact rfl) ?_; k_whole))
  k_with "pyIter ref" => ((with_reducible rename MarkF => mk'); clear mk'; refine Stop.by ?_)
  k_with "exec While Constant" => (k_here; k_dflt (refine whl_start 100 ?_))
  k_with "compareOp Eq" => (k_here; k_dflt (refine' eq_datB (by assumption) (by assumption) (by exact mem9s (by k_asm) (by repeat (first | assumption | refine immTail ?_)) (by k_asm) (by k_asm)) (by first | rfl | assumption) (by first | rfl | assumption) (by ktr_units) ?_; k_whole))
  k_with "subscriptTail" => (k_here; (with_reducible show wpAny _ _ (subscriptTail _ _ (Value.ref _) (Value.int _ _)) _ _ _); k_dflt (refine' tup9B (by assumption) (by exact mem9s (by k_asm) (by repeat (first | assumption | refine immTail ?_)) (by k_asm) (by k_asm)) (by decide) (by decide) (by rfl) (by rfl) ?_ (by with_unfolding_all rfl); k_whole))
  k_with "call builtin:list.pop" => (k_here; (with_reducible show wpAny _ _ (call (Value.builtin _) [Value.ref _]) _ _ _); k_dflt (refine' pop_lst (by k_asm) (by k_asm) (by k_upd) (by first | omega | (dsimp only; omega)) ?_; k_whole); intro h' F' N'; (try k_sweep))
  k_with "UnrEnd" => (refine unrLed (by k_asm) (by k_asm) (by assumption) ?_)
  k_with "k_mem" => first | with_reducible assumption | (refine memOf ?_; with_reducible assumption)
  k_with "k_all" => assumption
  k_with "k_all" => assumption
  trivial
theorem choices_spec (B : Below A₀ base outer h₀) (F : Fr h₀ L s.heap m) (X : (hd.heap_39 w.params).In h₀) (N : News h₀ L s.heap (Led a k c σ rest)) (T : TopF mean mg mb h₀) (hk : cs.kind = .function) (hdp : dp + 1 < recursionLimit) (hun : un + 108 < cLine)
    (R : Rel k imm c σ) (hS : Sm σ) (hO : Off a rest) (hA : Ord a) (hI : ∀ p ∈ imm, p ∈ rest) {l : List Int} (hc : ChB σ.sk σ.b l) (hl : l.length ≤ 4000)
    (ret : ∀ lf vs nf h' tk', Fr h₀ L h' m → News h₀ L h' ((lf, listOf vs.toArray nf) :: Led a k c σ rest) → DatAll [] vs (l.map Dat.int) → (∀ p ∈ Led a k c σ rest, @LT.lt Nat _ p.1 lf) → Q (.ref lf) { s with heap := h', toks := tk' }) :
    wpAny (model prog w) (ktrTop dp un gd cn cs L ca ccd cl outer) (call (.ref 510) [.ref a.m]) Q E s := by
  have dS := R.s
  obtain ⟨zH, zS, zT, zX⟩ := id hS
  obtain ⟨o1, o2, o3, o4, o5, o6, o7⟩ := id hA
  have mkw : MarkW := ⟨⟩
  refine wpAny_call ?_
  k_dflt ktr_enter
  k_steps
  refine Stop.out ?_
  (rename Fr _ _ _ _ => F1); (rename News _ _ _ _ => N1)
  obtain ⟨lf, m1, F2, N2, hlf, hm⟩ := packL (fun lf => [(Str.ofString "stack", Value.ref a.sk), (Str.ofString "found", Value.ref lf), (Str.ofString "b", Value.int σ.b c.tb)]) F1 N1 (by assumption) (by repeat (first | exact all1 rfl | refine allC rfl ?_))
  clear F1 N1
  have hlt := allLt_all hlf
  have hlr : ∀ p ∈ rest, p.1 ≠ lf := fun p hp => Nat.ne_of_lt (hlt p (by repeat (first | exact hp | refine List.Mem.tail _ ?_)))
  simp only [AllLt, and_true] at hlf
  refine While_inv2 (fun n m₁ nx => ∃ pre suf b t nf vs, l = pre ++ suf ∧ suf.length = n ∧ ChB σ.sk b suf ∧ nx = (lf, listOf vs.toArray nf) :: Led a k c σ rest ∧ DatAll [] vs (pre.map Dat.int) ∧ ∀ p ∈ [(Str.ofString "stack", Value.ref a.sk), (Str.ofString "found", Value.ref lf), (Str.ofString "b", Value.int b t)], m₁ p.1 = some p.2) (n₀ := l.length) F2 N2 ⟨[], l, σ.b, c.tb, 0, [], rfl, rfl, hc, rfl, .nil, hm⟩ ?_ (by with_unfolding_all passes_own)
  clear F2 N2 hm
  rintro n m₁ nx h₁ tk₁ F₁ N₁ ⟨pre, suf, b, t, nf, vs, hpre, hn, hch, rfl, hvs, hm⟩
  rw [knownL hm] at F₁
  have hvl := hvs.length
  have hll := congrArg List.length hpre
  rw [List.length_map] at hvl
  rw [List.length_append] at hll
  cases hch with
  | nil hneg =>
    have e : l = pre := by rw [hpre, List.append_nil]
    k_steps
    all_goals ((rename Fr h₀ _ _ _ => qF); (rename News h₀ _ _ _ => qN); exact ret lf vs nf _ _ qF qN (e ▸ hvs) hlt)
  | cons h0 h1 h2 hr =>
    subst hn
    k_steps
    all_goals ((rename Fr _ _ _ _ => F2); (rename News _ _ _ _ => N2); exact ⟨_, _, _, _, _, rfl, F2, N2, Nat.lt_succ_self _, pre ++ [b], _, _, _, _, _, by rw [hpre]; simp, rfl, hr, rfl, (by rw [List.map_append]; exact hvs.append (.one (.int _ _))), by repeat (first | exact all1 rfl | refine allC rfl ?_)⟩)

theorem environments_spec (B : Below A₀ base outer h₀) (F : Fr h₀ L s.heap m) (X : (hd.heap_39 w.params).In h₀) (N : News h₀ L s.heap (Led a k c σ rest)) (T : TopF mean mg mb h₀) (hk : cs.kind = .function) (hdp : dp + 1 < recursionLimit) (hun : un + 108 < cLine)
    (R : Rel k imm c σ) (hS : Sm σ) (hO : Off a rest) (hA : Ord a) (hI : ∀ p ∈ imm, p ∈ rest) {l : List Int} (hc : ChE σ.sk σ.e l) (hl : l.length ≤ 4000)
    (ret : ∀ lf vs nf h' tk', Fr h₀ L h' m → News h₀ L h' ((lf, listOf vs.toArray nf) :: Led a k c σ rest) → DatAll [] vs (l.map Dat.int) → (∀ p ∈ Led a k c σ rest, @LT.lt Nat _ p.1 lf) → Q (.ref lf) { s with heap := h', toks := tk' }) :
    wpAny (model prog w) (ktrTop dp un gd cn cs L ca ccd cl outer) (call (.ref 517) [.ref a.m]) Q E s := by
  have dS := R.s
  obtain ⟨zH, zS, zT, zX⟩ := id hS
  obtain ⟨o1, o2, o3, o4, o5, o6, o7⟩ := id hA
  have mkw : MarkW := ⟨⟩
  refine wpAny_call ?_
  k_dflt ktr_enter
  k_steps
  refine Stop.out ?_
  (rename Fr _ _ _ _ => F1); (rename News _ _ _ _ => N1)
  obtain ⟨lf, m1, F2, N2, hlf, hm⟩ := packL (fun lf => [(Str.ofString "self", Value.ref a.m), (Str.ofString "found", Value.ref lf), (Str.ofString "e", Value.int σ.e c.te)]) F1 N1 (by assumption) (by repeat (first | exact all1 rfl | refine allC rfl ?_))
  clear F1 N1
  have hlt := allLt_all hlf
  have hlr : ∀ p ∈ rest, p.1 ≠ lf := fun p hp => Nat.ne_of_lt (hlt p (by repeat (first | exact hp | refine List.Mem.tail _ ?_)))
  simp only [AllLt, and_true] at hlf
  refine While_inv2 (fun n m₁ nx => ∃ pre suf b t nf vs, l = pre ++ suf ∧ suf.length = n ∧ ChE σ.sk b suf ∧ nx = (lf, listOf vs.toArray nf) :: Led a k c σ rest ∧ DatAll [] vs (pre.map Dat.int) ∧ ∀ p ∈ [(Str.ofString "self", Value.ref a.m), (Str.ofString "found", Value.ref lf), (Str.ofString "e", Value.int b t)], m₁ p.1 = some p.2) (n₀ := l.length) F2 N2 ⟨[], l, σ.e, c.te, 0, [], rfl, rfl, hc, rfl, .nil, hm⟩ ?_ (by with_unfolding_all passes_own)
  clear F2 N2 hm
  rintro n m₁ nx h₁ tk₁ F₁ N₁ ⟨pre, suf, b, t, nf, vs, hpre, hn, hch, rfl, hvs, hm⟩
  rw [knownL hm] at F₁
  have hvl := hvs.length
  have hll := congrArg List.length hpre
  rw [List.length_map] at hvl
  rw [List.length_append] at hll
  cases hch with
  | nil hneg =>
    have e : l = pre := by rw [hpre, List.append_nil]
    k_steps
    all_goals ((rename Fr h₀ _ _ _ => qF); (rename News h₀ _ _ _ => qN); exact ret lf vs nf _ _ qF qN (e ▸ hvs) hlt)
  | cons h0 h1 hr =>
    subst hn
    k_steps
    all_goals ((rename Fr _ _ _ _ => F2); (rename News _ _ _ _ => N2); exact ⟨_, _, _, _, _, rfl, F2, N2, Nat.lt_succ_self _, pre ++ [b], _, _, _, _, _, by rw [hpre]; simp, rfl, hr, rfl, (by rw [List.map_append]; exact hvs.append (.one (.int _ _))), by repeat (first | exact all1 rfl | refine allC rfl ?_)⟩)

end
end Mine
namespace Mine
theorem kw0_C13 : True := by
  k_with_none
  w_top off
  trivial
theorem fill13 : PySem.Challenge.rw_sa0158_01 = PySem.Challenge.rw_sa0158_01 ∧ hd.heap_39 = hd.heap_39 := by k_fill; exact ⟨rfl, rfl⟩
abbrev chainD (l : List (Int × Int)) : Dat := .list (l.map fun p => .tuple [.int p.1, .int p.2])
section
variable {prog : Program} {w : World} {mean : ExcName → Option Value} {mg mb : Str → Option Value} {dp un : Nat} {gd : Option (List Code)} {cn : Str} {cs : Scope} {ca : Addr} {ccd : Value} {cl : List (Str × Addr)} {outer : List Env} {A₀ : Around} {base h₀ : Heap} {L : Addr} {m : Str → Option Value} {s : Shared} {Q E : Value → Shared → Prop}
  {a : Adr} {k : Kon} {c : Con} {σ : W} {imm rest : List (Addr × Obj)}
theorem kw_C13_0 : True := by
  k_with_none
  k_with "k_upd" => first | exact upd_sk (by assumption) (by assumption) | exact upd_hp (by assumption) (by assumption) | exact upd_tr (by assumption) (by assumption) | exact upd_xs (by assumption) (by assumption) | exact upd_dm (by assumption) (by assumption) | exact upd_ds (by assumption) (by assumption) | exact upd_pt (by assumption) (by assumption) (by assumption) (by assumption) | exact upd_nu (by assumption) (by assumption) (by assumption) (by assumption) | exact upd_kl (by assumption) (by assumption) (by assumption) (by assumption) (by assumption)
  k_with "k_ne" => (refine neN ?_; (try dsimp only); first | exact Nat.ne_of_gt (by with_reducible assumption) | exact Nat.ne_of_lt (by with_reducible assumption) | exact Nat.ne_of_gt (And.left (by with_reducible assumption)) | exact Nat.ne_of_gt (cj1 (by with_reducible assumption)) | exact Nat.ne_of_gt (cj2 (by with_reducible assumption)) | exact Nat.ne_of_gt (cj3 (by with_reducible assumption)) | exact Nat.ne_of_gt (cj4 (by with_reducible assumption)) | exact Nat.ne_of_gt (cj5 (by with_reducible assumption)) | exact Nat.ne_of_gt (cj6 (by with_reducible assumption)) | exact Nat.ne_of_gt (cj7 (by with_reducible assumption)) | exact Nat.ne_of_gt (cj8 (by with_reducible assumption)) | exact Nat.ne_of_gt (cj9 (by with_reducible assumption)) | exact Nat.ne_of_gt (cj10 (by with_reducible assumption)) | exact Nat.ne_of_gt (cj11 (by with_reducible assumption)) | exact Nat.ne_of_gt (cj12 (by with_reducible assumption)) | exact Nat.ne_of_gt (ce1 (by with_reducible assumption)) | exact Nat.ne_of_gt (ce2 (by with_reducible assumption)) | exact Nat.ne_of_gt (ce3 (by with_reducible assumption)) | exact Nat.ne_of_gt (ce4 (by with_reducible assumption)) | exact Nat.ne_of_gt (ce5 (by with_reducible assumption)) | exact Nat.ne_of_gt (ce6 (by with_reducible assumption)) | exact Nat.ne_of_gt (ce7 (by with_reducible assumption)) | exact Nat.ne_of_gt (ce8 (by with_reducible assumption)) | exact Nat.ne_of_gt (ce9 (by with_reducible assumption)) | exact Nat.ne_of_gt (ce10 (by with_reducible assumption)) | exact Nat.ne_of_gt (ce11 (by with_reducible assumption)) | exact Nat.ne_of_gt (ce12 (by with_reducible assumption)) | exact Nat.ne_of_lt (And.left (by with_reducible assumption)) | exact Nat.ne_of_lt (cj1 (by with_reducible assumption)) | exact Nat.ne_of_lt (cj2 (by with_reducible assumption)) | exact Nat.ne_of_lt (cj3 (by with_reducible assumption)) | exact Nat.ne_of_lt (cj4 (by with_reducible assumption)) | exact Nat.ne_of_lt (cj5 (by with_reducible assumption)) | exact Nat.ne_of_lt (cj6 (by with_reducible assumption)) | exact Nat.ne_of_lt (cj7 (by with_reducible assumption)) | exact Nat.ne_of_lt (cj8 (by with_reducible assumption)) | exact Nat.ne_of_lt (cj9 (by with_reducible assumption)) | exact Nat.ne_of_lt (cj10 (by with_reducible assumption)) | exact Nat.ne_of_lt (cj11 (by with_reducible assumption)) | exact Nat.ne_of_lt (cj12 (by with_reducible assumption)) | exact Nat.ne_of_lt (ce1 (by with_reducible assumption)) | exact Nat.ne_of_lt (ce2 (by with_reducible assumption)) | exact Nat.ne_of_lt (ce3 (by with_reducible assumption)) | exact Nat.ne_of_lt (ce4 (by with_reducible assumption)) | exact Nat.ne_of_lt (ce5 (by with_reducible assumption)) | exact Nat.ne_of_lt (ce6 (by with_reducible assumption)) | exact Nat.ne_of_lt (ce7 (by with_reducible assumption)) | exact Nat.ne_of_lt (ce8 (by with_reducible assumption)) | exact Nat.ne_of_lt (ce9 (by with_reducible assumption)) | exact Nat.ne_of_lt (ce10 (by with_reducible assumption)) | exact Nat.ne_of_lt (ce11 (by with_reducible assumption)) | exact Nat.ne_of_lt (ce12 (by with_reducible assumption)))
  k_with "k_all" => first | exact Off.m (by assumption) | exact Off.dm (by assumption) | exact Off.st (by assumption) | exact Off.ds (by assumption) | exact Off.hp (by assumption) | exact Off.sk (by assumption) | exact Off.tr (by assumption) | exact Off.xs (by assumption)
  k_with "call builtin:len" => (k_here; (with_reducible show wpAny _ _ (call (Value.builtin "len") [Value.ref _]) _ _ _); k_dflt (refine' len_lst (by k_asm) (by k_mem) (by first | omega | (dsimp only; omega)) ?_; k_whole); intro t' tk')
  k_with "subscriptTail" => (k_here; (with_reducible show wpAny _ _ (subscriptTail _ _ (Value.ref _) (Value.int _ _)) _ _ _); k_dflt (refine' item_lst (by k_asm) (by k_mem) (by first | assumption | exact Rel.s (by assumption) | exact Rel.h (by assumption) | exact Rel.x (by assumption)) (by first | assumption | exact At.cast (by assumption) (by omega)) (by first | omega | (dsimp only; omega)) ?_ (by with_unfolding_all rfl); k_whole); intro v' hv')
  k_with "subscriptTail" => (k_here; (with_reducible show wpAny _ _ (subscriptTail _ _ (Value.ref _) (Value.int _ _)) _ _ _); k_dflt (refine' itemI_lst (by k_asm) (by k_mem) (by first | assumption | exact Rel.s (by assumption) | exact Rel.h (by assumption) | exact Rel.x (by assumption)) (by first | assumption | exact At.cast (by assumption) (by omega)) (by first | omega | (dsimp only; omega)) ?_ (by with_unfolding_all rfl); k_whole); intro t')
  k_with "setItem ref" => (k_here; (with_reducible show wpAny _ _ (setItem (Value.ref _) (Value.int _ _) _) _ _ _); k_dflt (refine' set_lst (by k_asm) (by k_asm) (by k_upd) (by omega) (by omega) (by first | omega | (dsimp only; omega)) ?_; k_whole); intro h' F' N'; (try k_sweep))
  k_with "call builtin:list.append" => (k_here; (with_reducible show wpAny _ _ (call (Value.builtin _) [Value.ref _, _]) _ _ _); k_dflt (refine' append_lst (by k_asm) (by k_asm) (by k_upd) (by first | omega | (dsimp only; omega)) ?_; k_whole); intro h' F' N'; (try k_sweep))
  k_with "WhlIf" => first | refine WhlIf.yes (decide_eq_true (by omega)) ?_ | refine WhlIf.no (decide_eq_false (by omega)) ?_
  k_with "exec While Compare cons nil" => ((with_reducible rename MarkW => mk'); clear mk'; refine Stop.by ?_)
  k_with "exec For Name Name cons nil" => ((with_reducible rename MarkF => mk'); (rename Fr _ _ _ _ => lF'); (with_unfolding_all refine' For_invVF lF' (by exact rfl) (by exact rfl) ?_; k_whole))
  k_with "exec For Name Call cons nil" => ((with_reducible rename MarkF => mk'); (rename Fr _ _ _ _ => lF'); (with_unfolding_all refine' For_invVF lF' (by exact rfl) (by exact rfl) ?_; k_whole))
  k_with "pyIter ref" => ((with_reducible rename MarkF => mk'); clear mk'; refine Stop.by ?_)
  k_with "exec While Constant" => (k_here; k_dflt (refine whl_start 100 ?_))
  k_with "compareOp Eq" => (k_here; k_dflt (refine' eq_datB (by assumption) (by assumption) (by exact mem9s (by k_asm) (by repeat (first | assumption | refine immTail ?_)) (by k_asm) (by k_asm)) (by first | rfl | assumption) (by first | rfl | assumption) (by ktr_units) ?_; k_whole))
  k_with "subscriptTail" => (k_here; (with_reducible show wpAny _ _ (subscriptTail _ _ (Value.ref _) (Value.int _ _)) _ _ _); k_dflt (refine' tup9B (by assumption) (by exact mem9s (by k_asm) (by repeat (first | assumption | refine immTail ?_)) (by k_asm) (by k_asm)) (by decide) (by decide) (by rfl) (by rfl) ?_ (by with_unfolding_all rfl); k_whole))
  k_with "call builtin:list.pop" => (k_here; (with_reducible show wpAny _ _ (call (Value.builtin _) [Value.ref _]) _ _ _); k_dflt (refine' pop_lst (by k_asm) (by k_asm) (by k_upd) (by first | omega | (dsimp only; omega)) ?_; k_whole); intro h' F' N'; (try k_sweep))
  k_with "UnrEnd" => (refine unrLed (by k_asm) (by k_asm) (by assumption) ?_)
  k_with "k_mem" => first | with_reducible assumption | (refine memOf ?_; with_reducible assumption)
  k_with "k_all" => assumption
  k_with "call ref" => (k_here; (with_reducible show wpAny _ _ (call (Value.ref _) _) _ _ _); k_dflt (first | (refine' environments_spec (by k_asm) (by k_asm) (by k_asm) (by first | k_asm | (refine newsSub (by assumption) ?_; first | exact ledSwap | exact ledSwap2)) (by k_asm) (by rfl) (by ktr_room) (by ktr_units) (by assumption) (by first | assumption | (refine' smSame (by assumption) (by rfl) (by rfl) (by rfl) (by rfl)) | (refine' smUndo (by assumption) (by rfl) (by rfl) (by exact undo_length _ _) (by exact List.length_take_le' ..)) | exact smSeg (by assumption) (by omega) (by omega) (by simp only [List.length_append, List.length_cons, List.length_nil]; omega)) (by first | assumption | exact offPot (by assumption) (by assumption) (by assumption) | exact offApp (Adds.off (by assumption)) (by assumption) | exact offCons (by assumption) (by omega) (by omega) (by omega) (by omega) (by omega) (by omega) (by omega) (by omega)) (by assumption) (by first | assumption | exact immPot (by assumption) | exact immTail (by assumption) | exact immApp (by assumption)) (by assumption) (by omega) ?_; k_whole)); intro lf' vs' nf' h' tk' F' N' hD' hlt'; (try dsimp only at N'); (try k_sweep))
  k_with "CompSrc" => (refine Stop.by ?_)
  trivial
theorem law_chain_spec (B : Below A₀ base outer h₀) (F : Fr h₀ L s.heap m) (X : (hd.heap_39 w.params).In h₀) (N : News h₀ L s.heap (Led a k c σ rest)) (T : TopF mean mg mb h₀) (hk : cs.kind = .function) (hdp : dp + 2 < recursionLimit) (hun : un + 116 < cLine)
    (R : Rel k imm c σ) (hS : Sm σ) (hO : Off a rest) (hA : Ord a) (hI : ∀ p ∈ imm, p ∈ rest) {l : List (Int × Int)} (hc : ChE σ.sk σ.e (l.map (·.1))) (hp : ∀ p ∈ l, At σ.sk (p.1 + 1) (.int p.2)) (hl : l.length ≤ 4000)
    (ret : ∀ D add h' tk', Fr h₀ L h' m → News h₀ L h' (Led a k c σ (add ++ rest)) → DatIn (KV ++ (add ++ imm)) (.ref D) (chainD l) → Adds a rest add → Q (.ref D) { s with heap := h', toks := tk' }) :
    wpAny (model prog w) (ktrTop dp un gd cn cs L ca ccd cl outer) (call (.ref 536) [.ref a.m]) Q E s := by
  have dS := R.s
  obtain ⟨zH, zS, zT, zX⟩ := id hS
  obtain ⟨o1, o2, o3, o4, o5, o6, o7⟩ := id hA
  have hl' : (l.map (·.1)).length ≤ 4000 := by rw [List.length_map]; exact hl
  refine wpAny_call ?_
  k_dflt (refine' code_defC ?k1 ?k2 ?k3 ?k4 ?k5 ?kA ?kF ?kK ?k6 ?k7 ?k8 ?k9 ?kB ?kD ?_ ?c2 ?c3 ?c4; (case kA => exact rfl); (case kF => exact rfl); (case kK => assumption); (case k1 => k_asm); (case k2 => k_asm); (case k3 => k_asm); (case k4 => k_asm); (case k5 => k_asm); (case k6 => k_is); (case k7 => k_is); (case k8 => ktr_room); (case k9 => exact BindsTo.of_eq rfl); (case kB => exact rfl); (case kD => decide +kernel); (case c2 => exact rfl); (case c3 => exact rfl); (case c4 => exact rfl); k_whole; intro g' L' h' tk' cells' FG' F' N' Y' B' X' T' l1; (have hcr : ∀ p ∈ rest, ¬ @Eq Nat p.1 (L' + 1) := fun p hp => by have q := l1 p (by repeat (first | exact hp | refine List.Mem.tail _ ?_)); exact Nat.ne_of_lt (Nat.lt_succ_of_lt q)); (try k_lt l1); k_cells Y'; (try simp only [List.cons_append, List.nil_append] at N'); (try dsimp only); (try k_fold))
  k_steps
  refine Stop.out ?_
  rename_i hq o ho
  have hvl := hD'.length
  rw [List.length_map, List.length_map] at hvl
  refine LCg.CompSrc.ledger (by rfl) F' N' (List.Mem.head _) (by rw [List.size_toArray, sizeLine_eq]; omega) ?_
  intro g
  refine compInd vs'.toArray.size (fun i ys news => ∃ add, news = (lf', listOf vs'.toArray nf') :: Led a k c σ ((L' + 1, o) :: (rest ++ add)) ∧ Adds a rest add ∧ DatAll (KV ++ (add ++ imm)) ys ((l.take i).map fun p => .tuple [.int p.1, .int p.2])) ?step ?fin _ 0 [] _ (Nat.zero_add _) ⟨[], by rw [List.append_nil], addsNil, .nil⟩
  case step =>
    clear F' N'
    rintro i ys news v I oI C oC D m₂ h tk E' hi ⟨add, rfl, hAdd, hys⟩ hP hN hx F2 N2 hO3 hne
    rw [List.size_toArray] at hi
    have hil : i < l.length := by omega
    obtain ⟨d, hd1, hd2⟩ := datGet hD' (i := i) (v := v) (by simpa using hP)
    rw [List.getElem?_map, List.getElem?_map, List.getElem?_eq_getElem hil] at hd1
    cases hd1
    obtain ⟨t, rfl⟩ := datTi hd2
    have hpi := hp _ (List.getElem_mem hil)
    k_steps
    have hT := allLt_all (l := (I, oI) :: (C, oC) :: (D, LCg.lst ys) :: (lf', listOf vs'.toArray nf') :: Led a k c σ ((L' + 1, o) :: (rest ++ add))) (by assumption)
    (rename Fr _ _ _ _ => F3); (rename News _ _ _ _ => N3)
    have hTI := hT (I, oI) (List.Mem.head _)
    have hTC := hT (C, oC) (List.Mem.tail _ (List.Mem.head _))
    have hTD := hT (D, LCg.lst ys) (List.Mem.tail _ (List.Mem.tail _ (List.Mem.head _)))
    have hTl := fun q hq => Nat.ne_of_lt (hT q (List.Mem.tail _ (List.Mem.tail _ (List.Mem.tail _ (List.Mem.tail _ hq)))))
    have hx := fun ob => adds_of (o := ob) hTl
    refine LCg.CompEnd.intro F3 N3 ((lf', listOf vs'.toArray nf') :: Led a k c σ ((L' + 1, o) :: (rest ++ (_ :: add)))) subMid4 (LCg.Off3.of fun p hp => ?_) (.inr ⟨_, List.Mem.head _, rfl, _, rfl⟩) ⟨_ :: add, rfl, ?_, ?_⟩
    · rcases List.mem_cons.mp hp with h | h
      · exact off3_mem hO3 p (by rw [h]; exact List.Mem.head _)
      · rcases ledMid h with h | h
        · rw [h]; exact ⟨Nat.ne_of_gt hTI, Nat.ne_of_gt hTC, Nat.ne_of_gt hTD⟩
        · exact off3_mem hO3 p (List.Mem.tail _ h)
    · refine addsTrans hAdd (addsSub (hx _) fun p hp => ?_)
      rcases List.mem_append.mp hp with h | h
      · exact List.Mem.tail _ (List.mem_append.mpr (.inr h))
      · exact List.Mem.tail _ (List.mem_append.mpr (.inl h))
    · rw [List.take_add_one, List.getElem?_eq_getElem hil, Option.toList_some, List.map_append]
      exact (hys.mono (kvMono fun p hp => List.Mem.tail _ hp)).append (.one (DatIn.tuple (List.mem_append.mpr (.inr (List.Mem.head _))) (.cons (.int _ _) (.cons (.int _ _) .nil))))
  case fin =>
    rintro ys news ⟨add, rfl, hAdd, hys⟩
    rw [List.size_toArray, hvl, List.take_length] at hys
    k_steps
    have hT := off1_all (l := (lf', listOf vs'.toArray nf') :: Led a k c σ ((L' + 1, o) :: (rest ++ add))) (by assumption)
    (rename Fr h₀ _ _ _ => qF); (rename News h₀ _ _ _ => qN)
    have hTl := fun q hq => hT q (List.Mem.tail _ hq)
    have hx := fun ob => adds_of (o := ob) hTl
    refine ret _ ((_, LCg.lst ys) :: add) _ _ qF (newsSub qN (by kqd_sub)) (DatIn.list (List.mem_append.mpr (.inr (List.Mem.head _))) (hys.mono (kvMono fun p hp => List.Mem.tail _ hp))) (addsTrans hAdd (addsSub (hx _) fun p hp => ?_))
    rcases List.mem_append.mp hp with h | h
    · exact List.Mem.tail _ (List.mem_append.mpr (.inr h))
    · exact List.Mem.tail _ (List.mem_append.mpr (.inl h))

end
end Mine
namespace Mine
theorem kw0_C15 : True := by
  k_with_none
  w_top off
  trivial
theorem fill15 : PySem.Challenge.rw_sa0158_01 = PySem.Challenge.rw_sa0158_01 ∧ hd.heap_39 = hd.heap_39 := by k_fill; exact ⟨rfl, rfl⟩
section
variable {prog : Program} {w : World} {mean : ExcName → Option Value} {mg mb : Str → Option Value} {dp un : Nat} {gd : Option (List Code)} {cn : Str} {cs : Scope} {ca : Addr} {ccd : Value} {cl : List (Str × Addr)} {outer : List Env} {A₀ : Around} {base h₀ : Heap} {L : Addr} {m : Str → Option Value} {s : Shared} {Q E : Value → Shared → Prop}
  {a : Adr} {k : Kon} {c : Con} {σ : W} {imm rest : List (Addr × Obj)}
theorem kw_C15_0 : True := by
  k_with_none
  k_with "k_upd" => first | exact upd_sk (by assumption) (by assumption) | exact upd_hp (by assumption) (by assumption) | exact upd_tr (by assumption) (by assumption) | exact upd_xs (by assumption) (by assumption) | exact upd_dm (by assumption) (by assumption) | exact upd_ds (by assumption) (by assumption) | exact upd_pt (by assumption) (by assumption) (by assumption) (by assumption) | exact upd_nu (by assumption) (by assumption) (by assumption) (by assumption) | exact upd_kl (by assumption) (by assumption) (by assumption) (by assumption) (by assumption)
  k_with "k_ne" => (refine neN ?_; (try dsimp only); first | exact Nat.ne_of_gt (by with_reducible assumption) | exact Nat.ne_of_lt (by with_reducible assumption) | exact Nat.ne_of_gt (And.left (by with_reducible assumption)) | exact Nat.ne_of_gt (cj1 (by with_reducible assumption)) | exact Nat.ne_of_gt (cj2 (by with_reducible assumption)) | exact Nat.ne_of_gt (cj3 (by with_reducible assumption)) | exact Nat.ne_of_gt (cj4 (by with_reducible assumption)) | exact Nat.ne_of_gt (cj5 (by with_reducible assumption)) | exact Nat.ne_of_gt (cj6 (by with_reducible assumption)) | exact Nat.ne_of_gt (cj7 (by with_reducible assumption)) | exact Nat.ne_of_gt (cj8 (by with_reducible assumption)) | exact Nat.ne_of_gt (cj9 (by with_reducible assumption)) | exact Nat.ne_of_gt (cj10 (by with_reducible assumption)) | exact Nat.ne_of_gt (cj11 (by with_reducible assumption)) | exact Nat.ne_of_gt (cj12 (by with_reducible assumption)) | exact Nat.ne_of_gt (ce1 (by with_reducible assumption)) | exact Nat.ne_of_gt (ce2 (by with_reducible assumption)) | exact Nat.ne_of_gt (ce3 (by with_reducible assumption)) | exact Nat.ne_of_gt (ce4 (by with_reducible assumption)) | exact Nat.ne_of_gt (ce5 (by with_reducible assumption)) | exact Nat.ne_of_gt (ce6 (by with_reducible assumption)) | exact Nat.ne_of_gt (ce7 (by with_reducible assumption)) | exact Nat.ne_of_gt (ce8 (by with_reducible assumption)) | exact Nat.ne_of_gt (ce9 (by with_reducible assumption)) | exact Nat.ne_of_gt (ce10 (by with_reducible assumption)) | exact Nat.ne_of_gt (ce11 (by with_reducible assumption)) | exact Nat.ne_of_gt (ce12 (by with_reducible assumption)) | exact Nat.ne_of_lt (And.left (by with_reducible assumption)) | exact Nat.ne_of_lt (cj1 (by with_reducible assumption)) | exact Nat.ne_of_lt (cj2 (by with_reducible assumption)) | exact Nat.ne_of_lt (cj3 (by with_reducible assumption)) | exact Nat.ne_of_lt (cj4 (by with_reducible assumption)) | exact Nat.ne_of_lt (cj5 (by with_reducible assumption)) | exact Nat.ne_of_lt (cj6 (by with_reducible assumption)) | exact Nat.ne_of_lt (cj7 (by with_reducible assumption)) | exact Nat.ne_of_lt (cj8 (by with_reducible assumption)) | exact Nat.ne_of_lt (cj9 (by with_reducible assumption)) | exact Nat.ne_of_lt (cj10 (by with_reducible assumption)) | exact Nat.ne_of_lt (cj11 (by with_reducible assumption)) | exact Nat.ne_of_lt (cj12 (by with_reducible assumption)) | exact Nat.ne_of_lt (ce1 (by with_reducible assumption)) | exact Nat.ne_of_lt (ce2 (by with_reducible assumption)) | exact Nat.ne_of_lt (ce3 (by with_reducible assumption)) | exact Nat.ne_of_lt (ce4 (by with_reducible assumption)) | exact Nat.ne_of_lt (ce5 (by with_reducible assumption)) | exact Nat.ne_of_lt (ce6 (by with_reducible assumption)) | exact Nat.ne_of_lt (ce7 (by with_reducible assumption)) | exact Nat.ne_of_lt (ce8 (by with_reducible assumption)) | exact Nat.ne_of_lt (ce9 (by with_reducible assumption)) | exact Nat.ne_of_lt (ce10 (by with_reducible assumption)) | exact Nat.ne_of_lt (ce11 (by with_reducible assumption)) | exact Nat.ne_of_lt (ce12 (by with_reducible assumption)))
  k_with "k_all" => first | exact Off.m (by assumption) | exact Off.dm (by assumption) | exact Off.st (by assumption) | exact Off.ds (by assumption) | exact Off.hp (by assumption) | exact Off.sk (by assumption) | exact Off.tr (by assumption) | exact Off.xs (by assumption)
  k_with "call builtin:len" => (k_here; (with_reducible show wpAny _ _ (call (Value.builtin "len") [Value.ref _]) _ _ _); k_dflt (refine' len_lst (by k_asm) (by k_mem) (by first | omega | (dsimp only; omega)) ?_; k_whole); intro t' tk')
  k_with "subscriptTail" => (k_here; (with_reducible show wpAny _ _ (subscriptTail _ _ (Value.ref _) (Value.int _ _)) _ _ _); k_dflt (refine' item_lst (by k_asm) (by k_mem) (by first | assumption | exact Rel.s (by assumption) | exact Rel.h (by assumption) | exact Rel.x (by assumption)) (by first | assumption | exact At.cast (by assumption) (by omega)) (by first | omega | (dsimp only; omega)) ?_ (by with_unfolding_all rfl); k_whole); intro v' hv')
  k_with "subscriptTail" => (k_here; (with_reducible show wpAny _ _ (subscriptTail _ _ (Value.ref _) (Value.int _ _)) _ _ _); k_dflt (refine' itemI_lst (by k_asm) (by k_mem) (by first | assumption | exact Rel.s (by assumption) | exact Rel.h (by assumption) | exact Rel.x (by assumption)) (by first | assumption | exact At.cast (by assumption) (by omega)) (by first | omega | (dsimp only; omega)) ?_ (by with_unfolding_all rfl); k_whole); intro t')
  k_with "setItem ref" => (k_here; (with_reducible show wpAny _ _ (setItem (Value.ref _) (Value.int _ _) _) _ _ _); k_dflt (refine' set_lst (by k_asm) (by k_asm) (by k_upd) (by omega) (by omega) (by first | omega | (dsimp only; omega)) ?_; k_whole); intro h' F' N'; (try k_sweep))
  k_with "call builtin:list.append" => (k_here; (with_reducible show wpAny _ _ (call (Value.builtin _) [Value.ref _, _]) _ _ _); k_dflt (refine' append_lst (by k_asm) (by k_asm) (by k_upd) (by first | omega | (dsimp only; omega)) ?_; k_whole); intro h' F' N'; (try k_sweep))
  k_with "WhlIf" => first | refine WhlIf.yes (decide_eq_true (by omega)) ?_ | refine WhlIf.no (decide_eq_false (by omega)) ?_
  k_with "exec While Compare cons nil" => ((with_reducible rename MarkW => mk'); clear mk'; refine Stop.by ?_)
  k_with "exec For Name Name cons nil" => ((with_reducible rename MarkF => mk'); (rename Fr _ _ _ _ => lF'); (with_unfolding_all refine' For_invVF lF' (by exact rfl) (by exact rfl) ?_; k_whole))
  k_with "exec For Name Call cons nil" => ((with_reducible rename MarkF => mk'); (rename Fr _ _ _ _ => lF'); (with_unfolding_all refine' For_invVF lF' (by exact rfl) (by exact rfl) ?_; k_whole))
  k_with "pyIter ref" => ((with_reducible rename MarkF => mk'); clear mk'; refine Stop.by ?_)
  k_with "exec While Constant" => (k_here; k_dflt (refine whl_start 100 ?_))
  k_with "compareOp Eq" => (k_here; k_dflt (refine' eq_datB (by assumption) (by assumption) (by exact mem9s (by k_asm) (by repeat (first | assumption | refine immTail ?_)) (by k_asm) (by k_asm)) (by first | rfl | assumption) (by first | rfl | assumption) (by ktr_units) ?_; k_whole))
  k_with "subscriptTail" => (k_here; (with_reducible show wpAny _ _ (subscriptTail _ _ (Value.ref _) (Value.int _ _)) _ _ _); k_dflt (refine' tup9B (by assumption) (by exact mem9s (by k_asm) (by repeat (first | assumption | refine immTail ?_)) (by k_asm) (by k_asm)) (by decide) (by decide) (by rfl) (by rfl) ?_ (by with_unfolding_all rfl); k_whole))
  k_with "call builtin:list.pop" => (k_here; (with_reducible show wpAny _ _ (call (Value.builtin _) [Value.ref _]) _ _ _); k_dflt (refine' pop_lst (by k_asm) (by k_asm) (by k_upd) (by first | omega | (dsimp only; omega)) ?_; k_whole); intro h' F' N'; (try k_sweep))
  k_with "UnrEnd" => (refine unrLed (by k_asm) (by k_asm) (by assumption) ?_)
  k_with "k_mem" => first | with_reducible assumption | (refine memOf ?_; with_reducible assumption)
  k_with "k_all" => assumption
  k_with "subscriptTail" => (k_here; (with_reducible show wpAny _ _ (subscriptTail _ (PySem.Expr.Slice _ _ none _) (Value.ref _) (Value.ref _)) _ _ _); k_dflt (refine' slice_lst (by k_asm) (by k_asm) (by k_mem) (by omega) (by omega) (by omega) (by omega) (by omega) ?_ (by with_unfolding_all rfl) (by (intro _; with_unfolding_all rfl)); k_whole); intro D' h' F' N' l1; (try k_lt l1); (try k_sweep))
  k_with "call type:list" => (k_here; (with_reducible show wpAny _ _ (call (Value.type _) [Value.ref _]) _ _ _); k_dflt (refine' copy_lst (by k_asm) (by k_asm) (by k_mem) (by omega) ?_; k_whole); intro D' c' h' F' N' l1; (try k_lt l1); (try k_sweep))
  k_with "setAttr ref" => (k_here; k_dflt (first | ((with_reducible show wpAny _ _ (setAttr _ (PySem.Str.ofString "e") _) _ _ _); refine' set_e (by k_asm) (by k_asm) (by k_asm) (by assumption) (by assumption) (by assumption) ?_; k_whole) | ((with_reducible show wpAny _ _ (setAttr _ (PySem.Str.ofString "cp") _) _ _ _); refine' set_cp (by k_asm) (by k_asm) (by k_asm) (by assumption) (by assumption) (by assumption) ?_; k_whole) | ((with_reducible show wpAny _ _ (setAttr _ (PySem.Str.ofString "p") _) _ _ _); refine' set_p (by k_asm) (by k_asm) (by k_asm) (by assumption) (by assumption) (by assumption) ?_; k_whole) | ((with_reducible show wpAny _ _ (setAttr _ (PySem.Str.ofString "b0") _) _ _ _); refine' set_b0 (by k_asm) (by k_asm) (by k_asm) (by assumption) (by assumption) (by assumption) ?_; k_whole)); intro h' c' F' N' R'; (try dsimp only at N' R'); (try k_sweep))
  trivial
theorem cut_back_spec (B : Below A₀ base outer h₀) (F : Fr h₀ L s.heap m) (X : (hd.heap_39 w.params).In h₀) (N : News h₀ L s.heap (Led a k c σ rest)) (T : TopF mean mg mb h₀) (hk : cs.kind = .function) (hdp : dp + 2 < recursionLimit) (hun : un + 116 < cLine)
    (R : Rel k imm c σ) (hS : Sm σ) (hO : Off a rest) (hA : Ord a) (hI : ∀ p ∈ imm, p ∈ rest) {n : Int} {tn : Tok} {σ' : W} (h1 : CutTo σ n σ')
    (ret : ∀ c' h' tk', Fr h₀ L h' m → News h₀ L h' (Led a k c' σ' rest) → Rel k imm c' σ' → Q .none { s with heap := h', toks := tk' }) :
    wpAny (model prog w) (ktrTop dp un gd cn cs L ca ccd cl outer) (call (.ref 503) [.ref a.m, .int n tn]) Q E s := by
  rcases h1 with ⟨h, rfl⟩ | ⟨h, ⟨h2, rfl⟩ | ⟨h2, cnt, hl, h3, h4, rfl⟩⟩
  · exact cut_back_no B F X N T hk (by omega) (by omega) R hS hO hA hI h fun h' tk' F' N' => ret c h' tk' F' N' R
  · exact cut_back_neg B F X N T hk hdp hun R hS hO hA hI h h2 ret
  · exact cut_back_pos B F X N T hk hdp hun R hS hO hA hI h h2 h3 h4 ret

theorem pop_choice_spec (B : Below A₀ base outer h₀) (F : Fr h₀ L s.heap m) (X : (hd.heap_39 w.params).In h₀) (N : News h₀ L s.heap (Led a k c σ rest)) (T : TopF mean mg mb h₀) (hk : cs.kind = .function) (hdp : dp + 2 < recursionLimit) (hun : un + 116 < cLine)
    (R : Rel k imm c σ) (hS : Sm σ) (hO : Off a rest) (hA : Ord a) (hI : ∀ p ∈ imm, p ∈ rest) {cnt n : Int} {σ' : W} (h1 : At σ.sk σ.b (.int cnt)) (h2 : At σ.sk (σ.b + cnt + 3) (.int n)) (h3 : SetB σ n σ')
    (ret : ∀ c' h' tk', Fr h₀ L h' m → News h₀ L h' (Led a k c' σ' rest) → Rel k imm c' σ' → Q .none { s with heap := h', toks := tk' }) :
    wpAny (model prog w) (ktrTop dp un gd cn cs L ca ccd cl outer) (call (.ref 496) [.ref a.m]) Q E s := by
  rcases h3 with ⟨h, rfl⟩ | ⟨h, cnt, hl, h3, h4, rfl⟩
  · exact pop_choice_neg B F X N T hk hdp hun R hS hO hA hI h1 h2 h ret
  · exact pop_choice_pos B F X N T hk hdp hun R hS hO hA hI h1 h2 h h3 h4 ret

theorem kw_C15_1 : True := by
  k_with "call ref" => (k_here; (with_reducible show wpAny _ _ (call (Value.ref _) [_, _]) _ _ _); k_dflt (first | (refine' cut_back_spec (by k_asm) (by k_asm) (by k_asm) (by first | k_asm | (refine newsSub (by assumption) ?_; first | exact ledSwap | exact ledSwap2)) (by k_asm) (by rfl) (by ktr_room) (by ktr_units) (by assumption) (by first | assumption | (refine' smSame (by assumption) (by rfl) (by rfl) (by rfl) (by rfl)) | (refine' smUndo (by assumption) (by rfl) (by rfl) (by exact undo_length _ _) (by exact List.length_take_le' ..)) | exact smSeg (by assumption) (by omega) (by omega) (by simp only [List.length_append, List.length_cons, List.length_nil]; omega)) (by first | assumption | exact offPot (by assumption) (by assumption) (by assumption) | exact offApp (Adds.off (by assumption)) (by assumption) | exact offCons (by assumption) (by omega) (by omega) (by omega) (by omega) (by omega) (by omega) (by omega) (by omega)) (by assumption) (by first | assumption | exact immPot (by assumption) | exact immTail (by assumption) | exact immApp (by assumption)) (by assumption) ?_; k_whole)); intro c' h' tk' F' N' R'; (try dsimp only at N'); (try dsimp only at R'); (try k_sweep))
  trivial
theorem do_neck_cut_spec (B : Below A₀ base outer h₀) (F : Fr h₀ L s.heap m) (X : (hd.heap_39 w.params).In h₀) (N : News h₀ L s.heap (Led a k c σ rest)) (T : TopF mean mg mb h₀) (hk : cs.kind = .function) (hdp : dp + 3 < recursionLimit) (hun : un + 124 < cLine)
    (R : Rel k imm c σ) (hS : Sm σ) (hO : Off a rest) (hA : Ord a) (hI : ∀ p ∈ imm, p ∈ rest) {t : Addr} {σ' : W} (h1 : CutTo σ σ.b0 σ')
    (ret : ∀ c' h' tk', Fr h₀ L h' m → News h₀ L h' (Led a k c' σ' rest) → Rel k imm c' σ' → Q (.bool true) { s with heap := h', toks := tk' }) :
    wpAny (model prog w) (ktrTop dp un gd cn cs L ca ccd cl outer) (call (.ref 320) [.ref a.m, .ref t]) Q E s := by
  have dS := R.s
  obtain ⟨zH, zS, zT, zX⟩ := id hS
  obtain ⟨o1, o2, o3, o4, o5, o6, o7⟩ := id hA
  refine wpAny_call ?_
  k_dflt ktr_enter
  k_steps
  all_goals ((rename Fr h₀ _ _ _ => qF); (rename News h₀ _ _ _ => qN); (rename Rel _ _ _ _ => qR); exact ret _ _ _ qF qN qR)

theorem do_try_spec (B : Below A₀ base outer h₀) (F : Fr h₀ L s.heap m) (X : (hd.heap_39 w.params).In h₀) (N : News h₀ L s.heap (Led a k c σ rest)) (T : TopF mean mg mb h₀) (hk : cs.kind = .function) (hdp : dp + 3 < recursionLimit) (hun : un + 124 < cLine)
    (R : Rel k imm c σ) (hS : Sm σ) (hO : Off a rest) (hA : Ord a) (hI : ∀ p ∈ imm, p ∈ rest) {t : Addr} {tx t0 t1 : Tok} {sx : Str} {tn n : Nat} {lab p0 : Int} (hm : (t, ({ cls := .type "tuple", data := .seq [Value.str sx tx, Value.int lab t0, Value.int (n : Int) t1].toArray tn } : Obj)) ∈ rest) (h3 : n ≤ 3) (ht : IsTop σ p0) (h0 : 0 ≤ p0) (h1 : p0 ≤ σ.sk.length) (h2 : σ.sk.length ≤ 3900)
    (ret : ∀ c' h' tk', Fr h₀ L h' m → News h₀ L h' (Led a k c' { σ with sk := segS σ.sk p0.toNat (chSeg σ ((σ.x.drop 1).take n) σ.p), b := p0, hb := (σ.hp.length : Int), bb := p0, p := lab } rest) → Rel k imm c' { σ with sk := segS σ.sk p0.toNat (chSeg σ ((σ.x.drop 1).take n) σ.p), b := p0, hb := (σ.hp.length : Int), bb := p0, p := lab } → Q (.bool true) { s with heap := h', toks := tk' }) :
    wpAny (model prog w) (ktrTop dp un gd cn cs L ca ccd cl outer) (call (.ref 348) [.ref a.m, .ref t]) Q E s := by
  have dS := R.s
  obtain ⟨zH, zS, zT, zX⟩ := id hS
  obtain ⟨o1, o2, o3, o4, o5, o6, o7⟩ := id hA
  have lX := R.x.length
  have lD : ((σ.x.drop 1).take n).length = n := by rw [List.length_take, List.length_drop]; omega
  refine wpAny_call ?_
  k_dflt ktr_enter
  k_steps
  have e1 : ((n : Int) + 1).toNat - Int.toNat 1 = n := by simp
  have e2 : Int.toNat 1 = 1 := rfl
  rw [e1, e2] at N'
  have q1 := fun o => addsOne (o := o) (rest := rest) (k := k) (c := c) (σ := σ) (allLt_all (d := D') l1)
  refine push_choice_spec (ds := (σ.x.drop 1).take n) (imm := imm) (rest := (D', _) :: rest) (by k_asm) F' (by k_asm) (newsSub N' ledSwap) (by k_asm) rfl (by ktr_room) (by ktr_units) R hS (offApp (q1 _).off hO) hA (immTail hI) (List.Mem.head _) (dTake (dDrop R.x 1) n) (by omega) ht h0 h1 h2 ?_
  intro c' h' tk' F2 N2 R2
  have N3 := newsSub N2 ledDrop
  clear N' N2
  k_steps
  all_goals ((rename Fr h₀ _ _ _ => qF); (rename News h₀ _ _ _ => qN); (rename Rel _ _ _ _ => qR); exact ret _ _ _ qF qN qR)

theorem kw_C15_2 : True := by
  k_with "call ref" => (k_here; (with_reducible show wpAny _ _ (call (Value.ref _) [_, _]) _ _ _); k_dflt (first | (refine' set_alternative_spec (by k_asm) (by k_asm) (by k_asm) (by first | k_asm | (refine newsSub (by assumption) ?_; first | exact ledSwap | exact ledSwap2)) (by k_asm) (by rfl) (by ktr_room) (by ktr_units) (by assumption) (by first | assumption | (refine' smSame (by assumption) (by rfl) (by rfl) (by rfl) (by rfl)) | (refine' smUndo (by assumption) (by rfl) (by rfl) (by exact undo_length _ _) (by exact List.length_take_le' ..)) | exact smSeg (by assumption) (by omega) (by omega) (by simp only [List.length_append, List.length_cons, List.length_nil]; omega)) (by first | assumption | exact offPot (by assumption) (by assumption) (by assumption) | exact offApp (Adds.off (by assumption)) (by assumption) | exact offCons (by assumption) (by omega) (by omega) (by omega) (by omega) (by omega) (by omega) (by omega) (by omega)) (by assumption) (by first | assumption | exact immPot (by assumption) | exact immTail (by assumption) | exact immApp (by assumption)) (by assumption) (by omega) (by omega) ?_; k_whole)); intro c' h' tk' F' N' R'; (try dsimp only at N'); (try dsimp only at R'); (try k_sweep))
  k_with "call ref" => (k_here; (with_reducible show wpAny _ _ (call (Value.ref _) _) _ _ _); k_dflt (first | (refine' pop_choice_spec (by k_asm) (by k_asm) (by k_asm) (by first | k_asm | (refine newsSub (by assumption) ?_; first | exact ledSwap | exact ledSwap2)) (by k_asm) (by rfl) (by ktr_room) (by ktr_units) (by assumption) (by first | assumption | (refine' smSame (by assumption) (by rfl) (by rfl) (by rfl) (by rfl)) | (refine' smUndo (by assumption) (by rfl) (by rfl) (by exact undo_length _ _) (by exact List.length_take_le' ..)) | exact smSeg (by assumption) (by omega) (by omega) (by simp only [List.length_append, List.length_cons, List.length_nil]; omega)) (by first | assumption | exact offPot (by assumption) (by assumption) (by assumption) | exact offApp (Adds.off (by assumption)) (by assumption) | exact offCons (by assumption) (by omega) (by omega) (by omega) (by omega) (by omega) (by omega) (by omega) (by omega)) (by assumption) (by first | assumption | exact immPot (by assumption) | exact immTail (by assumption) | exact immApp (by assumption)) (by assumption) (by assumption) (by assumption) ?_; k_whole)); intro c' h' tk' F' N' R'; (try dsimp only at N'); (try dsimp only at R'); (try k_sweep))
  trivial
theorem do_retry_spec (B : Below A₀ base outer h₀) (F : Fr h₀ L s.heap m) (X : (hd.heap_39 w.params).In h₀) (N : News h₀ L s.heap (Led a k c σ rest)) (T : TopF mean mg mb h₀) (hk : cs.kind = .function) (hdp : dp + 3 < recursionLimit) (hun : un + 124 < cLine)
    (R : Rel k imm c σ) (hS : Sm σ) (hO : Off a rest) (hA : Ord a) (hI : ∀ p ∈ imm, p ∈ rest) {t : Addr} {tx t0 : Tok} {sx : Str} {tn : Nat} {lab : Int} (hm : (t, ({ cls := .type "tuple", data := .seq [Value.str sx tx, Value.int lab t0].toArray tn } : Obj)) ∈ rest) {ds : List Dat} {e' cp' mk hl : Int} (hB : Back σ ds e' cp' mk hl) (h4 : σ.b + (ds.length : Int) + 4 < σ.sk.length)
    (ret : ∀ c' add h' tk', Fr h₀ L h' m → News h₀ L h' (Led a k c' { restW σ ds e' cp' mk hl with sk := σ.sk.set (σ.b + (ds.length : Int) + 4).toNat (.int σ.p), p := lab } (add ++ rest)) → Rel k (add ++ imm) c' { restW σ ds e' cp' mk hl with sk := σ.sk.set (σ.b + (ds.length : Int) + 4).toNat (.int σ.p), p := lab } → Adds a rest add → Q (.bool true) { s with heap := h', toks := tk' }) :
    wpAny (model prog w) (ktrTop dp un gd cn cs L ca ccd cl outer) (call (.ref 355) [.ref a.m, .ref t]) Q E s := by
  have dS := R.s
  obtain ⟨zH, zS, zT, zX⟩ := id hS
  obtain ⟨o1, o2, o3, o4, o5, o6, o7⟩ := id hA
  have hc := hB.hc
  refine wpAny_call ?_
  k_dflt ktr_enter
  k_steps
  (rename Fr _ _ _ _ => F1); (rename News _ _ _ _ => N1)
  refine restore_choice_spec (by k_asm) F1 (by k_asm) N1 (by k_asm) rfl (by ktr_room) (by ktr_units) R hS hO hA hI hB.hc hB.hr hB.h3 hB.g1 hB.g2 hB.g5 hB.g6 hB.m0 hB.m1 hB.m2 hB.l0 hB.l1 ?_
  intro c1 add h1 tk1 F2 N2 R2 A2
  clear F1 N1
  have hO1 := offApp A2.off hO
  have hI1 := immApp (add := add) hI
  have hS1 : Sm (restW σ ds e' cp' mk hl) := smRest hS (by have := hB.h3; omega)
  have hm1 := memApp (add := add) hm
  k_steps
  all_goals ((rename Fr h₀ _ _ _ => qF); (rename News h₀ _ _ _ => qN); (rename Rel _ _ _ _ => qR); exact ret _ _ _ _ qF qN qR A2)

theorem do_trust_spec (B : Below A₀ base outer h₀) (F : Fr h₀ L s.heap m) (X : (hd.heap_39 w.params).In h₀) (N : News h₀ L s.heap (Led a k c σ rest)) (T : TopF mean mg mb h₀) (hk : cs.kind = .function) (hdp : dp + 3 < recursionLimit) (hun : un + 124 < cLine)
    (R : Rel k imm c σ) (hS : Sm σ) (hO : Off a rest) (hA : Ord a) (hI : ∀ p ∈ imm, p ∈ rest) {t : Addr} {tx t0 : Tok} {sx : Str} {tn : Nat} {lab : Int} (hm : (t, ({ cls := .type "tuple", data := .seq [Value.str sx tx, Value.int lab t0].toArray tn } : Obj)) ∈ rest) {ds : List Dat} {e' cp' mk hl : Int} (hB : Back σ ds e' cp' mk hl) {pv : Int} {σ2 : W} (h4 : At σ.sk (σ.b + (ds.length : Int) + 3) (.int pv)) (h5 : SetB (restW σ ds e' cp' mk hl) pv σ2)
    (ret : ∀ c' add h' tk', Fr h₀ L h' m → News h₀ L h' (Led a k c' { σ2 with p := lab } (add ++ rest)) → Rel k (add ++ imm) c' { σ2 with p := lab } → Adds a rest add → Q (.bool true) { s with heap := h', toks := tk' }) :
    wpAny (model prog w) (ktrTop dp un gd cn cs L ca ccd cl outer) (call (.ref 362) [.ref a.m, .ref t]) Q E s := by
  have dS := R.s
  obtain ⟨zH, zS, zT, zX⟩ := id hS
  obtain ⟨o1, o2, o3, o4, o5, o6, o7⟩ := id hA
  have hc := hB.hc
  refine wpAny_call ?_
  k_dflt ktr_enter
  k_steps
  (rename Fr _ _ _ _ => F1); (rename News _ _ _ _ => N1)
  refine restore_choice_spec (by k_asm) F1 (by k_asm) N1 (by k_asm) rfl (by ktr_room) (by ktr_units) R hS hO hA hI hB.hc hB.hr hB.h3 hB.g1 hB.g2 hB.g5 hB.g6 hB.m0 hB.m1 hB.m2 hB.l0 hB.l1 ?_
  intro c1 add h1 tk1 F2 N2 R2 A2
  clear F1 N1
  have hO1 := offApp A2.off hO
  have hI1 := immApp (add := add) hI
  have hS1 : Sm (restW σ ds e' cp' mk hl) := smRest hS (by have := hB.h3; omega)
  have hm1 := memApp (add := add) hm
  k_steps
  all_goals ((rename Fr h₀ _ _ _ => qF); (rename News h₀ _ _ _ => qN); (rename Rel _ _ _ _ => qR); exact ret _ _ _ _ qF qN qR A2)

end
end Mine
namespace Mine
theorem kw0_C16 : True := by
  k_with_none
  w_top off
  trivial
theorem fill16 : PySem.Challenge.rw_sa0158_01 = PySem.Challenge.rw_sa0158_01 ∧ hd.heap_39 = hd.heap_39 := by k_fill; exact ⟨rfl, rfl⟩
section
variable {prog : Program} {w : World} {mean : ExcName → Option Value} {mg mb : Str → Option Value} {dp un : Nat} {gd : Option (List Code)} {cn : Str} {cs : Scope} {ca : Addr} {ccd : Value} {cl : List (Str × Addr)} {outer : List Env} {A₀ : Around} {base h₀ : Heap} {L : Addr} {m : Str → Option Value} {s : Shared} {Q E : Value → Shared → Prop}
  {a : Adr} {k : Kon} {c : Con} {σ : W} {imm rest : List (Addr × Obj)}
theorem kw_C16_0 : True := by
  k_with_none
  k_with "k_upd" => first | exact upd_sk (by assumption) (by assumption) | exact upd_hp (by assumption) (by assumption) | exact upd_tr (by assumption) (by assumption) | exact upd_xs (by assumption) (by assumption) | exact upd_dm (by assumption) (by assumption) | exact upd_ds (by assumption) (by assumption) | exact upd_pt (by assumption) (by assumption) (by assumption) (by assumption) | exact upd_nu (by assumption) (by assumption) (by assumption) (by assumption) | exact upd_kl (by assumption) (by assumption) (by assumption) (by assumption) (by assumption)
  k_with "k_ne" => (refine neN ?_; (try dsimp only); first | exact Nat.ne_of_gt (by with_reducible assumption) | exact Nat.ne_of_lt (by with_reducible assumption) | exact Nat.ne_of_gt (And.left (by with_reducible assumption)) | exact Nat.ne_of_gt (cj1 (by with_reducible assumption)) | exact Nat.ne_of_gt (cj2 (by with_reducible assumption)) | exact Nat.ne_of_gt (cj3 (by with_reducible assumption)) | exact Nat.ne_of_gt (cj4 (by with_reducible assumption)) | exact Nat.ne_of_gt (cj5 (by with_reducible assumption)) | exact Nat.ne_of_gt (cj6 (by with_reducible assumption)) | exact Nat.ne_of_gt (cj7 (by with_reducible assumption)) | exact Nat.ne_of_gt (cj8 (by with_reducible assumption)) | exact Nat.ne_of_gt (cj9 (by with_reducible assumption)) | exact Nat.ne_of_gt (cj10 (by with_reducible assumption)) | exact Nat.ne_of_gt (cj11 (by with_reducible assumption)) | exact Nat.ne_of_gt (cj12 (by with_reducible assumption)) | exact Nat.ne_of_gt (ce1 (by with_reducible assumption)) | exact Nat.ne_of_gt (ce2 (by with_reducible assumption)) | exact Nat.ne_of_gt (ce3 (by with_reducible assumption)) | exact Nat.ne_of_gt (ce4 (by with_reducible assumption)) | exact Nat.ne_of_gt (ce5 (by with_reducible assumption)) | exact Nat.ne_of_gt (ce6 (by with_reducible assumption)) | exact Nat.ne_of_gt (ce7 (by with_reducible assumption)) | exact Nat.ne_of_gt (ce8 (by with_reducible assumption)) | exact Nat.ne_of_gt (ce9 (by with_reducible assumption)) | exact Nat.ne_of_gt (ce10 (by with_reducible assumption)) | exact Nat.ne_of_gt (ce11 (by with_reducible assumption)) | exact Nat.ne_of_gt (ce12 (by with_reducible assumption)) | exact Nat.ne_of_lt (And.left (by with_reducible assumption)) | exact Nat.ne_of_lt (cj1 (by with_reducible assumption)) | exact Nat.ne_of_lt (cj2 (by with_reducible assumption)) | exact Nat.ne_of_lt (cj3 (by with_reducible assumption)) | exact Nat.ne_of_lt (cj4 (by with_reducible assumption)) | exact Nat.ne_of_lt (cj5 (by with_reducible assumption)) | exact Nat.ne_of_lt (cj6 (by with_reducible assumption)) | exact Nat.ne_of_lt (cj7 (by with_reducible assumption)) | exact Nat.ne_of_lt (cj8 (by with_reducible assumption)) | exact Nat.ne_of_lt (cj9 (by with_reducible assumption)) | exact Nat.ne_of_lt (cj10 (by with_reducible assumption)) | exact Nat.ne_of_lt (cj11 (by with_reducible assumption)) | exact Nat.ne_of_lt (cj12 (by with_reducible assumption)) | exact Nat.ne_of_lt (ce1 (by with_reducible assumption)) | exact Nat.ne_of_lt (ce2 (by with_reducible assumption)) | exact Nat.ne_of_lt (ce3 (by with_reducible assumption)) | exact Nat.ne_of_lt (ce4 (by with_reducible assumption)) | exact Nat.ne_of_lt (ce5 (by with_reducible assumption)) | exact Nat.ne_of_lt (ce6 (by with_reducible assumption)) | exact Nat.ne_of_lt (ce7 (by with_reducible assumption)) | exact Nat.ne_of_lt (ce8 (by with_reducible assumption)) | exact Nat.ne_of_lt (ce9 (by with_reducible assumption)) | exact Nat.ne_of_lt (ce10 (by with_reducible assumption)) | exact Nat.ne_of_lt (ce11 (by with_reducible assumption)) | exact Nat.ne_of_lt (ce12 (by with_reducible assumption)))
  k_with "k_all" => first | exact Off.m (by assumption) | exact Off.dm (by assumption) | exact Off.st (by assumption) | exact Off.ds (by assumption) | exact Off.hp (by assumption) | exact Off.sk (by assumption) | exact Off.tr (by assumption) | exact Off.xs (by assumption)
  k_with "call builtin:len" => (k_here; (with_reducible show wpAny _ _ (call (Value.builtin "len") [Value.ref _]) _ _ _); k_dflt (refine' len_lst (by k_asm) (by k_mem) (by first | omega | (dsimp only; omega)) ?_; k_whole); intro t' tk')
  k_with "subscriptTail" => (k_here; (with_reducible show wpAny _ _ (subscriptTail _ _ (Value.ref _) (Value.int _ _)) _ _ _); k_dflt (refine' item_lst (by k_asm) (by k_mem) (by first | assumption | exact Rel.s (by assumption) | exact Rel.h (by assumption) | exact Rel.x (by assumption)) (by first | assumption | exact At.cast (by assumption) (by omega)) (by first | omega | (dsimp only; omega)) ?_ (by with_unfolding_all rfl); k_whole); intro v' hv')
  k_with "subscriptTail" => (k_here; (with_reducible show wpAny _ _ (subscriptTail _ _ (Value.ref _) (Value.int _ _)) _ _ _); k_dflt (refine' itemI_lst (by k_asm) (by k_mem) (by first | assumption | exact Rel.s (by assumption) | exact Rel.h (by assumption) | exact Rel.x (by assumption)) (by first | assumption | exact At.cast (by assumption) (by omega)) (by first | omega | (dsimp only; omega)) ?_ (by with_unfolding_all rfl); k_whole); intro t')
  k_with "setItem ref" => (k_here; (with_reducible show wpAny _ _ (setItem (Value.ref _) (Value.int _ _) _) _ _ _); k_dflt (refine' set_lst (by k_asm) (by k_asm) (by k_upd) (by omega) (by omega) (by first | omega | (dsimp only; omega)) ?_; k_whole); intro h' F' N'; (try k_sweep))
  k_with "call builtin:list.append" => (k_here; (with_reducible show wpAny _ _ (call (Value.builtin _) [Value.ref _, _]) _ _ _); k_dflt (refine' append_lst (by k_asm) (by k_asm) (by k_upd) (by first | omega | (dsimp only; omega)) ?_; k_whole); intro h' F' N'; (try k_sweep))
  k_with "WhlIf" => first | refine WhlIf.yes (decide_eq_true (by omega)) ?_ | refine WhlIf.no (decide_eq_false (by omega)) ?_
  k_with "exec While Compare cons nil" => ((with_reducible rename MarkW => mk'); clear mk'; refine Stop.by ?_)
  k_with "exec For Name Name cons nil" => ((with_reducible rename MarkF => mk'); (rename Fr _ _ _ _ => lF'); (with_unfolding_all refine' For_invVF lF' (by exact rfl) (by exact rfl) ?_; k_whole))
  k_with "exec For Name Call cons nil" => ((with_reducible rename MarkF => mk'); (rename Fr _ _ _ _ => lF'); (with_unfolding_all refine' For_invVF lF' (by exact rfl) (by exact rfl) ?_; k_whole))
  k_with "pyIter ref" => ((with_reducible rename MarkF => mk'); clear mk'; refine Stop.by ?_)
  k_with "exec While Constant" => (k_here; k_dflt (refine whl_start 100 ?_))
  k_with "compareOp Eq" => (k_here; k_dflt (refine' eq_datB (by assumption) (by assumption) (by exact mem9s (by k_asm) (by repeat (first | assumption | refine immTail ?_)) (by k_asm) (by k_asm)) (by first | rfl | assumption) (by first | rfl | assumption) (by ktr_units) ?_; k_whole))
  k_with "subscriptTail" => (k_here; (with_reducible show wpAny _ _ (subscriptTail _ _ (Value.ref _) (Value.int _ _)) _ _ _); k_dflt (refine' tup9B (by assumption) (by exact mem9s (by k_asm) (by repeat (first | assumption | refine immTail ?_)) (by k_asm) (by k_asm)) (by decide) (by decide) (by rfl) (by rfl) ?_ (by with_unfolding_all rfl); k_whole))
  k_with "call builtin:list.pop" => (k_here; (with_reducible show wpAny _ _ (call (Value.builtin _) [Value.ref _]) _ _ _); k_dflt (refine' pop_lst (by k_asm) (by k_asm) (by k_upd) (by first | omega | (dsimp only; omega)) ?_; k_whole); intro h' F' N'; (try k_sweep))
  k_with "UnrEnd" => (refine unrLed (by k_asm) (by k_asm) (by assumption) ?_)
  k_with "k_mem" => first | with_reducible assumption | (refine memOf ?_; with_reducible assumption)
  k_with "k_all" => assumption
  k_with "call ref" => (k_here; (with_reducible show wpAny _ _ (call (Value.ref _) [_, _, _]) _ _ _); k_dflt (first | (refine' set_x_spec (by k_asm) (by k_asm) (by k_asm) (by first | k_asm | (refine newsSub (by assumption) ?_; first | exact ledSwap | exact ledSwap2)) (by k_asm) (by rfl) (by ktr_room) (by ktr_units) (by assumption) (by first | assumption | (refine' smSame (by assumption) (by rfl) (by rfl) (by rfl) (by rfl)) | (refine' smUndo (by assumption) (by rfl) (by rfl) (by exact undo_length _ _) (by exact List.length_take_le' ..)) | exact smSeg (by assumption) (by omega) (by omega) (by simp only [List.length_append, List.length_cons, List.length_nil]; omega)) (by first | assumption | exact offPot (by assumption) (by assumption) (by assumption) | exact offApp (Adds.off (by assumption)) (by assumption) | exact offCons (by assumption) (by omega) (by omega) (by omega) (by omega) (by omega) (by omega) (by omega) (by omega)) (by assumption) (by first | assumption | exact immPot (by assumption) | exact immTail (by assumption) | exact immApp (by assumption)) (by omega) (by omega) (by first | assumption | exact DatIn.int _ _ | exact voidIn) ?_; k_whole)); intro c' h' tk' F' N' R'; (try dsimp only at N'); (try dsimp only at R'); (try k_sweep))
  trivial
theorem write_spec (B : Below A₀ base outer h₀) (F : Fr h₀ L s.heap m) (X : (hd.heap_39 w.params).In h₀) (N : News h₀ L s.heap (Led a k c σ rest)) (T : TopF mean mg mb h₀) (hk : cs.kind = .function) (hdp : dp + 2 < recursionLimit) (hun : un + 116 < cLine)
    (R : Rel k imm c σ) (hS : Sm σ) (hO : Off a rest) (hA : Ord a) (hI : ∀ p ∈ imm, p ∈ rest) {t2 : Addr} {tx t0 : Tok} {n2 : Nat} {i : Int} {v : Value} {d : Dat} (h2 : (t2, ({ cls := .type "tuple", data := .seq [Value.str (Str.ofString "x") tx, Value.int i t0].toArray n2 } : Obj)) ∈ rest) (h0 : 0 ≤ i) (h1 : i < 6) (hv : DatIn (KV ++ imm) v d)
    (ret : ∀ c' h' tk', Fr h₀ L h' m → News h₀ L h' (Led a k c' { σ with x := σ.x.set i.toNat d } rest) → Rel k imm c' { σ with x := σ.x.set i.toNat d } → Q .none { s with heap := h', toks := tk' }) :
    wpAny (model prog w) (ktrTop dp un gd cn cs L ca ccd cl outer) (call (.ref 299) [.ref a.m, .ref t2, v]) Q E s := by
  have dS := R.s
  obtain ⟨zH, zS, zT, zX⟩ := id hS
  obtain ⟨o1, o2, o3, o4, o5, o6, o7⟩ := id hA
  refine wpAny_call ?_
  k_dflt ktr_enter
  k_steps
  all_goals ((rename Fr h₀ _ _ _ => qF); (rename News h₀ _ _ _ => qN); (rename Rel _ _ _ _ => qR); exact ret _ _ _ qF qN qR)

theorem read_spec (B : Below A₀ base outer h₀) (F : Fr h₀ L s.heap m) (X : (hd.heap_39 w.params).In h₀) (N : News h₀ L s.heap (Led a k c σ rest)) (T : TopF mean mg mb h₀) (hk : cs.kind = .function) (hdp : dp + 1 < recursionLimit) (hun : un + 108 < cLine)
    (R : Rel k imm c σ) (hS : Sm σ) (hO : Off a rest) (hA : Ord a) (hI : ∀ p ∈ imm, p ∈ rest) {t2 : Addr} {tx t0 : Tok} {n2 : Nat} {i : Int} {d : Dat} (h2 : (t2, ({ cls := .type "tuple", data := .seq [Value.str (Str.ofString "x") tx, Value.int i t0].toArray n2 } : Obj)) ∈ rest) (h1 : At σ.x i d)
    (ret : ∀ v h' tk', Fr h₀ L h' m → News h₀ L h' (Led a k c σ rest) → DatIn (KV ++ imm) v d → Q v { s with heap := h', toks := tk' }) :
    wpAny (model prog w) (ktrTop dp un gd cn cs L ca ccd cl outer) (call (.ref 292) [.ref a.m, .ref t2]) Q E s := by
  have dS := R.s
  obtain ⟨zH, zS, zT, zX⟩ := id hS
  obtain ⟨o1, o2, o3, o4, o5, o6, o7⟩ := id hA
  have dX := R.x
  refine wpAny_call ?_
  k_dflt ktr_enter
  k_steps
  all_goals ((rename Fr h₀ _ _ _ => qF); (rename News h₀ _ _ _ => qN); exact ret _ _ _ qF qN (by assumption))

theorem do_get_level_spec (B : Below A₀ base outer h₀) (F : Fr h₀ L s.heap m) (X : (hd.heap_39 w.params).In h₀) (N : News h₀ L s.heap (Led a k c σ rest)) (T : TopF mean mg mb h₀) (hk : cs.kind = .function) (hdp : dp + 3 < recursionLimit) (hun : un + 124 < cLine)
    (R : Rel k imm c σ) (hS : Sm σ) (hO : Off a rest) (hA : Ord a) (hI : ∀ p ∈ imm, p ∈ rest) {t : Addr} {ts : Tok} {sx : Str} {tn : Nat} {t2 : Addr} {tx t0 : Tok} {n2 : Nat} {i : Int} (hm : (t, ({ cls := .type "tuple", data := .seq [Value.str sx ts, Value.ref t2].toArray tn } : Obj)) ∈ rest) (h2 : (t2, ({ cls := .type "tuple", data := .seq [Value.str (Str.ofString "x") tx, Value.int i t0].toArray n2 } : Obj)) ∈ rest) (h0 : 0 ≤ i) (h1 : i < 6)
    (ret : ∀ c' add h' tk', Fr h₀ L h' m → News h₀ L h' (Led a k c' { σ with x := σ.x.set i.toNat (cell 5 σ.b0) } (add ++ rest)) → Rel k (add ++ imm) c' { σ with x := σ.x.set i.toNat (cell 5 σ.b0) } → Adds a rest add → Q (.bool true) { s with heap := h', toks := tk' }) :
    wpAny (model prog w) (ktrTop dp un gd cn cs L ca ccd cl outer) (call (.ref 327) [.ref a.m, .ref t]) Q E s := by
  have dS := R.s
  obtain ⟨zH, zS, zT, zX⟩ := id hS
  obtain ⟨o1, o2, o3, o4, o5, o6, o7⟩ := id hA
  refine wpAny_call ?_
  k_dflt ktr_enter
  k_steps
  rename_i T hh F1 N1 l1
  have q1 := fun o => addsOne (o := o) (rest := rest) (k := k) (c := c) (σ := σ) (allLt_all (d := T) l1)
  refine write_spec (imm := (T, _) :: imm) (rest := (T, _) :: rest) (d := cell 5 σ.b0) (by k_asm) F1 (by k_asm) (newsSub N1 ledSwap) (by k_asm) rfl (by ktr_room) (by ktr_units) (relMono R (immTail (fun _ h => h))) hS (offApp (q1 _).off hO) hA (immCons hI) (List.Mem.tail _ h2) h0 h1 (DatIn.tuple (List.mem_append.mpr (.inr (List.Mem.head _))) (.cons (.int _ _) (.cons (.int _ _) .nil))) ?_
  intro c' h' tk' F2 N2 R2
  clear N1 F1
  k_steps
  all_goals ((rename Fr h₀ _ _ _ => qF); (rename News h₀ _ _ _ => qN); exact ret _ [(T, _)] _ _ qF qN R2 (q1 _))

theorem do_mark_spec (B : Below A₀ base outer h₀) (F : Fr h₀ L s.heap m) (X : (hd.heap_39 w.params).In h₀) (N : News h₀ L s.heap (Led a k c σ rest)) (T : TopF mean mg mb h₀) (hk : cs.kind = .function) (hdp : dp + 3 < recursionLimit) (hun : un + 124 < cLine)
    (R : Rel k imm c σ) (hS : Sm σ) (hO : Off a rest) (hA : Ord a) (hI : ∀ p ∈ imm, p ∈ rest) {t : Addr} {ts : Tok} {sx : Str} {tn : Nat} {t2 : Addr} {tx t0 : Tok} {n2 : Nat} {i : Int} (hm : (t, ({ cls := .type "tuple", data := .seq [Value.str sx ts, Value.ref t2].toArray tn } : Obj)) ∈ rest) (h2 : (t2, ({ cls := .type "tuple", data := .seq [Value.str (Str.ofString "x") tx, Value.int i t0].toArray n2 } : Obj)) ∈ rest) (h0 : 0 ≤ i) (h1 : i < 6)
    (ret : ∀ c' add h' tk', Fr h₀ L h' m → News h₀ L h' (Led a k c' { σ with x := σ.x.set i.toNat (cell 5 σ.b) } (add ++ rest)) → Rel k (add ++ imm) c' { σ with x := σ.x.set i.toNat (cell 5 σ.b) } → Adds a rest add → Q (.bool true) { s with heap := h', toks := tk' }) :
    wpAny (model prog w) (ktrTop dp un gd cn cs L ca ccd cl outer) (call (.ref 334) [.ref a.m, .ref t]) Q E s := by
  have dS := R.s
  obtain ⟨zH, zS, zT, zX⟩ := id hS
  obtain ⟨o1, o2, o3, o4, o5, o6, o7⟩ := id hA
  refine wpAny_call ?_
  k_dflt ktr_enter
  k_steps
  rename_i T hh F1 N1 l1
  have q1 := fun o => addsOne (o := o) (rest := rest) (k := k) (c := c) (σ := σ) (allLt_all (d := T) l1)
  refine write_spec (imm := (T, _) :: imm) (rest := (T, _) :: rest) (d := cell 5 σ.b) (by k_asm) F1 (by k_asm) (newsSub N1 ledSwap) (by k_asm) rfl (by ktr_room) (by ktr_units) (relMono R (immTail (fun _ h => h))) hS (offApp (q1 _).off hO) hA (immCons hI) (List.Mem.tail _ h2) h0 h1 (DatIn.tuple (List.mem_append.mpr (.inr (List.Mem.head _))) (.cons (.int _ _) (.cons (.int _ _) .nil))) ?_
  intro c' h' tk' F2 N2 R2
  clear N1 F1
  k_steps
  all_goals ((rename Fr h₀ _ _ _ => qF); (rename News h₀ _ _ _ => qN); exact ret _ [(T, _)] _ _ qF qN R2 (q1 _))

theorem do_cut_to_spec (B : Below A₀ base outer h₀) (F : Fr h₀ L s.heap m) (X : (hd.heap_39 w.params).In h₀) (N : News h₀ L s.heap (Led a k c σ rest)) (T : TopF mean mg mb h₀) (hk : cs.kind = .function) (hdp : dp + 3 < recursionLimit) (hun : un + 124 < cLine)
    (R : Rel k imm c σ) (hS : Sm σ) (hO : Off a rest) (hA : Ord a) (hI : ∀ p ∈ imm, p ∈ rest) {t : Addr} {ts : Tok} {sx : Str} {tn : Nat} {t2 : Addr} {tx t0 : Tok} {n2 : Nat} {i : Int} {n : Int} {σ' : W} (hm : (t, ({ cls := .type "tuple", data := .seq [Value.str sx ts, Value.ref t2].toArray tn } : Obj)) ∈ rest) (h2 : (t2, ({ cls := .type "tuple", data := .seq [Value.str (Str.ofString "x") tx, Value.int i t0].toArray n2 } : Obj)) ∈ rest) (hat : At σ.x i (cell 5 n)) (hcut : CutTo σ n σ')
    (ret : ∀ c' h' tk', Fr h₀ L h' m → News h₀ L h' (Led a k c' σ' rest) → Rel k imm c' σ' → Q (.bool true) { s with heap := h', toks := tk' }) :
    wpAny (model prog w) (ktrTop dp un gd cn cs L ca ccd cl outer) (call (.ref 341) [.ref a.m, .ref t]) Q E s := by
  have dS := R.s
  obtain ⟨zH, zS, zT, zX⟩ := id hS
  obtain ⟨o1, o2, o3, o4, o5, o6, o7⟩ := id hA
  refine wpAny_call ?_
  k_dflt ktr_enter
  k_steps
  (rename Fr _ _ _ _ => F1); (rename News _ _ _ _ => N1)
  refine read_spec (by k_asm) F1 (by k_asm) N1 (by k_asm) rfl (by ktr_room) (by ktr_units) R hS hO hA hI h2 hat ?_
  intro v h1 tk1 F2 N2 hv
  clear F1 N1
  obtain ⟨tc, nc, k1, k2, rfl, hmc⟩ := datCell hv
  k_steps
  (rename Fr _ _ _ _ => F1); (rename News _ _ _ _ => N1)
  refine deref_int (by k_asm) F1 (by k_asm) N1 (by k_asm) rfl (by ktr_room) (by ktr_units) R hS hO hA hI hmc ?_
  intro h3 tk3 F3 N3
  clear F1 N1
  k_steps
  (rename Fr _ _ _ _ => F1); (rename News _ _ _ _ => N1)
  refine cut_back_spec (by k_asm) F1 (by k_asm) N1 (by k_asm) rfl (by ktr_room) (by ktr_units) R hS hO hA hI hcut ?_
  intro c' h4 tk4 F4 N4 R4
  clear F1 N1
  k_steps
  all_goals ((rename Fr h₀ _ _ _ => qF); (rename News h₀ _ _ _ => qN); (rename Rel _ _ _ _ => qR); exact ret _ _ _ qF qN qR)

theorem push_env_spec (B : Below A₀ base outer h₀) (F : Fr h₀ L s.heap m) (X : (hd.heap_39 w.params).In h₀) (N : News h₀ L s.heap (Led a k c σ rest)) (T : TopF mean mg mb h₀) (hk : cs.kind = .function) (hdp : dp + 2 < recursionLimit) (hun : un + 116 < cLine)
    (R : Rel k imm c σ) (hS : Sm σ) (hO : Off a rest) (hA : Ord a) (hI : ∀ p ∈ imm, p ∈ rest) {n sz : Int} {tn : Tok} (g0 : 0 ≤ sz) (g1 : sz ≤ 2) (ht : IsTop σ n) (h0 : 0 ≤ n) (h1 : n ≤ σ.sk.length) (h2 : σ.sk.length ≤ 3900)
    (ret : ∀ c' h' tk', Fr h₀ L h' m → News h₀ L h' (Led a k c' { σ with sk := segS σ.sk n.toNat ([.int σ.e, .int σ.cp] ++ List.replicate sz.toNat (cell 5 0)), e := n } rest) → Rel k imm c' { σ with sk := segS σ.sk n.toNat ([.int σ.e, .int σ.cp] ++ List.replicate sz.toNat (cell 5 0)), e := n } → Q .none { s with heap := h', toks := tk' }) :
    wpAny (model prog w) (ktrTop dp un gd cn cs L ca ccd cl outer) (call (.ref 440) [.ref a.m, .int sz tn]) Q E s := by
  have q : sz = 0 ∨ sz = 1 ∨ sz = 2 := by omega
  rcases q with rfl | rfl | rfl
  · exact push_env0 B F X N T hk hdp hun R hS hO hA hI ht h0 h1 h2 ret
  · exact push_env1 B F X N T hk hdp hun R hS hO hA hI ht h0 h1 h2 ret
  · exact push_env2 B F X N T hk hdp hun R hS hO hA hI ht h0 h1 h2 ret

theorem kw_C16_1 : True := by
  k_with "call ref" => (k_here; (with_reducible show wpAny _ _ (call (Value.ref _) [_, _]) _ _ _); k_dflt (first | (refine' push_env_spec (by k_asm) (by k_asm) (by k_asm) (by first | k_asm | (refine newsSub (by assumption) ?_; first | exact ledSwap | exact ledSwap2)) (by k_asm) (by rfl) (by ktr_room) (by ktr_units) (by assumption) (by first | assumption | (refine' smSame (by assumption) (by rfl) (by rfl) (by rfl) (by rfl)) | (refine' smUndo (by assumption) (by rfl) (by rfl) (by exact undo_length _ _) (by exact List.length_take_le' ..)) | exact smSeg (by assumption) (by omega) (by omega) (by simp only [List.length_append, List.length_cons, List.length_nil]; omega)) (by first | assumption | exact offPot (by assumption) (by assumption) (by assumption) | exact offApp (Adds.off (by assumption)) (by assumption) | exact offCons (by assumption) (by omega) (by omega) (by omega) (by omega) (by omega) (by omega) (by omega) (by omega)) (by assumption) (by first | assumption | exact immPot (by assumption) | exact immTail (by assumption) | exact immApp (by assumption)) (by omega) (by omega) (by assumption) (by omega) (by omega) (by omega) ?_; k_whole)); intro c' h' tk' F' N' R'; (try dsimp only at N'); (try dsimp only at R'); (try k_sweep))
  k_with "call ref" => (k_here; (with_reducible show wpAny _ _ (call (Value.ref _) _) _ _ _); k_dflt (first | (refine' pop_environment_spec (by k_asm) (by k_asm) (by k_asm) (by first | k_asm | (refine newsSub (by assumption) ?_; first | exact ledSwap | exact ledSwap2)) (by k_asm) (by rfl) (by ktr_room) (by ktr_units) (by assumption) (by first | assumption | (refine' smSame (by assumption) (by rfl) (by rfl) (by rfl) (by rfl)) | (refine' smUndo (by assumption) (by rfl) (by rfl) (by exact undo_length _ _) (by exact List.length_take_le' ..)) | exact smSeg (by assumption) (by omega) (by omega) (by simp only [List.length_append, List.length_cons, List.length_nil]; omega)) (by first | assumption | exact offPot (by assumption) (by assumption) (by assumption) | exact offApp (Adds.off (by assumption)) (by assumption) | exact offCons (by assumption) (by omega) (by omega) (by omega) (by omega) (by omega) (by omega) (by omega) (by omega)) (by assumption) (by first | assumption | exact immPot (by assumption) | exact immTail (by assumption) | exact immApp (by assumption)) (by assumption) (by assumption) ?_; k_whole)); intro c' h' tk' F' N' R'; (try dsimp only at N'); (try dsimp only at R'); (try k_sweep))
  trivial
theorem do_allocate_spec (B : Below A₀ base outer h₀) (F : Fr h₀ L s.heap m) (X : (hd.heap_39 w.params).In h₀) (N : News h₀ L s.heap (Led a k c σ rest)) (T : TopF mean mg mb h₀) (hk : cs.kind = .function) (hdp : dp + 3 < recursionLimit) (hun : un + 124 < cLine)
    (R : Rel k imm c σ) (hS : Sm σ) (hO : Off a rest) (hA : Ord a) (hI : ∀ p ∈ imm, p ∈ rest) {t : Addr} {tx t0 : Tok} {sx : Str} {tn : Nat} {lab : Int} (hm : (t, ({ cls := .type "tuple", data := .seq [Value.str sx tx, Value.int lab t0].toArray tn } : Obj)) ∈ rest) {n : Int} (g0 : 0 ≤ lab) (g1 : lab ≤ 2) (ht : IsTop σ n) (h0 : 0 ≤ n) (h1 : n ≤ σ.sk.length) (h2 : σ.sk.length ≤ 3900)
    (ret : ∀ c' h' tk', Fr h₀ L h' m → News h₀ L h' (Led a k c' { σ with sk := segS σ.sk n.toNat ([.int σ.e, .int σ.cp] ++ List.replicate lab.toNat (cell 5 0)), e := n } rest) → Rel k imm c' { σ with sk := segS σ.sk n.toNat ([.int σ.e, .int σ.cp] ++ List.replicate lab.toNat (cell 5 0)), e := n } → Q (.bool true) { s with heap := h', toks := tk' }) :
    wpAny (model prog w) (ktrTop dp un gd cn cs L ca ccd cl outer) (call (.ref 306) [.ref a.m, .ref t]) Q E s := by
  have dS := R.s
  obtain ⟨zH, zS, zT, zX⟩ := id hS
  obtain ⟨o1, o2, o3, o4, o5, o6, o7⟩ := id hA
  refine wpAny_call ?_
  k_dflt ktr_enter
  k_steps
  all_goals ((rename Fr h₀ _ _ _ => qF); (rename News h₀ _ _ _ => qN); (rename Rel _ _ _ _ => qR); exact ret _ _ _ qF qN qR)

theorem do_deallocate_spec (B : Below A₀ base outer h₀) (F : Fr h₀ L s.heap m) (X : (hd.heap_39 w.params).In h₀) (N : News h₀ L s.heap (Led a k c σ rest)) (T : TopF mean mg mb h₀) (hk : cs.kind = .function) (hdp : dp + 2 < recursionLimit) (hun : un + 116 < cLine)
    (R : Rel k imm c σ) (hS : Sm σ) (hO : Off a rest) (hA : Ord a) (hI : ∀ p ∈ imm, p ∈ rest) {t : Addr} {pe pc : Int} (h1 : At σ.sk σ.e (.int pe)) (h2 : At σ.sk (σ.e + 1) (.int pc))
    (ret : ∀ c' h' tk', Fr h₀ L h' m → News h₀ L h' (Led a k c' { σ with e := pe, cp := pc } rest) → Rel k imm c' { σ with e := pe, cp := pc } → Q (.bool true) { s with heap := h', toks := tk' }) :
    wpAny (model prog w) (ktrTop dp un gd cn cs L ca ccd cl outer) (call (.ref 313) [.ref a.m, .ref t]) Q E s := by
  have dS := R.s
  obtain ⟨zH, zS, zT, zX⟩ := id hS
  obtain ⟨o1, o2, o3, o4, o5, o6, o7⟩ := id hA
  refine wpAny_call ?_
  k_dflt ktr_enter
  k_steps
  all_goals ((rename Fr h₀ _ _ _ => qF); (rename News h₀ _ _ _ => qN); (rename Rel _ _ _ _ => qR); exact ret _ _ _ qF qN qR)

end
end Mine
namespace Mine
theorem kw0_C17 : True := by
  k_with_none
  w_top off
  trivial
theorem fill17 : PySem.Challenge.rw_sa0158_01 = PySem.Challenge.rw_sa0158_01 ∧ hd.heap_39 = hd.heap_39 := by k_fill; exact ⟨rfl, rfl⟩
theorem potCons {pt nu : Addr} {q : PotC} {x : Addr × Obj} {rest : List (Addr × Obj)} : ∀ p ∈ x :: potL pt nu q rest, p ∈ potL pt nu q (x :: rest) := List.forall_mem_cons.mpr ⟨List.Mem.tail _ (List.Mem.tail _ (List.Mem.head _)), List.forall_mem_cons.mpr ⟨List.Mem.head _, List.forall_mem_cons.mpr ⟨List.Mem.tail _ (List.Mem.head _), fun p hp => List.Mem.tail _ (List.Mem.tail _ (List.Mem.tail _ hp))⟩⟩⟩
section
variable {prog : Program} {w : World} {mean : ExcName → Option Value} {mg mb : Str → Option Value} {dp un : Nat} {gd : Option (List Code)} {cn : Str} {cs : Scope} {ca : Addr} {ccd : Value} {cl : List (Str × Addr)} {outer : List Env} {A₀ : Around} {base h₀ : Heap} {L : Addr} {m : Str → Option Value} {s : Shared} {Q E : Value → Shared → Prop}
  {a : Adr} {k : Kon} {c : Con} {σ : W} {imm rest : List (Addr × Obj)}
variable {pt nu : Addr} {q : PotC}
theorem kw_C17_0 : True := by
  k_with_none
  k_with "k_upd" => first | exact upd_sk (by assumption) (by assumption) | exact upd_hp (by assumption) (by assumption) | exact upd_tr (by assumption) (by assumption) | exact upd_xs (by assumption) (by assumption) | exact upd_dm (by assumption) (by assumption) | exact upd_ds (by assumption) (by assumption) | exact upd_pt (by assumption) (by assumption) (by assumption) (by assumption) | exact upd_nu (by assumption) (by assumption) (by assumption) (by assumption) | exact upd_kl (by assumption) (by assumption) (by assumption) (by assumption) (by assumption)
  k_with "k_ne" => (refine neN ?_; (try dsimp only); first | exact Nat.ne_of_gt (by with_reducible assumption) | exact Nat.ne_of_lt (by with_reducible assumption) | exact Nat.ne_of_gt (And.left (by with_reducible assumption)) | exact Nat.ne_of_gt (cj1 (by with_reducible assumption)) | exact Nat.ne_of_gt (cj2 (by with_reducible assumption)) | exact Nat.ne_of_gt (cj3 (by with_reducible assumption)) | exact Nat.ne_of_gt (cj4 (by with_reducible assumption)) | exact Nat.ne_of_gt (cj5 (by with_reducible assumption)) | exact Nat.ne_of_gt (cj6 (by with_reducible assumption)) | exact Nat.ne_of_gt (cj7 (by with_reducible assumption)) | exact Nat.ne_of_gt (cj8 (by with_reducible assumption)) | exact Nat.ne_of_gt (cj9 (by with_reducible assumption)) | exact Nat.ne_of_gt (cj10 (by with_reducible assumption)) | exact Nat.ne_of_gt (cj11 (by with_reducible assumption)) | exact Nat.ne_of_gt (cj12 (by with_reducible assumption)) | exact Nat.ne_of_gt (ce1 (by with_reducible assumption)) | exact Nat.ne_of_gt (ce2 (by with_reducible assumption)) | exact Nat.ne_of_gt (ce3 (by with_reducible assumption)) | exact Nat.ne_of_gt (ce4 (by with_reducible assumption)) | exact Nat.ne_of_gt (ce5 (by with_reducible assumption)) | exact Nat.ne_of_gt (ce6 (by with_reducible assumption)) | exact Nat.ne_of_gt (ce7 (by with_reducible assumption)) | exact Nat.ne_of_gt (ce8 (by with_reducible assumption)) | exact Nat.ne_of_gt (ce9 (by with_reducible assumption)) | exact Nat.ne_of_gt (ce10 (by with_reducible assumption)) | exact Nat.ne_of_gt (ce11 (by with_reducible assumption)) | exact Nat.ne_of_gt (ce12 (by with_reducible assumption)) | exact Nat.ne_of_lt (And.left (by with_reducible assumption)) | exact Nat.ne_of_lt (cj1 (by with_reducible assumption)) | exact Nat.ne_of_lt (cj2 (by with_reducible assumption)) | exact Nat.ne_of_lt (cj3 (by with_reducible assumption)) | exact Nat.ne_of_lt (cj4 (by with_reducible assumption)) | exact Nat.ne_of_lt (cj5 (by with_reducible assumption)) | exact Nat.ne_of_lt (cj6 (by with_reducible assumption)) | exact Nat.ne_of_lt (cj7 (by with_reducible assumption)) | exact Nat.ne_of_lt (cj8 (by with_reducible assumption)) | exact Nat.ne_of_lt (cj9 (by with_reducible assumption)) | exact Nat.ne_of_lt (cj10 (by with_reducible assumption)) | exact Nat.ne_of_lt (cj11 (by with_reducible assumption)) | exact Nat.ne_of_lt (cj12 (by with_reducible assumption)) | exact Nat.ne_of_lt (ce1 (by with_reducible assumption)) | exact Nat.ne_of_lt (ce2 (by with_reducible assumption)) | exact Nat.ne_of_lt (ce3 (by with_reducible assumption)) | exact Nat.ne_of_lt (ce4 (by with_reducible assumption)) | exact Nat.ne_of_lt (ce5 (by with_reducible assumption)) | exact Nat.ne_of_lt (ce6 (by with_reducible assumption)) | exact Nat.ne_of_lt (ce7 (by with_reducible assumption)) | exact Nat.ne_of_lt (ce8 (by with_reducible assumption)) | exact Nat.ne_of_lt (ce9 (by with_reducible assumption)) | exact Nat.ne_of_lt (ce10 (by with_reducible assumption)) | exact Nat.ne_of_lt (ce11 (by with_reducible assumption)) | exact Nat.ne_of_lt (ce12 (by with_reducible assumption)))
  k_with "k_all" => first | exact Off.m (by assumption) | exact Off.dm (by assumption) | exact Off.st (by assumption) | exact Off.ds (by assumption) | exact Off.hp (by assumption) | exact Off.sk (by assumption) | exact Off.tr (by assumption) | exact Off.xs (by assumption)
  k_with "call builtin:len" => (k_here; (with_reducible show wpAny _ _ (call (Value.builtin "len") [Value.ref _]) _ _ _); k_dflt (refine' len_lst (by k_asm) (by k_mem) (by first | omega | (dsimp only; omega)) ?_; k_whole); intro t' tk')
  k_with "subscriptTail" => (k_here; (with_reducible show wpAny _ _ (subscriptTail _ _ (Value.ref _) (Value.int _ _)) _ _ _); k_dflt (refine' item_lst (by k_asm) (by k_mem) (by first | assumption | exact Rel.s (by assumption) | exact Rel.h (by assumption) | exact Rel.x (by assumption)) (by first | assumption | exact At.cast (by assumption) (by omega)) (by first | omega | (dsimp only; omega)) ?_ (by with_unfolding_all rfl); k_whole); intro v' hv')
  k_with "subscriptTail" => (k_here; (with_reducible show wpAny _ _ (subscriptTail _ _ (Value.ref _) (Value.int _ _)) _ _ _); k_dflt (refine' itemI_lst (by k_asm) (by k_mem) (by first | assumption | exact Rel.s (by assumption) | exact Rel.h (by assumption) | exact Rel.x (by assumption)) (by first | assumption | exact At.cast (by assumption) (by omega)) (by first | omega | (dsimp only; omega)) ?_ (by with_unfolding_all rfl); k_whole); intro t')
  k_with "setItem ref" => (k_here; (with_reducible show wpAny _ _ (setItem (Value.ref _) (Value.int _ _) _) _ _ _); k_dflt (refine' set_lst (by k_asm) (by k_asm) (by k_upd) (by omega) (by omega) (by first | omega | (dsimp only; omega)) ?_; k_whole); intro h' F' N'; (try k_sweep))
  k_with "call builtin:list.append" => (k_here; (with_reducible show wpAny _ _ (call (Value.builtin _) [Value.ref _, _]) _ _ _); k_dflt (refine' append_lst (by k_asm) (by k_asm) (by k_upd) (by first | omega | (dsimp only; omega)) ?_; k_whole); intro h' F' N'; (try k_sweep))
  k_with "WhlIf" => first | refine WhlIf.yes (decide_eq_true (by omega)) ?_ | refine WhlIf.no (decide_eq_false (by omega)) ?_
  k_with "exec While Compare cons nil" => ((with_reducible rename MarkW => mk'); clear mk'; refine Stop.by ?_)
  k_with "exec For Name Name cons nil" => ((with_reducible rename MarkF => mk'); (rename Fr _ _ _ _ => lF'); (with_unfolding_all refine' For_invVF lF' (by exact rfl) (by exact rfl) ?_; k_whole))
  k_with "exec For Name Call cons nil" => ((with_reducible rename MarkF => mk'); (rename Fr _ _ _ _ => lF'); (with_unfolding_all refine' For_invVF lF' (by exact rfl) (by exact rfl) ?_; k_whole))
  k_with "pyIter ref" => ((with_reducible rename MarkF => mk'); clear mk'; refine Stop.by ?_)
  k_with "exec While Constant" => (k_here; k_dflt (refine whl_start 100 ?_))
  k_with "compareOp Eq" => (k_here; k_dflt (refine' eq_datB (by assumption) (by assumption) (by exact mem9s (by k_asm) (by repeat (first | assumption | refine immTail ?_)) (by k_asm) (by k_asm)) (by first | rfl | assumption) (by first | rfl | assumption) (by ktr_units) ?_; k_whole))
  k_with "subscriptTail" => (k_here; (with_reducible show wpAny _ _ (subscriptTail _ _ (Value.ref _) (Value.int _ _)) _ _ _); k_dflt (refine' tup9B (by assumption) (by exact mem9s (by k_asm) (by repeat (first | assumption | refine immTail ?_)) (by k_asm) (by k_asm)) (by decide) (by decide) (by rfl) (by rfl) ?_ (by with_unfolding_all rfl); k_whole))
  k_with "call builtin:list.pop" => (k_here; (with_reducible show wpAny _ _ (call (Value.builtin _) [Value.ref _]) _ _ _); k_dflt (refine' pop_lst (by k_asm) (by k_asm) (by k_upd) (by first | omega | (dsimp only; omega)) ?_; k_whole); intro h' F' N'; (try k_sweep))
  k_with "UnrEnd" => (refine unrLed (by k_asm) (by k_asm) (by assumption) ?_)
  k_with "k_mem" => first | with_reducible assumption | (refine memOf ?_; with_reducible assumption)
  k_with "k_all" => assumption
  k_with "call builtin:len" => (k_here; (with_reducible show wpAny _ _ (call (Value.builtin "len") [Value.ref _]) _ _ _); k_dflt (refine' len_dat (by k_asm) (by k_mem) (by first | assumption | exact Rel.h (by assumption) | exact Rel.s (by assumption) | exact Rel.x (by assumption)) (by first | omega | (dsimp only; omega)) ?_; k_whole); intro t' tk')
  k_with "call ref" => (k_here; (with_reducible show wpAny _ _ (call (Value.ref _) [_, _]) _ _ _); k_dflt (refine' digit_spec (by k_asm) (by k_asm) (by k_asm) (by k_asm) (by k_asm) (by rfl) (by ktr_room) (by ktr_units) (by assumption) (by assumption) (by assumption) (by omega) (by omega) ?_; k_whole); intro _ _ _ _ _ _ _ _ _ _; (try k_sweep))
  k_with "call ref" => (k_here; (with_reducible show wpAny _ _ (call (Value.ref _) [_, _, _]) _ _ _); k_dflt (first | (refine' set_x_spec (by k_asm) (by k_asm) (by k_asm) (by first | k_asm | (refine newsSub (by assumption) ?_; first | exact ledSwap | exact ledSwap2)) (by k_asm) (by rfl) (by ktr_room) (by ktr_units) (by assumption) (by first | assumption | (refine' smSame (by assumption) (by rfl) (by rfl) (by rfl) (by rfl)) | (refine' smUndo (by assumption) (by rfl) (by rfl) (by exact undo_length _ _) (by exact List.length_take_le' ..)) | exact smSeg (by assumption) (by omega) (by omega) (by simp only [List.length_append, List.length_cons, List.length_nil]; omega)) (by first | assumption | exact offPot (by assumption) (by assumption) (by assumption) | exact offApp (Adds.off (by assumption)) (by assumption) | exact offCons (by assumption) (by omega) (by omega) (by omega) (by omega) (by omega) (by omega) (by omega) (by omega)) (by assumption) (by first | assumption | exact immPot (by assumption) | exact immTail (by assumption) | exact immApp (by assumption)) (by omega) (by omega) (by first | assumption | exact DatIn.int _ _ | exact voidIn) ?_; k_whole)); intro c' h' tk' F' N' R'; (try dsimp only at N'); (try dsimp only at R'); (try k_sweep))
  trivial
theorem small6_spec (B : Below A₀ base outer h₀) (F : Fr h₀ L s.heap m) (X : (hd.heap_39 w.params).In h₀) (N : News h₀ L s.heap (Led a k c σ (potL pt nu q rest))) (T : TopF mean mg mb h₀) (hk : cs.kind = .function) (hdp : dp + 4 < recursionLimit) (hun : un + 132 < cLine)
    (R : Rel k imm c σ) (hS : Sm σ) (hO : Off a rest) (hA : Ord a) (hI : ∀ p ∈ imm, p ∈ rest) (hP : PotA a pt nu rest) (hq : PotOk q) {t6 : Tok} (h0 : 0 < σ.hp.length) (hok : ∀ i d, At σ.hp i d → kqdOk 8 d = true)
    (ret1 : ∀ q' h' tk', Fr h₀ L h' m → News h₀ L h' (Led a k c σ (potL pt nu q' rest)) → PotOk q' → Q (.bool true) { s with heap := h', toks := tk' })
    (ret2 : ∀ q' c' add i v h' tk', Fr h₀ L h' m → News h₀ L h' (Led a k c' { σ with hp := σ.hp.set i.toNat (cell 5 v), tr := if i < σ.hb then σ.tr ++ [i] else σ.tr } (potL pt nu q' (add ++ rest))) → PotOk q' → At σ.hp i (cell 0 i) → Rel k (add ++ imm) c' { σ with hp := σ.hp.set i.toNat (cell 5 v), tr := if i < σ.hb then σ.tr ++ [i] else σ.tr } → Adds a (potL pt nu q rest) add → Q (.bool true) { s with heap := h', toks := tk' }) :
    wpAny (model prog w) (ktrTop dp un gd cn cs L ca ccd cl outer) (call (.ref 564) [.ref pt, .ref a.m, .int 6 t6]) Q E s := by
  have dS := R.s
  obtain ⟨zH, zS, zT, zX⟩ := id hS
  obtain ⟨o1, o2, o3, o4, o5, o6, o7⟩ := id hA
  refine wpAny_call ?_
  k_dflt ktr_enter
  k_steps
  rename_i d t1 q1 hx tkx hq1 hd0 hd1 hy T hh F1 N1 l1
  have w1 := fun o => addsOne (o := o) (rest := potL pt nu q1 rest) (k := k) (c := c) (σ := σ) (allLt_all (d := T) l1)
  have hlt : d.toNat < σ.hp.length := by omega
  have hdd : At σ.hp d σ.hp[d.toNat] := ⟨hd0, List.getElem?_eq_getElem hlt⟩
  refine is_unbound_spec (imm := (T, _) :: imm) (rest := (T, _) :: potL pt nu q1 rest) (i := d) (by k_asm) F1 (by k_asm) (newsSub N1 ledSwap) (by k_asm) rfl (by ktr_room) (by ktr_units) (relMono R (immTail (fun _ h => h))) hS (offApp (w1 _).off (offPot hP hA hO)) hA (immCons (immPot hI)) (List.mem_append.mpr (.inr (List.Mem.head _))) hdd (hok _ _ hdd) ?_
  intro h3 tk3 F3 N3
  have N4 := newsSub N3 ledDrop
  clear N3 N1 F1
  by_cases e : σ.hp[d.toNat] = cell 0 d
  · rw [@decide_eq_true _ (Classical.propDecidable _) e]
    k_steps
    rename_i T1 hh1 F1 N1 l2
    have w2 := fun o => addsOne (o := o) (rest := potL pt nu q1 rest) (k := k) (c := c) (σ := σ) (allLt_all (d := T1) l2)
    have hP2 := fun o => potA_app (add := [(T1, o)]) hP (w2 o)
    refine digit_spec (rest := (T1, _) :: rest) (by k_asm) F1 (by k_asm) (newsSub N1 potIn1) (by k_asm) rfl (by ktr_room) (by ktr_units) hA (hP2 _) hq1 (by omega) (by omega) ?_
    intro d2 t2 q2 h4 tk4 F4 N4 hq2 hd2 hd3
    clear N1 F1
    k_steps
    rename_i T2 hh2 F2 N2 l3
    have w3 := fun o o1 => addsOne (o := o) (rest := potL pt nu q2 ((T1, o1) :: rest)) (k := k) (c := c) (σ := σ) (allLt_all (d := T2) l3)
    refine bind_spec (imm := (T2, _) :: (T1, _) :: imm) (rest := (T2, _) :: potL pt nu q2 ((T1, _) :: rest)) (i := d) (d := cell 5 d2) (by k_asm) F2 (by k_asm) (newsSub N2 ledSwap) (by k_asm) rfl (by ktr_room) (by ktr_units) (relMono R (immTail (immTail (fun _ h => h)))) hS (offApp (w3 _ default).off (offPot (hP2 _) hA (offApp (w2 _).off hO))) hA (immCons (immPot (immCons hI))) (List.mem_append.mpr (.inr (List.Mem.tail _ (List.Mem.head _)))) hd0 hd1 (DatIn.tuple (List.mem_append.mpr (.inr (List.Mem.head _))) (.cons (.int _ _) (.cons (.int _ _) .nil))) ?_
    intro c' h5 tk5 F5 N5 R5
    clear N2 F2
    k_steps
    all_goals ((rename Fr h₀ _ _ _ => qF); (rename News h₀ _ _ _ => qN); exact ret2 q2 c' [(T2, _), (T1, _)] d d2 _ _ qF (newsSub qN potIn) hq2 (e ▸ hdd) R5 (addsTrans (addsPotQ (w2 _)) (addsSub (addsPotQ (w3 _ _)) potCons)))
  · rw [@decide_eq_false _ (Classical.propDecidable _) e]
    k_steps
    all_goals ((rename Fr h₀ _ _ _ => qF); (rename News h₀ _ _ _ => qN); exact ret1 _ _ _ qF qN hq1)

theorem small7_spec (B : Below A₀ base outer h₀) (F : Fr h₀ L s.heap m) (X : (hd.heap_39 w.params).In h₀) (N : News h₀ L s.heap (Led a k c σ (potL pt nu q rest))) (T : TopF mean mg mb h₀) (hk : cs.kind = .function) (hdp : dp + 4 < recursionLimit) (hun : un + 132 < cLine)
    (R : Rel k imm c σ) (hS : Sm σ) (hO : Off a rest) (hA : Ord a) (hI : ∀ p ∈ imm, p ∈ rest) (hP : PotA a pt nu rest) (hq : PotOk q) {t6 : Tok} (hz : σ.hp.length ≤ 3900)
    (ret : ∀ q' c' add (r : Int) h' tk', Fr h₀ L h' m → News h₀ L h' (Led a k c' { σ with hp := σ.hp ++ [cell 0 σ.hp.length], x := σ.x.set r.toNat (cell 0 σ.hp.length) } (potL pt nu q' (add ++ rest))) → PotOk q' → 1 ≤ r → r ≤ 3 → Rel k (add ++ imm) c' { σ with hp := σ.hp ++ [cell 0 σ.hp.length], x := σ.x.set r.toNat (cell 0 σ.hp.length) } → Adds a (potL pt nu q rest) add → Q (.bool true) { s with heap := h', toks := tk' }) :
    wpAny (model prog w) (ktrTop dp un gd cn cs L ca ccd cl outer) (call (.ref 564) [.ref pt, .ref a.m, .int 7 t6]) Q E s := by
  have dS := R.s
  obtain ⟨zH, zS, zT, zX⟩ := id hS
  obtain ⟨o1, o2, o3, o4, o5, o6, o7⟩ := id hA
  refine wpAny_call ?_
  k_dflt ktr_enter
  k_steps
  (rename Fr _ _ _ _ => F1); (rename News _ _ _ _ => N1)
  refine new_var_spec (imm := imm) (rest := potL pt nu q rest) (by k_asm) F1 (by k_asm) N1 (by k_asm) rfl (by ktr_room) (by ktr_units) R hS (offPot hP hA hO) hA (immPot hI) ?_
  intro c1 T t1 t2 h1 tk1 F2 N2 R2 A2
  clear N1 F1
  have hP2 := potA_app hP A2
  k_steps
  (rename Fr _ _ _ _ => F1); (rename News _ _ _ _ => N1)
  refine digit_spec (rest := (T, _) :: rest) (by k_asm) F1 (by k_asm) (newsSub N1 potIn) (by k_asm) rfl (by ktr_room) (by ktr_units) hA hP2 hq (by omega) (by omega) ?_
  intro d t3 q1 h4 tk4 F4 N4 hq1 hd0 hd1
  clear N1 F1
  k_steps
  (rename Fr _ _ _ _ => F1); (rename News _ _ _ _ => N1)
  refine set_x_spec (imm := (T, _) :: imm) (rest := potL pt nu q1 ((T, _) :: rest)) (d := cell 0 σ.hp.length) (by k_asm) F1 (by k_asm) N1 (by k_asm) rfl (by ktr_room) (by ktr_units) R2 ⟨by dsimp only; rw [List.length_append, List.length_singleton]; omega, hS.s, hS.t, hS.x⟩ (offPot hP2 hA (offApp (addsPot A2).off hO)) hA (immPot (immCons hI)) (by omega) (by omega) (DatIn.tuple (List.mem_append.mpr (.inr (List.Mem.head _))) (.cons (.int _ _) (.cons (.int _ _) .nil))) ?_
  intro c' h5 tk5 F5 N5 R5
  clear N1 F1
  k_steps
  all_goals ((rename Fr h₀ _ _ _ => qF); (rename News h₀ _ _ _ => qN); exact ret q1 c' [(T, _)] (1 + d) _ _ qF qN hq1 (by omega) (by omega) R5 A2)

theorem kw_C17_1 : True := by
  k_with "setAttr ref" => (k_here; k_dflt (first | ((with_reducible show wpAny _ _ (setAttr _ (PySem.Str.ofString "e") _) _ _ _); refine' set_e (by k_asm) (by k_asm) (by k_asm) (by assumption) (by assumption) (by assumption) ?_; k_whole) | ((with_reducible show wpAny _ _ (setAttr _ (PySem.Str.ofString "cp") _) _ _ _); refine' set_cp (by k_asm) (by k_asm) (by k_asm) (by assumption) (by assumption) (by assumption) ?_; k_whole) | ((with_reducible show wpAny _ _ (setAttr _ (PySem.Str.ofString "p") _) _ _ _); refine' set_p (by k_asm) (by k_asm) (by k_asm) (by assumption) (by assumption) (by assumption) ?_; k_whole) | ((with_reducible show wpAny _ _ (setAttr _ (PySem.Str.ofString "b0") _) _ _ _); refine' set_b0 (by k_asm) (by k_asm) (by k_asm) (by assumption) (by assumption) (by assumption) ?_; k_whole)); intro h' c' F' N' R'; (try dsimp only at N' R'); (try k_sweep))
  trivial
theorem small8_spec (B : Below A₀ base outer h₀) (F : Fr h₀ L s.heap m) (X : (hd.heap_39 w.params).In h₀) (N : News h₀ L s.heap (Led a k c σ (potL pt nu q rest))) (T : TopF mean mg mb h₀) (hk : cs.kind = .function) (hdp : dp + 4 < recursionLimit) (hun : un + 132 < cLine)
    (R : Rel k imm c σ) (hS : Sm σ) (hO : Off a rest) (hA : Ord a) (hI : ∀ p ∈ imm, p ∈ rest) (hP : PotA a pt nu rest) (hq : PotOk q) {t6 : Tok} {n : Int} (ht : IsTop σ n) (h0 : 0 ≤ n) (h1 : n ≤ σ.sk.length) (h2 : σ.sk.length ≤ 3900)
    (ret : ∀ q' c' v h' tk', Fr h₀ L h' m → News h₀ L h' (Led a k c' { σ with sk := segS σ.sk n.toNat ([.int σ.e, .int σ.cp] ++ List.replicate v.toNat (cell 5 0)), e := n, cp := v + 1 } (potL pt nu q' rest)) → PotOk q' → 0 ≤ v → v ≤ 2 → Rel k imm c' { σ with sk := segS σ.sk n.toNat ([.int σ.e, .int σ.cp] ++ List.replicate v.toNat (cell 5 0)), e := n, cp := v + 1 } → Q (.bool true) { s with heap := h', toks := tk' }) :
    wpAny (model prog w) (ktrTop dp un gd cn cs L ca ccd cl outer) (call (.ref 564) [.ref pt, .ref a.m, .int 8 t6]) Q E s := by
  have dS := R.s
  obtain ⟨zH, zS, zT, zX⟩ := id hS
  obtain ⟨o1, o2, o3, o4, o5, o6, o7⟩ := id hA
  refine wpAny_call ?_
  k_dflt ktr_enter
  k_steps
  rename_i d t1 q1 hx tkx hq1 hd0 hd1 hy T hh F1 N1 l1
  have w1 := fun o => addsOne (o := o) (rest := potL pt nu q1 rest) (k := k) (c := c) (σ := σ) (allLt_all (d := T) l1)
  refine do_allocate_spec (imm := imm) (rest := (T, _) :: potL pt nu q1 rest) (by k_asm) F1 (by k_asm) (newsSub N1 ledSwap) (by k_asm) rfl (by ktr_room) (by ktr_units) R hS (offApp (w1 _).off (offPot hP hA hO)) hA (immTail (immPot hI)) (List.Mem.head _) hd0 (by omega) ht h0 h1 h2 ?_
  intro c1 h3 tk3 F3 N3 R3
  have N4 := newsSub N3 ledDrop
  clear N3 N1 F1
  have hO1 := offPot (q := q1) hP hA hO
  k_steps
  all_goals ((rename Fr h₀ _ _ _ => qF); (rename News h₀ _ _ _ => qN); (rename Rel _ _ _ _ => qR); exact ret q1 _ d _ _ qF qN hq1 hd0 (by omega) qR)

theorem small9_no (B : Below A₀ base outer h₀) (F : Fr h₀ L s.heap m) (X : (hd.heap_39 w.params).In h₀) (N : News h₀ L s.heap (Led a k c σ (potL pt nu q rest))) (T : TopF mean mg mb h₀) (hk : cs.kind = .function) (hdp : dp + 4 < recursionLimit) (hun : un + 132 < cLine)
    (R : Rel k imm c σ) (hS : Sm σ) (hO : Off a rest) (hA : Ord a) (hI : ∀ p ∈ imm, p ∈ rest) (hP : PotA a pt nu rest) (hq : PotOk q) {t6 : Tok} (h0 : σ.e < 0)
    (ret : ∀ q' h' tk', Fr h₀ L h' m → News h₀ L h' (Led a k c σ (potL pt nu q' rest)) → PotOk q' → Q (.bool true) { s with heap := h', toks := tk' }) :
    wpAny (model prog w) (ktrTop dp un gd cn cs L ca ccd cl outer) (call (.ref 564) [.ref pt, .ref a.m, .int 9 t6]) Q E s := by
  have dS := R.s
  obtain ⟨zH, zS, zT, zX⟩ := id hS
  obtain ⟨o1, o2, o3, o4, o5, o6, o7⟩ := id hA
  refine wpAny_call ?_
  k_dflt ktr_enter
  k_steps
  all_goals ((rename Fr h₀ _ _ _ => qF); (rename News h₀ _ _ _ => qN); exact ret q _ _ qF qN hq)

theorem small9_yes (B : Below A₀ base outer h₀) (F : Fr h₀ L s.heap m) (X : (hd.heap_39 w.params).In h₀) (N : News h₀ L s.heap (Led a k c σ (potL pt nu q rest))) (T : TopF mean mg mb h₀) (hk : cs.kind = .function) (hdp : dp + 4 < recursionLimit) (hun : un + 132 < cLine)
    (R : Rel k imm c σ) (hS : Sm σ) (hO : Off a rest) (hA : Ord a) (hI : ∀ p ∈ imm, p ∈ rest) (hP : PotA a pt nu rest) (hq : PotOk q) {t6 : Tok} {pe pc : Int} (h0 : 0 ≤ σ.e) (h1 : At σ.sk σ.e (.int pe)) (h2 : At σ.sk (σ.e + 1) (.int pc))
    (ret : ∀ q' c' h' tk', Fr h₀ L h' m → News h₀ L h' (Led a k c' { σ with e := pe, cp := pc } (potL pt nu q' rest)) → PotOk q' → Rel k imm c' { σ with e := pe, cp := pc } → Q (.bool true) { s with heap := h', toks := tk' }) :
    wpAny (model prog w) (ktrTop dp un gd cn cs L ca ccd cl outer) (call (.ref 564) [.ref pt, .ref a.m, .int 9 t6]) Q E s := by
  have dS := R.s
  obtain ⟨zH, zS, zT, zX⟩ := id hS
  obtain ⟨o1, o2, o3, o4, o5, o6, o7⟩ := id hA
  refine wpAny_call ?_
  k_dflt ktr_enter
  k_steps
  rename_i T hh F1 N1 l1
  have w1 := fun o => addsOne (o := o) (rest := potL pt nu q rest) (k := k) (c := c) (σ := σ) (allLt_all (d := T) l1)
  refine do_deallocate_spec (imm := imm) (rest := (T, _) :: potL pt nu q rest) (by k_asm) F1 (by k_asm) (newsSub N1 ledSwap) (by k_asm) rfl (by ktr_room) (by ktr_units) R hS (offApp (w1 _).off (offPot hP hA hO)) hA (immTail (immPot hI)) h1 h2 ?_
  intro c1 h3 tk3 F3 N3 R3
  have N4 := newsSub N3 ledDrop
  clear N3 N1 F1
  k_steps
  all_goals ((rename Fr h₀ _ _ _ => qF); (rename News h₀ _ _ _ => qN); (rename Rel _ _ _ _ => qR); exact ret q _ _ _ qF qN hq qR)

end
end Mine
namespace Mine
theorem kw0_C18 : True := by
  k_with_none
  w_top off
  trivial
theorem fill18 : PySem.Challenge.rw_sa0158_01 = PySem.Challenge.rw_sa0158_01 ∧ hd.heap_39 = hd.heap_39 := by k_fill; exact ⟨rfl, rfl⟩
section
variable {prog : Program} {w : World} {mean : ExcName → Option Value} {mg mb : Str → Option Value} {dp un : Nat} {gd : Option (List Code)} {cn : Str} {cs : Scope} {ca : Addr} {ccd : Value} {cl : List (Str × Addr)} {outer : List Env} {A₀ : Around} {base h₀ : Heap} {L : Addr} {m : Str → Option Value} {s : Shared} {Q E : Value → Shared → Prop}
  {a : Adr} {k : Kon} {c : Con} {σ : W} {imm rest : List (Addr × Obj)}
variable {pt nu kl : Addr} {q : PotC} {kn : Nat} {es : List En}
theorem kw_C18_0 : True := by
  k_with_none
  k_with "k_upd" => first | exact upd_sk (by assumption) (by assumption) | exact upd_hp (by assumption) (by assumption) | exact upd_tr (by assumption) (by assumption) | exact upd_xs (by assumption) (by assumption) | exact upd_dm (by assumption) (by assumption) | exact upd_ds (by assumption) (by assumption) | exact upd_pt (by assumption) (by assumption) (by assumption) (by assumption) | exact upd_nu (by assumption) (by assumption) (by assumption) (by assumption) | exact upd_kl (by assumption) (by assumption) (by assumption) (by assumption) (by assumption)
  k_with "k_ne" => (refine neN ?_; (try dsimp only); first | exact Nat.ne_of_gt (by with_reducible assumption) | exact Nat.ne_of_lt (by with_reducible assumption) | exact Nat.ne_of_gt (And.left (by with_reducible assumption)) | exact Nat.ne_of_gt (cj1 (by with_reducible assumption)) | exact Nat.ne_of_gt (cj2 (by with_reducible assumption)) | exact Nat.ne_of_gt (cj3 (by with_reducible assumption)) | exact Nat.ne_of_gt (cj4 (by with_reducible assumption)) | exact Nat.ne_of_gt (cj5 (by with_reducible assumption)) | exact Nat.ne_of_gt (cj6 (by with_reducible assumption)) | exact Nat.ne_of_gt (cj7 (by with_reducible assumption)) | exact Nat.ne_of_gt (cj8 (by with_reducible assumption)) | exact Nat.ne_of_gt (cj9 (by with_reducible assumption)) | exact Nat.ne_of_gt (cj10 (by with_reducible assumption)) | exact Nat.ne_of_gt (cj11 (by with_reducible assumption)) | exact Nat.ne_of_gt (cj12 (by with_reducible assumption)) | exact Nat.ne_of_gt (ce1 (by with_reducible assumption)) | exact Nat.ne_of_gt (ce2 (by with_reducible assumption)) | exact Nat.ne_of_gt (ce3 (by with_reducible assumption)) | exact Nat.ne_of_gt (ce4 (by with_reducible assumption)) | exact Nat.ne_of_gt (ce5 (by with_reducible assumption)) | exact Nat.ne_of_gt (ce6 (by with_reducible assumption)) | exact Nat.ne_of_gt (ce7 (by with_reducible assumption)) | exact Nat.ne_of_gt (ce8 (by with_reducible assumption)) | exact Nat.ne_of_gt (ce9 (by with_reducible assumption)) | exact Nat.ne_of_gt (ce10 (by with_reducible assumption)) | exact Nat.ne_of_gt (ce11 (by with_reducible assumption)) | exact Nat.ne_of_gt (ce12 (by with_reducible assumption)) | exact Nat.ne_of_lt (And.left (by with_reducible assumption)) | exact Nat.ne_of_lt (cj1 (by with_reducible assumption)) | exact Nat.ne_of_lt (cj2 (by with_reducible assumption)) | exact Nat.ne_of_lt (cj3 (by with_reducible assumption)) | exact Nat.ne_of_lt (cj4 (by with_reducible assumption)) | exact Nat.ne_of_lt (cj5 (by with_reducible assumption)) | exact Nat.ne_of_lt (cj6 (by with_reducible assumption)) | exact Nat.ne_of_lt (cj7 (by with_reducible assumption)) | exact Nat.ne_of_lt (cj8 (by with_reducible assumption)) | exact Nat.ne_of_lt (cj9 (by with_reducible assumption)) | exact Nat.ne_of_lt (cj10 (by with_reducible assumption)) | exact Nat.ne_of_lt (cj11 (by with_reducible assumption)) | exact Nat.ne_of_lt (cj12 (by with_reducible assumption)) | exact Nat.ne_of_lt (ce1 (by with_reducible assumption)) | exact Nat.ne_of_lt (ce2 (by with_reducible assumption)) | exact Nat.ne_of_lt (ce3 (by with_reducible assumption)) | exact Nat.ne_of_lt (ce4 (by with_reducible assumption)) | exact Nat.ne_of_lt (ce5 (by with_reducible assumption)) | exact Nat.ne_of_lt (ce6 (by with_reducible assumption)) | exact Nat.ne_of_lt (ce7 (by with_reducible assumption)) | exact Nat.ne_of_lt (ce8 (by with_reducible assumption)) | exact Nat.ne_of_lt (ce9 (by with_reducible assumption)) | exact Nat.ne_of_lt (ce10 (by with_reducible assumption)) | exact Nat.ne_of_lt (ce11 (by with_reducible assumption)) | exact Nat.ne_of_lt (ce12 (by with_reducible assumption)))
  k_with "k_all" => first | exact Off.m (by assumption) | exact Off.dm (by assumption) | exact Off.st (by assumption) | exact Off.ds (by assumption) | exact Off.hp (by assumption) | exact Off.sk (by assumption) | exact Off.tr (by assumption) | exact Off.xs (by assumption)
  k_with "call builtin:len" => (k_here; (with_reducible show wpAny _ _ (call (Value.builtin "len") [Value.ref _]) _ _ _); k_dflt (refine' len_lst (by k_asm) (by k_mem) (by first | omega | (dsimp only; omega)) ?_; k_whole); intro t' tk')
  k_with "subscriptTail" => (k_here; (with_reducible show wpAny _ _ (subscriptTail _ _ (Value.ref _) (Value.int _ _)) _ _ _); k_dflt (refine' item_lst (by k_asm) (by k_mem) (by first | assumption | exact Rel.s (by assumption) | exact Rel.h (by assumption) | exact Rel.x (by assumption)) (by first | assumption | exact At.cast (by assumption) (by omega)) (by first | omega | (dsimp only; omega)) ?_ (by with_unfolding_all rfl); k_whole); intro v' hv')
  k_with "subscriptTail" => (k_here; (with_reducible show wpAny _ _ (subscriptTail _ _ (Value.ref _) (Value.int _ _)) _ _ _); k_dflt (refine' itemI_lst (by k_asm) (by k_mem) (by first | assumption | exact Rel.s (by assumption) | exact Rel.h (by assumption) | exact Rel.x (by assumption)) (by first | assumption | exact At.cast (by assumption) (by omega)) (by first | omega | (dsimp only; omega)) ?_ (by with_unfolding_all rfl); k_whole); intro t')
  k_with "setItem ref" => (k_here; (with_reducible show wpAny _ _ (setItem (Value.ref _) (Value.int _ _) _) _ _ _); k_dflt (refine' set_lst (by k_asm) (by k_asm) (by k_upd) (by omega) (by omega) (by first | omega | (dsimp only; omega)) ?_; k_whole); intro h' F' N'; (try k_sweep))
  k_with "call builtin:list.append" => (k_here; (with_reducible show wpAny _ _ (call (Value.builtin _) [Value.ref _, _]) _ _ _); k_dflt (refine' append_lst (by k_asm) (by k_asm) (by k_upd) (by first | omega | (dsimp only; omega)) ?_; k_whole); intro h' F' N'; (try k_sweep))
  k_with "WhlIf" => first | refine WhlIf.yes (decide_eq_true (by omega)) ?_ | refine WhlIf.no (decide_eq_false (by omega)) ?_
  k_with "exec While Compare cons nil" => ((with_reducible rename MarkW => mk'); clear mk'; refine Stop.by ?_)
  k_with "exec For Name Name cons nil" => ((with_reducible rename MarkF => mk'); (rename Fr _ _ _ _ => lF'); (with_unfolding_all refine' For_invVF lF' (by exact rfl) (by exact rfl) ?_; k_whole))
  k_with "exec For Name Call cons nil" => ((with_reducible rename MarkF => mk'); (rename Fr _ _ _ _ => lF'); (with_unfolding_all refine' For_invVF lF' (by exact rfl) (by exact rfl) ?_; k_whole))
  k_with "pyIter ref" => ((with_reducible rename MarkF => mk'); clear mk'; refine Stop.by ?_)
  k_with "exec While Constant" => (k_here; k_dflt (refine whl_start 100 ?_))
  k_with "compareOp Eq" => (k_here; k_dflt (refine' eq_datB (by assumption) (by assumption) (by exact mem9s (by k_asm) (by repeat (first | assumption | refine immTail ?_)) (by k_asm) (by k_asm)) (by first | rfl | assumption) (by first | rfl | assumption) (by ktr_units) ?_; k_whole))
  k_with "subscriptTail" => (k_here; (with_reducible show wpAny _ _ (subscriptTail _ _ (Value.ref _) (Value.int _ _)) _ _ _); k_dflt (refine' tup9B (by assumption) (by exact mem9s (by k_asm) (by repeat (first | assumption | refine immTail ?_)) (by k_asm) (by k_asm)) (by decide) (by decide) (by rfl) (by rfl) ?_ (by with_unfolding_all rfl); k_whole))
  k_with "call builtin:list.pop" => (k_here; (with_reducible show wpAny _ _ (call (Value.builtin _) [Value.ref _]) _ _ _); k_dflt (refine' pop_lst (by k_asm) (by k_asm) (by k_upd) (by first | omega | (dsimp only; omega)) ?_; k_whole); intro h' F' N'; (try k_sweep))
  k_with "UnrEnd" => (refine unrLed (by k_asm) (by k_asm) (by assumption) ?_)
  k_with "k_mem" => first | with_reducible assumption | (refine memOf ?_; with_reducible assumption)
  k_with "k_all" => assumption
  k_with "subscriptTail" => (k_here; (with_reducible show wpAny _ _ (subscriptTail _ _ (Value.ref _) (Value.int _ _)) _ _ _); k_dflt (refine' item_val (by k_asm) (by k_mem) (by decide) (by decide) (by rfl) ?_ (by with_unfolding_all rfl); k_whole))
  k_with "getItem ref int" => (k_here; k_dflt (refine' get_val (by k_asm) (by k_mem) (by decide) (by decide) (by rfl) ?_; k_whole))
  k_with "setItem ref" => (k_here; (with_reducible show wpAny _ _ (setItem (Value.ref _) (Value.int _ _) _) _ _ _); k_dflt (refine' set_lst (by k_asm) (by k_asm) (by k_upd) (by decide) (by exact Int.lt_of_sub_pos (by decide)) (by exact Nat.le_of_ble_eq_true rfl) ?_; k_whole); intro h' F' N'; (try k_sweep))
  k_with "subscriptTail" => (k_here; (with_reducible show wpAny _ _ (subscriptTail _ _ (Value.ref _) (Value.int _ _)) _ _ _); k_dflt (refine' item_val'B (by k_asm) (by k_mem) (by with_reducible assumption) (by omega) (by omega) ?_ (by with_unfolding_all rfl); k_whole))
  k_with "call ref" => (k_here; (with_reducible show wpAny _ _ (call (Value.ref _) [_, _]) _ _ _); k_dflt (refine' digit_spec (by k_asm) (by k_asm) (by k_asm) (by first | k_asm | (refine newsSub (by assumption) (fun p hp => List.Mem.tail _ hp))) (by k_asm) (by rfl) (by ktr_room) (by ktr_units) (by assumption) (by assumption) (by assumption) (by omega) (by omega) ?_; k_whole); intro _ _ _ _ _ _ _ _ _ _; (try k_sweep))
  k_with "setAttr ref" => (k_here; k_dflt (first | ((with_reducible show wpAny _ _ (setAttr _ (PySem.Str.ofString "e") _) _ _ _); refine' set_e (by k_asm) (by k_asm) (by k_asm) (by assumption) (by assumption) (by assumption) ?_; k_whole) | ((with_reducible show wpAny _ _ (setAttr _ (PySem.Str.ofString "cp") _) _ _ _); refine' set_cp (by k_asm) (by k_asm) (by k_asm) (by assumption) (by assumption) (by assumption) ?_; k_whole) | ((with_reducible show wpAny _ _ (setAttr _ (PySem.Str.ofString "p") _) _ _ _); refine' set_p (by k_asm) (by k_asm) (by k_asm) (by assumption) (by assumption) (by assumption) ?_; k_whole) | ((with_reducible show wpAny _ _ (setAttr _ (PySem.Str.ofString "b0") _) _ _ _); refine' set_b0 (by k_asm) (by k_asm) (by k_asm) (by assumption) (by assumption) (by assumption) ?_; k_whole)); intro h' c' F' N' R'; (try dsimp only at N' R'); (try k_sweep))
  k_with "compareOp Eq" => (k_here; (with_reducible show wpAny _ _ (compareOp CmpOp.Eq _ (Value.ref _)) _ _ _); k_dflt (refine' eq_cellB (by k_asm) (by k_mem) (by assumption) (by exact mem9s (by k_asm) (by repeat (first | assumption | refine immTail ?_)) (by k_asm) (by k_asm)) (by ktr_units) ?_; k_whole))
  k_with "eval IfExp" => ((with_reducible rename MarkF => mk'); clear mk'; refine Stop.by ?_)
  trivial
theorem law_cut_spec (B : Below A₀ base outer h₀) (F : Fr h₀ L s.heap m) (X : (hd.heap_39 w.params).In h₀) (N : News h₀ L s.heap (Led a k c σ (potL pt nu q (keptL kl kn es imm)))) (T : TopF mean mg mb h₀) (hk : cs.kind = .function) (hdp : dp + 4 < recursionLimit) (hun : un + 132 < cLine)
    (R : Rel k imm c σ) (hS : Sm σ) (hA : Ord a) (S : Sep a pt nu kl (es.map (·.ad)) imm) (hq : PotOk q) (hes : es.length ≤ 100)
    (hcut : ∀ lv : Nat, lv ≤ es.length → ∀ σ1 : W, σ1.sk = σ.sk → σ1.b = σ.b → ∃ σ2, CutTo σ1 (bAt es lv) σ2)
    (ret : ∀ q' lv c' add kn' σ2 h' tk', Fr h₀ L h' m → News h₀ L h' (Led a k c' σ2 (potL pt nu q' (keptL kl kn' (es.take lv) (add ++ imm)))) → PotOk q' → lv ≤ es.length → CutTo { σ with b0 := bAt es lv, x := σ.x.set 5 (cell 5 (bAt es lv)) } (bAt es lv) σ2 → Rel k (add ++ imm) c' σ2 → Adds a (potL pt nu q (keptL kl kn es imm)) add → Q (.bool true) { s with heap := h', toks := tk' }) :
    wpAny (model prog w) (ktrTop dp un gd cn cs L ca ccd cl outer) (call (.ref 557) [.ref pt, .ref a.m, .ref kl]) Q E s := by
  have dS := R.s
  obtain ⟨zH, zS, zT, zX⟩ := id hS
  obtain ⟨o1, o2, o3, o4, o5, o6, o7⟩ := id hA
  have lE : (refE es).length = es.length := List.length_map ..
  have hPA := sepPot (kn := kn) S hA
  have hOA := sepOff (kn := kn) S hA
  have mkw : MarkW := ⟨⟩
  have mkf : MarkF := ⟨⟩
  refine wpAny_call ?_
  k_dflt ktr_enter
  k_steps
  refine Stop.out ?_
  rename_i d t1 q1 hx tkx hq1 hd0 hd1 hy F1 N1

  obtain ⟨lv, hlv⟩ : ∃ lv : Nat, d = (lv : Int) := ⟨d.toNat, by omega⟩
  subst hlv
  refine wpAny_mono (Q := fun v s' => Stop (∃ t tk, v = .int (bAt es lv) t ∧ s' = { heap := hy, gens := s.gens, drawn := s.drawn, toks := tk, os := s.os })) ?inner ?cont (fun _ _ e => e)
  case inner =>
    cases lv with
    | zero =>
      k_steps
      all_goals exact Stop.out ⟨_, _, rfl, rfl⟩
    | succ lv =>
      have hlt : lv < es.length := by omega
      have hb : bAt es (lv + 1) = es[lv].b := by simp only [bAt, List.getElem?_eq_getElem hlt]
      have hme := entIn (imm := imm) (List.getElem_mem hlt)
      have hx0 : (refE es)[(((lv + 1 : Nat) : Int) - 1).toNat]? = some (Value.ref es[lv].ad) := by
        have e : (((lv + 1 : Nat) : Int) - 1).toNat = lv := by omega
        rw [e, List.getElem?_map, List.getElem?_eq_getElem hlt]; rfl
      k_steps
      all_goals first | (exfalso; omega) | (rw [← hb]; exact Stop.out ⟨_, _, rfl, rfl⟩)
  case cont =>
    rintro v s2 ⟨t2, tk2, rfl, rfl⟩
    have hO1 := offPot (q := q1) hPA hA hOA
    have hlv : lv ≤ es.length := by omega
    k_steps
    rename_i T1 ha l1 T2 hc F2 N2 l2
    have w1 := fun o => addsOne (o := o) (rest := potL pt nu q1 (keptL kl kn es imm)) (k := k) (c := c') (σ := σ) (allLt_all (d := T1) l1)
    have w2 := fun o o1 => addsOne (o := o) (rest := (T1, o1) :: potL pt nu q1 (keptL kl kn es imm)) (k := k) (c := c') (σ := σ) (fun p hp => allLt_all (l := (T1, o1) :: Led a k c' σ (potL pt nu q1 (keptL kl kn es imm))) (d := T2) l2 p (ledSwap p hp))
    refine do_get_level_spec (imm := imm) (rest := (T2, _) :: (T1, _) :: potL pt nu q1 (keptL kl kn es imm)) (i := 5) (by k_asm) F2 (by k_asm) (newsSub N2 ledSwap2) (by k_asm) rfl (by ktr_room) (by ktr_units) R' (smSame hS rfl rfl rfl rfl) (offApp (w2 _ default).off (offApp (w1 _).off hO1)) hA (immTail (immTail (immPot immKept'))) (List.Mem.head _) (List.Mem.tail _ (List.Mem.head _)) (by omega) (by omega) ?_
    intro c2 add h3 tk3 F3 N3 R2 A2
    have A3 := addsSub A2 two
    have N4 := newsSub (newsSub N3 (ledDropMid two)) keptApp
    have S4 := sepAdd S A3
    clear N3 N2 F2
    have hPA2 := sepPot (kn := kn) S4 hA
    have hOA2 := sepOff (kn := kn) S4 hA
    have hI2 : ∀ p ∈ add ++ imm, p ∈ potL pt nu q1 (keptL kl kn es (add ++ imm)) := immPot immKept'
    have hat : At (σ.x.set (Int.toNat 5) (cell 5 (bAt es lv))) 5 (cell 5 (bAt es lv)) := ⟨by omega, by rw [List.getElem?_set_self (by have := hS.x; have e : Int.toNat 5 = 5 := rfl; omega)]⟩
    have hxl : (σ.x.set (Int.toNat 5) (cell 5 (bAt es lv))).length = 6 := by rw [List.length_set]; exact hS.x
    have hS2 : Sm { σ with b0 := bAt es lv, x := σ.x.set (Int.toNat 5) (cell 5 (bAt es lv)) } := ⟨hS.h, hS.s, hS.t, hxl⟩
    dsimp only at N4 R2
    obtain ⟨σ3, hC⟩ := hcut lv hlv { σ with b0 := bAt es lv, x := σ.x.set (Int.toNat 5) (cell 5 (bAt es lv)) } rfl rfl
    have A3' := addsPotQ (q := q) A3
    k_steps
    · rename_i d2 t4 q2 hx4 tk4 hq2 g0 g1 hif T4 he F4 N6 l4
      have w4 := fun o => addsOne (o := o) (rest := potL pt nu q2 (keptL kl kn es (add ++ imm))) (k := k) (c := c2) (σ := σ) (allLt_all (d := T4) l4)
      have hO2 := offPot (q := q2) hPA2 hA hOA2
      refine do_neck_cut_spec (imm := add ++ imm) (rest := (T4, _) :: potL pt nu q2 (keptL kl kn es (add ++ imm))) (by k_asm) F4 (by k_asm) (newsSub N6 ledSwap) (by k_asm) rfl (by ktr_room) (by ktr_units) R2 hS2 (offApp (w4 _).off hO2) hA (immTail (immPot immKept')) hC ?_
      intro c3 h5 tk5 F5 N5 R3
      have N7 := newsSub N5 ledDrop
      clear N6 N5 F4
      k_steps
      refine Stop.out ?_
      (rename Fr _ _ _ _ => F8); (rename News _ _ _ _ => N8)
      have hkl := fun j => sepKl S4 j
      have sp1 := S.p1
      have sp2 := S.p2
      have sp3 := S.p3
      refine While_inv2 (fun n m₁ nx => ∃ kn', nx = Led a k c3 σ3 (potL pt nu q2 (keptL kl kn' (es.take (lv + n)) (add ++ imm))) ∧ lv + n ≤ es.length ∧ ∀ p ∈ [(Str.ofString "kept", Value.ref kl), (Str.ofString "level", Value.int (lv : Int) t1), (Str.ofString "good", Value.bool true)], m₁ p.1 = some p.2) (n₀ := es.length - lv) F8 N8 ⟨kn, by rw [show lv + (es.length - lv) = es.length by omega, List.take_length], by omega, by repeat (first | exact all1 rfl | refine allC rfl ?_)⟩ ?_ (by with_unfolding_all passes_own)
      clear F8 N8
      rintro n m₁ nx h₁ tk₁ F₁ N₁ ⟨kn', rfl, hln, hm⟩
      rw [knownL hm] at F₁
      have hlen := refE_len hln
      cases n with
      | zero =>
        k_steps
        all_goals ((rename Fr h₀ _ _ _ => qF); (rename News h₀ _ _ _ => qN); exact ret q2 lv c3 add kn' σ3 _ _ qF qN hq2 hlv hC R3 A3')
      | succ n =>
        have hlt : lv + n < es.length := by omega
        have e := refE_snoc hlt
        have N₂ := newsCast N₁ (congrArg (fun z => Led a k c3 σ3 (potL pt nu q2 ((kl, listOf (List.toArray z) kn') :: (entsL (es.take (lv + n + 1)) ++ (add ++ imm))))) e)
        clear N₁
        rw [show lv + (n + 1) = lv + n + 1 by omega, e] at hlen
        have hkl1 := hkl (lv + n + 1)
        have hl0 := refE_len (es := es) (j := lv + n) (by omega)
        k_steps
        all_goals ((rename Fr _ _ _ _ => F9); (rename News _ _ _ _ => N9); exact ⟨_, _, _, _, n, rfl, F9, newsSub N9 (keptPop (kn := kn')), Nat.lt_succ_self n, _, rfl, by omega, by repeat (first | exact all1 rfl | refine allC rfl ?_)⟩)

    · rename_i d2 t4 q2 hx4 tk4 hq2 g0 g1 hif T5 hf l5 T6 he F4 N6 l6
      have w5 := fun o => addsOne (o := o) (rest := potL pt nu q2 (keptL kl kn es (add ++ imm))) (k := k) (c := c2) (σ := σ) (allLt_all (d := T5) l5)
      have w6 := fun o o1 => addsOne (o := o) (rest := (T5, o1) :: potL pt nu q2 (keptL kl kn es (add ++ imm))) (k := k) (c := c2) (σ := σ) (fun p hp => allLt_all (l := (T5, o1) :: Led a k c2 σ (potL pt nu q2 (keptL kl kn es (add ++ imm)))) (d := T6) l6 p (ledSwap p hp))
      have hO2 := offPot (q := q2) hPA2 hA hOA2
      refine do_cut_to_spec (imm := add ++ imm) (rest := (T6, _) :: (T5, _) :: potL pt nu q2 (keptL kl kn es (add ++ imm))) (i := 5) (by k_asm) F4 (by k_asm) (newsSub N6 ledSwap2) (by k_asm) rfl (by ktr_room) (by ktr_units) R2 hS2 (offApp (w6 _ default).off (offApp (w5 _).off hO2)) hA (immTail (immTail (immPot immKept'))) (List.Mem.head _) (List.Mem.tail _ (List.Mem.head _)) hat hC ?_
      intro c3 h5 tk5 F5 N5 R3
      have N7 := newsSub (newsSub N5 ledDrop) ledDrop
      clear N6 N5 F4
      k_steps
      refine Stop.out ?_
      (rename Fr _ _ _ _ => F8); (rename News _ _ _ _ => N8)
      have hkl := fun j => sepKl S4 j
      have sp1 := S.p1
      have sp2 := S.p2
      have sp3 := S.p3
      refine While_inv2 (fun n m₁ nx => ∃ kn', nx = Led a k c3 σ3 (potL pt nu q2 (keptL kl kn' (es.take (lv + n)) (add ++ imm))) ∧ lv + n ≤ es.length ∧ ∀ p ∈ [(Str.ofString "kept", Value.ref kl), (Str.ofString "level", Value.int (lv : Int) t1), (Str.ofString "good", Value.bool true)], m₁ p.1 = some p.2) (n₀ := es.length - lv) F8 N8 ⟨kn, by rw [show lv + (es.length - lv) = es.length by omega, List.take_length], by omega, by repeat (first | exact all1 rfl | refine allC rfl ?_)⟩ ?_ (by with_unfolding_all passes_own)
      clear F8 N8
      rintro n m₁ nx h₁ tk₁ F₁ N₁ ⟨kn', rfl, hln, hm⟩
      rw [knownL hm] at F₁
      have hlen := refE_len hln
      cases n with
      | zero =>
        k_steps
        all_goals ((rename Fr h₀ _ _ _ => qF); (rename News h₀ _ _ _ => qN); exact ret q2 lv c3 add kn' σ3 _ _ qF qN hq2 hlv hC R3 A3')
      | succ n =>
        have hlt : lv + n < es.length := by omega
        have e := refE_snoc hlt
        have N₂ := newsCast N₁ (congrArg (fun z => Led a k c3 σ3 (potL pt nu q2 ((kl, listOf (List.toArray z) kn') :: (entsL (es.take (lv + n + 1)) ++ (add ++ imm))))) e)
        clear N₁
        rw [show lv + (n + 1) = lv + n + 1 by omega, e] at hlen
        have hkl1 := hkl (lv + n + 1)
        have hl0 := refE_len (es := es) (j := lv + n) (by omega)
        k_steps
        all_goals ((rename Fr _ _ _ _ => F9); (rename News _ _ _ _ => N9); exact ⟨_, _, _, _, n, rfl, F9, newsSub N9 (keptPop (kn := kn')), Nat.lt_succ_self n, _, rfl, by omega, by repeat (first | exact all1 rfl | refine allC rfl ?_)⟩)

end
end Mine
namespace Mine
theorem kw0_Base8 : True := by
  k_with_none
  w_top off
  trivial
section
variable {a : Adr} {k : Kon} {c : Con} {σ : W} {r r' rest add imm : List (Addr × Obj)} {pt nu kl : Addr} {q : PotC} {kn : Nat} {es0 : List En} {e : En} {h₀ h : Heap} {L : Addr}
theorem ledMono (hs : ∀ p ∈ r, p ∈ r') : ∀ p ∈ Led a k c σ r, p ∈ Led a k c σ r' := by
  intro p hp
  have e1 : Led a k c σ r = Led a k c σ [] ++ r := rfl
  have e2 : Led a k c σ r' = Led a k c σ [] ++ r' := rfl
  rw [e1] at hp
  rw [e2]
  rcases List.mem_append.mp hp with h | h
  · exact List.mem_append.mpr (.inl h)
  · exact List.mem_append.mpr (.inr (hs p h))
theorem consMono {x : Addr × Obj} (hs : ∀ p ∈ r, p ∈ r') : ∀ p ∈ x :: r, p ∈ x :: r' := fun p hp => by
  rcases List.mem_cons.mp hp with h | h
  · rw [h]; exact List.Mem.head _
  · exact List.Mem.tail _ (hs p h)
theorem potMono (hs : ∀ p ∈ r, p ∈ r') : ∀ p ∈ potL pt nu q r, p ∈ potL pt nu q r' := consMono (consMono hs)
theorem ledDropApp : ∀ p ∈ Led a k c σ r, p ∈ Led a k c σ (add ++ r) := ledMono fun _ h => List.mem_append.mpr (.inr h)
theorem ledIn : ∀ p ∈ r, p ∈ Led a k c σ r := fun p hp => by
  have e1 : Led a k c σ r = Led a k c σ [] ++ r := rfl
  rw [e1]; exact List.mem_append.mpr (.inr hp)
abbrev backL (kl : Addr) (kn : Nat) (es0 : List En) (e : En) (imm : List (Addr × Obj)) : List (Addr × Obj) := (kl, listOf (refE es0 ++ [Value.ref e.ad]).toArray kn) :: (e.ad, entO e) :: (entsL es0 ++ imm)
theorem refE_one : refE (es0 ++ [e]) = refE es0 ++ [Value.ref e.ad] := by rw [refE, List.map_append]; rfl
theorem backSub : ∀ p ∈ backL kl kn es0 e imm, p ∈ keptL kl kn (es0 ++ [e]) imm := by
  intro p hp
  rw [keptL, refE_one, entsL, List.map_append]
  rcases List.mem_cons.mp hp with h | h
  · rw [h]; exact List.Mem.head _
  refine List.Mem.tail _ ?_
  rcases List.mem_cons.mp h with h | h
  · rw [h]; exact List.mem_append.mpr (.inl (List.mem_append.mpr (.inr (List.Mem.head _))))
  rcases List.mem_append.mp h with h | h
  · exact List.mem_append.mpr (.inl (List.mem_append.mpr (.inl h)))
  · exact List.mem_append.mpr (.inr h)
theorem backSup : ∀ p ∈ keptL kl kn (es0 ++ [e]) imm, p ∈ backL kl kn es0 e imm := by
  intro p hp
  rw [keptL, refE_one, entsL, List.map_append] at hp
  rcases List.mem_cons.mp hp with h | h
  · rw [h]; exact List.Mem.head _
  refine List.Mem.tail _ ?_
  rcases List.mem_append.mp h with h | h
  · rcases List.mem_append.mp h with h | h
    · exact List.Mem.tail _ (List.mem_append.mpr (.inl h))
    · rcases List.mem_cons.mp h with h | h
      · rw [h]; exact List.Mem.head _
      · cases h
  · exact List.Mem.tail _ (List.mem_append.mpr (.inr h))
theorem backApp : ∀ p ∈ Led a k c σ (potL pt nu q (backL kl kn es0 e (add ++ imm))), p ∈ Led a k c σ (add ++ potL pt nu q (backL kl kn es0 e imm)) := by
  intro p hp
  refine potApp p (ledMono (potMono ?_) p hp)
  intro p hp
  rcases List.mem_cons.mp hp with h | h
  · rw [h]; exact List.mem_append.mpr (.inr (List.Mem.head _))
  rcases List.mem_cons.mp h with h | h
  · rw [h]; exact List.mem_append.mpr (.inr (List.Mem.tail _ (List.Mem.head _)))
  rcases List.mem_append.mp h with h | h
  · exact List.mem_append.mpr (.inr (List.Mem.tail _ (List.Mem.tail _ (List.mem_append.mpr (.inl h)))))
  rcases List.mem_append.mp h with h | h
  · exact List.mem_append.mpr (.inl h)
  · exact List.mem_append.mpr (.inr (List.Mem.tail _ (List.Mem.tail _ (List.mem_append.mpr (.inr h)))))
theorem immBack : ∀ p ∈ imm, p ∈ backL kl kn es0 e imm := fun _ hp => List.Mem.tail _ (List.Mem.tail _ (List.mem_append.mpr (.inr hp)))
theorem sepAd (S : Sep a pt nu kl ((es0 ++ [e]).map (·.ad)) imm) : ∀ p ∈ entsL es0 ++ imm, p.1 ≠ e.ad := by
  intro p hp
  rcases List.mem_append.mp hp with h | h
  · have h1 := entsMem h
    have nd := S.nd
    rw [List.map_append, List.nodup_append] at nd
    exact nd.2.2 _ h1 _ (List.Mem.head _)
  · exact S.i5 p h _ (List.mem_map.mpr ⟨e, List.mem_append.mpr (.inr (List.Mem.head _)), rfl⟩)
theorem sepKl0 (S : Sep a pt nu kl ((es0 ++ [e]).map (·.ad)) imm) : ∀ p ∈ entsL es0 ++ imm, p.1 ≠ kl := by
  intro p hp
  rcases List.mem_append.mp hp with h | h
  · exact Nat.ne_of_gt (S.p4 _ (by rw [List.map_append]; exact List.mem_append.mpr (.inl (entsMem h))))
  · exact S.i4 p h
theorem offSub (hO : Off a r) (hs : ∀ p ∈ r', p ∈ r) : Off a r' := ⟨fun p hp => hO.m p (hs p hp), fun p hp => hO.dm p (hs p hp), fun p hp => hO.st p (hs p hp), fun p hp => hO.ds p (hs p hp), fun p hp => hO.hp p (hs p hp), fun p hp => hO.sk p (hs p hp), fun p hp => hO.tr p (hs p hp), fun p hp => hO.xs p (hs p hp)⟩
theorem potASub (h : PotA a pt nu r) (hs : ∀ p ∈ r', p ∈ r) : PotA a pt nu r' := ⟨h.p1, h.p2, fun p hp => h.p3 p (hs p hp), fun p hp => h.p4 p (hs p hp)⟩
end
section
variable {prog : Program} {w : World} {A : Around} {E : Value → Shared → Prop} {s : Shared} {h₀ : Heap} {L l T : Addr} {news L9 : List (Addr × Obj)} {vs : List Value} {n : Nat} {v x : Value} {Q : Value → Shared → Prop}
theorem item_last {value slice : PySem.Expr} {u : Tok} (N : News h₀ L s.heap news) (hm : (l, listOf (vs ++ [x]).toArray n) ∈ news) (hz : vs.length < 100000)
    (h : Q x s) (hs : subscripted slice false (.ref l) (.int (-1) u) = operate [.ref l, .int (-1) u] (getItem (.ref l) (.int (-1) u)) := by with_unfolding_all rfl) :
    wpAny (model prog w) A (subscriptTail value slice (.ref l) (.int (-1) u)) Q E s := by
  have hl : s.heap.IsList l (vs ++ [x]).toArray := ⟨_, (N _ hm).1, rfl, n, rfl⟩
  refine tail_any hl.typeIs slot_list_getitem.lookup (wpAny_getItem_list_neg hl (by decide) (by simp only [List.size_toArray, List.length_append, List.length_cons, List.length_nil]; omega) (by decide) ?_ h) hs
  simp only [List.size_toArray, List.length_append, List.length_cons, List.length_nil, List.getElem?_toArray]
  rw [show (-1 + ((vs.length + (0 + 1) : Nat) : Int)).toNat = vs.length by omega, List.getElem?_append_right (Nat.le_refl _), Nat.sub_self]
  rfl
theorem eq_same {i : Int} {t t' : Tok} (h : Q (.bool true) s) : wpAny (model prog w) A (compareOp .Eq (.int i t) (.int i t')) Q E s := eq_int (by rw [beq_self_eq_true]; exact h)
open Classical in
theorem eq_datT (M : ∀ p ∈ L9, s.heap.get? p.1 = some p.2) {v v' : Value} {d : Dat} (hv : DatIn L9 v d) (hv' : DatIn L9 v' d) (kd : kqdOk 8 d = true) (hu : A.units + 64 < cLine) (h : Q (.bool true) s) : wpAny (model prog w) A (compareOp .Eq v v') Q E s :=
  eq_dat M hv hv' kd kd hu (by rw [decide_eq_true rfl]; exact h)
end
theorem setB_shape {σ σ' : W} {n : Int} (h : SetB σ n σ') : ∃ b' hb' bb' : Int, σ' = { σ with b := b', hb := hb', bb := bb' } := by
  rcases h with ⟨_, rfl⟩ | ⟨_, _, _, _, _, rfl⟩
  · exact ⟨_, _, _, rfl⟩
  · exact ⟨_, _, _, rfl⟩
theorem setB_p {σ σ' : W} {n y : Int} (h : SetB σ n σ') : SetB { σ with p := y } n { σ' with p := y } := by
  rcases h with ⟨h1, rfl⟩ | ⟨h1, _, _, h2, h3, rfl⟩
  · exact .inl ⟨h1, rfl⟩
  · exact .inr ⟨h1, _, _, h2, h3, rfl⟩
theorem offHead {a : Adr} {x : Addr} {o o' : Obj} {r : List (Addr × Obj)} (h : Off a ((x, o) :: r)) : Off a ((x, o') :: r) :=
  ⟨List.forall_mem_cons.mpr (List.forall_mem_cons.mp h.m), List.forall_mem_cons.mpr (List.forall_mem_cons.mp h.dm), List.forall_mem_cons.mpr (List.forall_mem_cons.mp h.st), List.forall_mem_cons.mpr (List.forall_mem_cons.mp h.ds), List.forall_mem_cons.mpr (List.forall_mem_cons.mp h.hp), List.forall_mem_cons.mpr (List.forall_mem_cons.mp h.sk), List.forall_mem_cons.mpr (List.forall_mem_cons.mp h.tr), List.forall_mem_cons.mpr (List.forall_mem_cons.mp h.xs)⟩
theorem potAHead {a : Adr} {pt nu : Addr} {x : Addr} {o o' : Obj} {r : List (Addr × Obj)} (h : PotA a pt nu ((x, o) :: r)) : PotA a pt nu ((x, o') :: r) :=
  ⟨h.p1, h.p2, List.forall_mem_cons.mpr (List.forall_mem_cons.mp h.p3), List.forall_mem_cons.mpr (List.forall_mem_cons.mp h.p4)⟩
theorem sepPop {a : Adr} {pt nu kl : Addr} {es0 : List En} {e : En} {imm : List (Addr × Obj)} (S : Sep a pt nu kl ((es0 ++ [e]).map (·.ad)) imm) : Sep a pt nu kl (es0.map (·.ad)) imm := by
  have h := sepTake S es0.length
  rwa [List.take_left] at h
end Mine
namespace Mine
theorem kw0_C14 : True := by
  k_with_none
  w_top off
  trivial
theorem fill14 : PySem.Challenge.rw_sa0158_01 = PySem.Challenge.rw_sa0158_01 ∧ hd.heap_39 = hd.heap_39 := by k_fill; exact ⟨rfl, rfl⟩
abbrev seenD (σ : W) (n : Nat) (l : List (Int × Int)) : Dat := .tuple [.list ((σ.x.drop 1).take n), .list σ.hp, .int (σ.tr.length : Int), .int σ.cp, chainD l]
section
variable {prog : Program} {w : World} {mean : ExcName → Option Value} {mg mb : Str → Option Value} {dp un : Nat} {gd : Option (List Code)} {cn : Str} {cs : Scope} {ca : Addr} {ccd : Value} {cl : List (Str × Addr)} {outer : List Env} {A₀ : Around} {base h₀ : Heap} {L : Addr} {m : Str → Option Value} {s : Shared} {Q E : Value → Shared → Prop}
  {a : Adr} {k : Kon} {c : Con} {σ : W} {imm rest : List (Addr × Obj)}
theorem kw_C14_0 : True := by
  k_with_none
  k_with "k_upd" => first | exact upd_sk (by assumption) (by assumption) | exact upd_hp (by assumption) (by assumption) | exact upd_tr (by assumption) (by assumption) | exact upd_xs (by assumption) (by assumption) | exact upd_dm (by assumption) (by assumption) | exact upd_ds (by assumption) (by assumption) | exact upd_pt (by assumption) (by assumption) (by assumption) (by assumption) | exact upd_nu (by assumption) (by assumption) (by assumption) (by assumption) | exact upd_kl (by assumption) (by assumption) (by assumption) (by assumption) (by assumption)
  k_with "k_ne" => (refine neN ?_; (try dsimp only); first | exact Nat.ne_of_gt (by with_reducible assumption) | exact Nat.ne_of_lt (by with_reducible assumption) | exact Nat.ne_of_gt (And.left (by with_reducible assumption)) | exact Nat.ne_of_gt (cj1 (by with_reducible assumption)) | exact Nat.ne_of_gt (cj2 (by with_reducible assumption)) | exact Nat.ne_of_gt (cj3 (by with_reducible assumption)) | exact Nat.ne_of_gt (cj4 (by with_reducible assumption)) | exact Nat.ne_of_gt (cj5 (by with_reducible assumption)) | exact Nat.ne_of_gt (cj6 (by with_reducible assumption)) | exact Nat.ne_of_gt (cj7 (by with_reducible assumption)) | exact Nat.ne_of_gt (cj8 (by with_reducible assumption)) | exact Nat.ne_of_gt (cj9 (by with_reducible assumption)) | exact Nat.ne_of_gt (cj10 (by with_reducible assumption)) | exact Nat.ne_of_gt (cj11 (by with_reducible assumption)) | exact Nat.ne_of_gt (cj12 (by with_reducible assumption)) | exact Nat.ne_of_gt (ce1 (by with_reducible assumption)) | exact Nat.ne_of_gt (ce2 (by with_reducible assumption)) | exact Nat.ne_of_gt (ce3 (by with_reducible assumption)) | exact Nat.ne_of_gt (ce4 (by with_reducible assumption)) | exact Nat.ne_of_gt (ce5 (by with_reducible assumption)) | exact Nat.ne_of_gt (ce6 (by with_reducible assumption)) | exact Nat.ne_of_gt (ce7 (by with_reducible assumption)) | exact Nat.ne_of_gt (ce8 (by with_reducible assumption)) | exact Nat.ne_of_gt (ce9 (by with_reducible assumption)) | exact Nat.ne_of_gt (ce10 (by with_reducible assumption)) | exact Nat.ne_of_gt (ce11 (by with_reducible assumption)) | exact Nat.ne_of_gt (ce12 (by with_reducible assumption)) | exact Nat.ne_of_lt (And.left (by with_reducible assumption)) | exact Nat.ne_of_lt (cj1 (by with_reducible assumption)) | exact Nat.ne_of_lt (cj2 (by with_reducible assumption)) | exact Nat.ne_of_lt (cj3 (by with_reducible assumption)) | exact Nat.ne_of_lt (cj4 (by with_reducible assumption)) | exact Nat.ne_of_lt (cj5 (by with_reducible assumption)) | exact Nat.ne_of_lt (cj6 (by with_reducible assumption)) | exact Nat.ne_of_lt (cj7 (by with_reducible assumption)) | exact Nat.ne_of_lt (cj8 (by with_reducible assumption)) | exact Nat.ne_of_lt (cj9 (by with_reducible assumption)) | exact Nat.ne_of_lt (cj10 (by with_reducible assumption)) | exact Nat.ne_of_lt (cj11 (by with_reducible assumption)) | exact Nat.ne_of_lt (cj12 (by with_reducible assumption)) | exact Nat.ne_of_lt (ce1 (by with_reducible assumption)) | exact Nat.ne_of_lt (ce2 (by with_reducible assumption)) | exact Nat.ne_of_lt (ce3 (by with_reducible assumption)) | exact Nat.ne_of_lt (ce4 (by with_reducible assumption)) | exact Nat.ne_of_lt (ce5 (by with_reducible assumption)) | exact Nat.ne_of_lt (ce6 (by with_reducible assumption)) | exact Nat.ne_of_lt (ce7 (by with_reducible assumption)) | exact Nat.ne_of_lt (ce8 (by with_reducible assumption)) | exact Nat.ne_of_lt (ce9 (by with_reducible assumption)) | exact Nat.ne_of_lt (ce10 (by with_reducible assumption)) | exact Nat.ne_of_lt (ce11 (by with_reducible assumption)) | exact Nat.ne_of_lt (ce12 (by with_reducible assumption)))
  k_with "k_all" => first | exact Off.m (by assumption) | exact Off.dm (by assumption) | exact Off.st (by assumption) | exact Off.ds (by assumption) | exact Off.hp (by assumption) | exact Off.sk (by assumption) | exact Off.tr (by assumption) | exact Off.xs (by assumption)
  k_with "call builtin:len" => (k_here; (with_reducible show wpAny _ _ (call (Value.builtin "len") [Value.ref _]) _ _ _); k_dflt (refine' len_lst (by k_asm) (by k_mem) (by first | omega | (dsimp only; omega)) ?_; k_whole); intro t' tk')
  k_with "subscriptTail" => (k_here; (with_reducible show wpAny _ _ (subscriptTail _ _ (Value.ref _) (Value.int _ _)) _ _ _); k_dflt (refine' item_lst (by k_asm) (by k_mem) (by first | assumption | exact Rel.s (by assumption) | exact Rel.h (by assumption) | exact Rel.x (by assumption)) (by first | assumption | exact At.cast (by assumption) (by omega)) (by first | omega | (dsimp only; omega)) ?_ (by with_unfolding_all rfl); k_whole); intro v' hv')
  k_with "subscriptTail" => (k_here; (with_reducible show wpAny _ _ (subscriptTail _ _ (Value.ref _) (Value.int _ _)) _ _ _); k_dflt (refine' itemI_lst (by k_asm) (by k_mem) (by first | assumption | exact Rel.s (by assumption) | exact Rel.h (by assumption) | exact Rel.x (by assumption)) (by first | assumption | exact At.cast (by assumption) (by omega)) (by first | omega | (dsimp only; omega)) ?_ (by with_unfolding_all rfl); k_whole); intro t')
  k_with "setItem ref" => (k_here; (with_reducible show wpAny _ _ (setItem (Value.ref _) (Value.int _ _) _) _ _ _); k_dflt (refine' set_lst (by k_asm) (by k_asm) (by k_upd) (by omega) (by omega) (by first | omega | (dsimp only; omega)) ?_; k_whole); intro h' F' N'; (try k_sweep))
  k_with "call builtin:list.append" => (k_here; (with_reducible show wpAny _ _ (call (Value.builtin _) [Value.ref _, _]) _ _ _); k_dflt (refine' append_lst (by k_asm) (by k_asm) (by k_upd) (by first | omega | (dsimp only; omega)) ?_; k_whole); intro h' F' N'; (try k_sweep))
  k_with "WhlIf" => first | refine WhlIf.yes (decide_eq_true (by omega)) ?_ | refine WhlIf.no (decide_eq_false (by omega)) ?_
  k_with "exec While Compare cons nil" => ((with_reducible rename MarkW => mk'); clear mk'; refine Stop.by ?_)
  k_with "exec For Name Name cons nil" => ((with_reducible rename MarkF => mk'); (rename Fr _ _ _ _ => lF'); (with_unfolding_all refine' For_invVF lF' (by exact rfl) (by exact rfl) ?_; k_whole))
  k_with "exec For Name Call cons nil" => ((with_reducible rename MarkF => mk'); (rename Fr _ _ _ _ => lF'); (with_unfolding_all refine' For_invVF lF' (by exact rfl) (by exact rfl) ?_; k_whole))
  k_with "pyIter ref" => ((with_reducible rename MarkF => mk'); clear mk'; refine Stop.by ?_)
  k_with "exec While Constant" => (k_here; k_dflt (refine whl_start 100 ?_))
  k_with "compareOp Eq" => (k_here; k_dflt (refine' eq_datB (by assumption) (by assumption) (by exact mem9s (by k_asm) (by repeat (first | assumption | refine immTail ?_)) (by k_asm) (by k_asm)) (by first | rfl | assumption) (by first | rfl | assumption) (by ktr_units) ?_; k_whole))
  k_with "subscriptTail" => (k_here; (with_reducible show wpAny _ _ (subscriptTail _ _ (Value.ref _) (Value.int _ _)) _ _ _); k_dflt (refine' tup9B (by assumption) (by exact mem9s (by k_asm) (by repeat (first | assumption | refine immTail ?_)) (by k_asm) (by k_asm)) (by decide) (by decide) (by rfl) (by rfl) ?_ (by with_unfolding_all rfl); k_whole))
  k_with "call builtin:list.pop" => (k_here; (with_reducible show wpAny _ _ (call (Value.builtin _) [Value.ref _]) _ _ _); k_dflt (refine' pop_lst (by k_asm) (by k_asm) (by k_upd) (by first | omega | (dsimp only; omega)) ?_; k_whole); intro h' F' N'; (try k_sweep))
  k_with "UnrEnd" => (refine unrLed (by k_asm) (by k_asm) (by assumption) ?_)
  k_with "k_mem" => first | with_reducible assumption | (refine memOf ?_; with_reducible assumption)
  k_with "k_all" => assumption
  k_with "subscriptTail" => (k_here; (with_reducible show wpAny _ _ (subscriptTail _ (PySem.Expr.Slice _ _ none _) (Value.ref _) (Value.ref _)) _ _ _); k_dflt (refine' slice_lst (by k_asm) (by k_asm) (by k_mem) (by omega) (by omega) (by omega) (by omega) (by omega) ?_ (by with_unfolding_all rfl) (by (intro _; with_unfolding_all rfl)); k_whole); intro D' h' F' N' l1; (try k_lt l1); (try k_sweep))
  k_with "call type:list" => (k_here; (with_reducible show wpAny _ _ (call (Value.type _) [Value.ref _]) _ _ _); k_dflt (refine' copy_lst (by k_asm) (by k_asm) (by k_mem) (by omega) ?_; k_whole); intro D' c' h' F' N' l1; (try k_lt l1); (try k_sweep))
  trivial
theorem law_seen_spec (B : Below A₀ base outer h₀) (F : Fr h₀ L s.heap m) (X : (hd.heap_39 w.params).In h₀) (N : News h₀ L s.heap (Led a k c σ rest)) (T : TopF mean mg mb h₀) (hk : cs.kind = .function) (hdp : dp + 3 < recursionLimit) (hun : un + 124 < cLine)
    (R : Rel k imm c σ) (hS : Sm σ) (hO : Off a rest) (hA : Ord a) (hI : ∀ p ∈ imm, p ∈ rest) {n : Nat} {tn : Tok} (h3 : n ≤ 3) {l : List (Int × Int)} (hc : ChE σ.sk σ.e (l.map (·.1))) (hp : ∀ p ∈ l, At σ.sk (p.1 + 1) (.int p.2)) (hl : l.length ≤ 4000)
    (ret : ∀ D add h' tk', Fr h₀ L h' m → News h₀ L h' (Led a k c σ (add ++ rest)) → DatIn (KV ++ (add ++ imm)) (.ref D) (seenD σ n l) → Adds a rest add → Q (.ref D) { s with heap := h', toks := tk' }) :
    wpAny (model prog w) (ktrTop dp un gd cn cs L ca ccd cl outer) (call (.ref 543) [.ref a.m, .int (n : Int) tn]) Q E s := by
  have dS := R.s
  obtain ⟨zH, zS, zT, zX⟩ := id hS
  obtain ⟨o1, o2, o3, o4, o5, o6, o7⟩ := id hA
  have lX := R.x.length
  have lH := R.h.length
  refine wpAny_call ?_
  k_dflt ktr_enter
  k_steps
  rename_i D1 h1 l1a
  have e1 : ((n : Int) + 1).toNat - Int.toNat 1 = n := by simp
  have e2 : Int.toNat 1 = 1 := rfl
  rw [e1, e2] at N'
  have q1 := fun o => addsOne (o := o) (rest := rest) (k := k) (c := c) (σ := σ) (allLt_all (d := D1) l1a)
  have q2 := fun o o1 => addsOne (o := o) (rest := (D1, o1) :: rest) (k := k) (c := c) (σ := σ) (fun p hp => allLt_all (l := (D1, o1) :: Led a k c σ rest) (d := D') l1 p (ledSwap p hp))
  have hO2 := fun o o1 => offApp (q2 o o1).off (offApp (q1 o1).off hO)
  refine mark_spec (c := c) (σ := σ) (imm := imm) (rest := (D', _) :: (D1, _) :: rest) (by k_asm) F' (by k_asm) (newsSub N' ledSwap2) (by k_asm) rfl (by ktr_room) (by ktr_units) R hS (hO2 _ _) hA (immTail (immTail hI)) ?_
  intro t h3 tk3 F3 N3
  k_steps
  clear F' N'
  (rename Fr _ _ _ _ => F4); (rename News _ _ _ _ => N4)
  refine law_chain_spec (c := c) (σ := σ) (imm := imm) (rest := (D', _) :: (D1, _) :: rest) (by k_asm) F4 (by k_asm) N4 (by k_asm) rfl (by ktr_room) (by ktr_units) R hS (hO2 _ _) hA (immTail (immTail hI)) hc hp hl ?_
  intro D add h5 tk5 F5 N5 hDc A5
  k_steps
  have q5 := fun o o2 o1 T (hl : AllLt T (Led a k c σ (add ++ (D', o2) :: (D1, o1) :: rest))) => addsOne (a := a) (t := T) (o := o) (rest := add ++ (D', o2) :: (D1, o1) :: rest) (k := k) (c := c) (σ := σ) (allLt_all hl)
  (rename Fr h₀ _ _ _ => qF); (rename News h₀ _ _ _ => qN)
  refine ret _ ((_, _) :: (add ++ [(D', _), (D1, _)])) _ _ qF (newsSub qN seenSub) (DatIn.tuple (List.mem_append.mpr (.inr (List.Mem.head _))) (.cons (DatIn.list (List.mem_append.mpr (.inr seenImm.2.2.2)) ((dTake (dDrop R.x 1) n).mono (kvMono seenImm.1))) (.cons (DatIn.list (List.mem_append.mpr (.inr seenImm.2.2.1)) (R.h.mono (kvMono seenImm.1))) (.cons (.int _ _) (.cons (.int _ _) (.cons (hDc.mono (kvMono seenImm.2.1)) .nil)))))) (seenAdds (q1 _) (q2 _ _) A5 (q5 _ _ _ _ (by assumption)))

end
end Mine
namespace Mine
theorem kw0_C19 : True := by
  k_with_none
  w_top off
  trivial
theorem fill19 : PySem.Challenge.rw_sa0158_01 = PySem.Challenge.rw_sa0158_01 ∧ hd.heap_39 = hd.heap_39 := by k_fill; exact ⟨rfl, rfl⟩
section
variable {prog : Program} {w : World} {mean : ExcName → Option Value} {mg mb : Str → Option Value} {dp un : Nat} {gd : Option (List Code)} {cn : Str} {cs : Scope} {ca : Addr} {ccd : Value} {cl : List (Str × Addr)} {outer : List Env} {A₀ : Around} {base h₀ : Heap} {L : Addr} {m : Str → Option Value} {s : Shared} {Q E : Value → Shared → Prop}
  {a : Adr} {k : Kon} {c : Con} {σ : W} {imm rest : List (Addr × Obj)}
variable {pt nu kl : Addr} {q : PotC} {kn : Nat} {es0 : List En} {e : En}
theorem kw_C19_0 : True := by
  k_with_none
  k_with "k_upd" => first | exact upd_sk (by assumption) (by assumption) | exact upd_hp (by assumption) (by assumption) | exact upd_tr (by assumption) (by assumption) | exact upd_xs (by assumption) (by assumption) | exact upd_dm (by assumption) (by assumption) | exact upd_ds (by assumption) (by assumption) | exact upd_pt (by assumption) (by assumption) (by assumption) (by assumption) | exact upd_nu (by assumption) (by assumption) (by assumption) (by assumption) | exact upd_kl (by assumption) (by assumption) (by assumption) (by assumption) (by assumption) | exact upd_dm (by assumption) (offPot (by assumption) (by assumption) (by assumption)) | exact upd_kl (by assumption) (by assumption) (by assumption) (by assumption) (List.forall_mem_cons.mpr ⟨Nat.ne_of_gt (by assumption), by assumption⟩) | exact upd_en (by assumption) (by assumption) (by assumption) (by assumption) (by assumption) (by assumption)
  k_with "k_ne" => (refine neN ?_; (try dsimp only); first | exact Nat.ne_of_gt (by with_reducible assumption) | exact Nat.ne_of_lt (by with_reducible assumption) | exact Nat.ne_of_gt (And.left (by with_reducible assumption)) | exact Nat.ne_of_gt (cj1 (by with_reducible assumption)) | exact Nat.ne_of_gt (cj2 (by with_reducible assumption)) | exact Nat.ne_of_gt (cj3 (by with_reducible assumption)) | exact Nat.ne_of_gt (cj4 (by with_reducible assumption)) | exact Nat.ne_of_gt (cj5 (by with_reducible assumption)) | exact Nat.ne_of_gt (cj6 (by with_reducible assumption)) | exact Nat.ne_of_gt (cj7 (by with_reducible assumption)) | exact Nat.ne_of_gt (cj8 (by with_reducible assumption)) | exact Nat.ne_of_gt (cj9 (by with_reducible assumption)) | exact Nat.ne_of_gt (cj10 (by with_reducible assumption)) | exact Nat.ne_of_gt (cj11 (by with_reducible assumption)) | exact Nat.ne_of_gt (cj12 (by with_reducible assumption)) | exact Nat.ne_of_gt (ce1 (by with_reducible assumption)) | exact Nat.ne_of_gt (ce2 (by with_reducible assumption)) | exact Nat.ne_of_gt (ce3 (by with_reducible assumption)) | exact Nat.ne_of_gt (ce4 (by with_reducible assumption)) | exact Nat.ne_of_gt (ce5 (by with_reducible assumption)) | exact Nat.ne_of_gt (ce6 (by with_reducible assumption)) | exact Nat.ne_of_gt (ce7 (by with_reducible assumption)) | exact Nat.ne_of_gt (ce8 (by with_reducible assumption)) | exact Nat.ne_of_gt (ce9 (by with_reducible assumption)) | exact Nat.ne_of_gt (ce10 (by with_reducible assumption)) | exact Nat.ne_of_gt (ce11 (by with_reducible assumption)) | exact Nat.ne_of_gt (ce12 (by with_reducible assumption)) | exact Nat.ne_of_lt (And.left (by with_reducible assumption)) | exact Nat.ne_of_lt (cj1 (by with_reducible assumption)) | exact Nat.ne_of_lt (cj2 (by with_reducible assumption)) | exact Nat.ne_of_lt (cj3 (by with_reducible assumption)) | exact Nat.ne_of_lt (cj4 (by with_reducible assumption)) | exact Nat.ne_of_lt (cj5 (by with_reducible assumption)) | exact Nat.ne_of_lt (cj6 (by with_reducible assumption)) | exact Nat.ne_of_lt (cj7 (by with_reducible assumption)) | exact Nat.ne_of_lt (cj8 (by with_reducible assumption)) | exact Nat.ne_of_lt (cj9 (by with_reducible assumption)) | exact Nat.ne_of_lt (cj10 (by with_reducible assumption)) | exact Nat.ne_of_lt (cj11 (by with_reducible assumption)) | exact Nat.ne_of_lt (cj12 (by with_reducible assumption)) | exact Nat.ne_of_lt (ce1 (by with_reducible assumption)) | exact Nat.ne_of_lt (ce2 (by with_reducible assumption)) | exact Nat.ne_of_lt (ce3 (by with_reducible assumption)) | exact Nat.ne_of_lt (ce4 (by with_reducible assumption)) | exact Nat.ne_of_lt (ce5 (by with_reducible assumption)) | exact Nat.ne_of_lt (ce6 (by with_reducible assumption)) | exact Nat.ne_of_lt (ce7 (by with_reducible assumption)) | exact Nat.ne_of_lt (ce8 (by with_reducible assumption)) | exact Nat.ne_of_lt (ce9 (by with_reducible assumption)) | exact Nat.ne_of_lt (ce10 (by with_reducible assumption)) | exact Nat.ne_of_lt (ce11 (by with_reducible assumption)) | exact Nat.ne_of_lt (ce12 (by with_reducible assumption)))
  k_with "k_all" => first | exact Off.m (by assumption) | exact Off.dm (by assumption) | exact Off.st (by assumption) | exact Off.ds (by assumption) | exact Off.hp (by assumption) | exact Off.sk (by assumption) | exact Off.tr (by assumption) | exact Off.xs (by assumption)
  k_with "call builtin:len" => (k_here; (with_reducible show wpAny _ _ (call (Value.builtin "len") [Value.ref _]) _ _ _); k_dflt (refine' len_lst (by k_asm) (by k_mem) (by first | omega | (dsimp only; omega)) ?_; k_whole); intro t' tk')
  k_with "subscriptTail" => (k_here; (with_reducible show wpAny _ _ (subscriptTail _ _ (Value.ref _) (Value.int _ _)) _ _ _); k_dflt (refine' item_lst (by k_asm) (by k_mem) (by first | assumption | exact Rel.s (by assumption) | exact Rel.h (by assumption) | exact Rel.x (by assumption)) (by first | assumption | exact At.cast (by assumption) (by omega)) (by first | omega | (dsimp only; omega)) ?_ (by with_unfolding_all rfl); k_whole); intro v' hv')
  k_with "subscriptTail" => (k_here; (with_reducible show wpAny _ _ (subscriptTail _ _ (Value.ref _) (Value.int _ _)) _ _ _); k_dflt (refine' itemI_lst (by k_asm) (by k_mem) (by first | assumption | exact Rel.s (by assumption) | exact Rel.h (by assumption) | exact Rel.x (by assumption)) (by first | assumption | exact At.cast (by assumption) (by omega)) (by first | omega | (dsimp only; omega)) ?_ (by with_unfolding_all rfl); k_whole); intro t')
  k_with "setItem ref" => (k_here; (with_reducible show wpAny _ _ (setItem (Value.ref _) (Value.int _ _) _) _ _ _); k_dflt (refine' set_lst (by k_asm) (by k_asm) (by k_upd) (by omega) (by omega) (by first | omega | (dsimp only; omega)) ?_; k_whole); intro h' F' N'; (try k_sweep))
  k_with "call builtin:list.append" => (k_here; (with_reducible show wpAny _ _ (call (Value.builtin _) [Value.ref _, _]) _ _ _); k_dflt (refine' append_lst (by k_asm) (by k_asm) (by k_upd) (by first | omega | (dsimp only; omega)) ?_; k_whole); intro h' F' N'; (try k_sweep))
  k_with "WhlIf" => first | refine WhlIf.yes (decide_eq_true (by omega)) ?_ | refine WhlIf.no (decide_eq_false (by omega)) ?_
  k_with "exec While Compare cons nil" => ((with_reducible rename MarkW => mk'); clear mk'; refine Stop.by ?_)
  k_with "exec For Name Name cons nil" => ((with_reducible rename MarkF => mk'); (rename Fr _ _ _ _ => lF'); (with_unfolding_all refine' For_invVF lF' (by exact rfl) (by exact rfl) ?_; k_whole))
  k_with "exec For Name Call cons nil" => ((with_reducible rename MarkF => mk'); (rename Fr _ _ _ _ => lF'); (with_unfolding_all refine' For_invVF lF' (by exact rfl) (by exact rfl) ?_; k_whole))
  k_with "pyIter ref" => ((with_reducible rename MarkF => mk'); clear mk'; refine Stop.by ?_)
  k_with "exec While Constant" => (k_here; k_dflt (refine whl_start 100 ?_))
  k_with "compareOp Eq" => (k_here; k_dflt (refine' eq_datB (by assumption) (by assumption) (by exact mem9s (by k_asm) (by repeat (first | assumption | refine immTail ?_)) (by k_asm) (by k_asm)) (by first | rfl | assumption) (by first | rfl | assumption) (by ktr_units) ?_; k_whole))
  k_with "subscriptTail" => (k_here; (with_reducible show wpAny _ _ (subscriptTail _ _ (Value.ref _) (Value.int _ _)) _ _ _); k_dflt (refine' tup9B (by assumption) (by exact mem9s (by k_asm) (by repeat (first | assumption | refine immTail ?_)) (by k_asm) (by k_asm)) (by decide) (by decide) (by rfl) (by rfl) ?_ (by with_unfolding_all rfl); k_whole))
  k_with "call builtin:list.pop" => (k_here; (with_reducible show wpAny _ _ (call (Value.builtin _) [Value.ref _]) _ _ _); k_dflt (refine' pop_lst (by k_asm) (by k_asm) (by k_upd) (by first | omega | (dsimp only; omega)) ?_; k_whole); intro h' F' N'; (try k_sweep))
  k_with "UnrEnd" => (refine unrLed (by k_asm) (by k_asm) (by assumption) ?_)
  k_with "k_mem" => first | with_reducible assumption | (refine memOf ?_; with_reducible assumption)
  k_with "k_all" => assumption
  k_with "subscriptTail" => (k_here; (with_reducible show wpAny _ _ (subscriptTail _ _ (Value.ref _) (Value.int _ _)) _ _ _); k_dflt (refine' item_val (by k_asm) (by k_mem) (by decide) (by decide) (by rfl) ?_ (by with_unfolding_all rfl); k_whole))
  k_with "getItem ref int" => (k_here; k_dflt (refine' get_val (by k_asm) (by k_mem) (by decide) (by decide) (by rfl) ?_; k_whole))
  k_with "setItem ref" => (k_here; (with_reducible show wpAny _ _ (setItem (Value.ref _) (Value.int _ _) _) _ _ _); k_dflt (refine' set_lst (by k_asm) (by k_asm) (by k_upd) (by decide) (by exact Int.lt_of_sub_pos (by decide)) (by exact Nat.le_of_ble_eq_true rfl) ?_; k_whole); intro h' F' N'; (try k_sweep))
  k_with "subscriptTail" => (k_here; (with_reducible show wpAny _ _ (subscriptTail _ _ (Value.ref _) (Value.int (-1) _)) _ _ _); k_dflt (refine' item_last (by k_asm) (by k_mem) (by omega) ?_ (by with_unfolding_all rfl); k_whole))
  k_with "call ref" => (k_here; (with_reducible show wpAny _ _ (call (Value.ref _) [_, _]) _ _ _); k_dflt (refine' digit_spec (by k_asm) (by k_asm) (by k_asm) (by first | k_asm | (refine newsSub (by assumption) (fun p hp => List.Mem.tail _ hp))) (by k_asm) (by rfl) (by ktr_room) (by ktr_units) (by assumption) (by assumption) (by assumption) (by omega) (by omega) ?_; k_whole); intro _ _ _ _ _ _ _ _ _ _; (try k_sweep))
  k_with "setAttr ref" => (k_here; k_dflt (first | ((with_reducible show wpAny _ _ (setAttr _ (PySem.Str.ofString "e") _) _ _ _); refine' set_e (by k_asm) (by k_asm) (by k_asm) (by assumption) (by assumption) (by assumption) ?_; k_whole) | ((with_reducible show wpAny _ _ (setAttr _ (PySem.Str.ofString "cp") _) _ _ _); refine' set_cp (by k_asm) (by k_asm) (by k_asm) (by assumption) (by assumption) (by assumption) ?_; k_whole) | ((with_reducible show wpAny _ _ (setAttr _ (PySem.Str.ofString "p") _) _ _ _); refine' set_p (by k_asm) (by k_asm) (by k_asm) (by assumption) (by assumption) (by assumption) ?_; k_whole) | ((with_reducible show wpAny _ _ (setAttr _ (PySem.Str.ofString "b0") _) _ _ _); refine' set_b0 (by k_asm) (by k_asm) (by k_asm) (by assumption) (by assumption) (by assumption) ?_; k_whole)); intro h' c' F' N' R'; (try dsimp only at N' R'); (try k_sweep))
  k_with "compareOp Eq int int" => (k_here; (with_reducible refine' eq_same ?_); k_dflt k_whole)
  trivial
theorem law_back_one (B : Below A₀ base outer h₀) (F : Fr h₀ L s.heap m) (X : (hd.heap_39 w.params).In h₀) (N : News h₀ L s.heap (Led a k c σ (potL pt nu q (keptL kl kn (es0 ++ [e]) imm)))) (T : TopF mean mg mb h₀) (hk : cs.kind = .function) (hdp : dp + 4 < recursionLimit) (hun : un + 132 < cLine)
    (R : Rel k imm c σ) (hS : Sm σ) (hA : Ord a) (S : Sep a pt nu kl ((es0 ++ [e]).map (·.ad)) imm) (hq : PotOk q) (hes : es0.length ≤ 100) {t6 : Tok} {ds : List Dat} {e' cp' mk hl : Int} (hB : Back σ ds e' cp' mk hl) {n : Nat} (hn : e.n = (n : Int)) (h3 : n ≤ 3) {l : List (Int × Int)} (hl4 : l.length ≤ 4000) (hD : DatIn (KV ++ imm) (.ref e.sn) (seenD (restW σ ds e' cp' mk hl) n l)) (hK : kqdOk 8 (seenD (restW σ ds e' cp' mk hl) n l) = true) (h4 : σ.b + (ds.length : Int) + 4 < σ.sk.length) (hc : ∀ v : Dat, ChE (σ.sk.set (σ.b + (ds.length : Int) + 4).toNat v) e' (l.map (·.1))) (hp : ∀ v : Dat, ∀ p ∈ l, At (σ.sk.set (σ.b + (ds.length : Int) + 4).toNat v) (p.1 + 1) (.int p.2))
    (ret : ∀ q' c' add after lab t ep h' tk', Fr h₀ L h' m → News h₀ L h' (Led a k c' { restW σ ds e' cp' mk hl with sk := σ.sk.set (σ.b + (ds.length : Int) + 4).toNat (.int after), p := lab } (potL pt nu q' (keptL kl kn (es0 ++ [{ e with alt := after, t4 := t, ep := ep }]) (add ++ imm)))) → PotOk q' → Rel k (add ++ imm) c' { restW σ ds e' cp' mk hl with sk := σ.sk.set (σ.b + (ds.length : Int) + 4).toNat (.int after), p := lab } → Adds a (potL pt nu q (keptL kl kn (es0 ++ [e]) imm)) add → Q (.bool true) { s with heap := h', toks := tk' }) :
    wpAny (model prog w) (ktrTop dp un gd cn cs L ca ccd cl outer) (call (.ref 550) [.ref pt, .ref a.m, .ref kl, .int 1 t6]) Q E s := by
  have dS := R.s
  obtain ⟨zH, zS, zT, zX⟩ := id hS
  obtain ⟨o1, o2, o3, o4, o5, o6, o7⟩ := id hA
  have lE : (refE es0).length = es0.length := List.length_map ..
  have hPA := potASub (sepPot (kn := kn) S hA) backSub
  have hOA := offSub (sepOff (kn := kn) S hA) backSub
  have sad := sepAd S
  have skl := sepKl0 S
  have sp1 := S.p1
  have sp2 := S.p2
  have sp3 := S.p3
  have sp4 := S.p4 e.ad (List.mem_map.mpr ⟨e, List.mem_append.mpr (.inr (List.Mem.head _)), rfl⟩)
  have N0 := newsSub N (ledMono (potMono backSub))
  clear N
  have hOP := offPot (q := q) hPA hA hOA
  refine wpAny_call ?_
  k_dflt ktr_enter
  k_steps
  rename_i d1 t1 q1 h6 tk6 hq1 d10 d11 h5 tk5 d2 t2 q2 y4 tk4 hq2 d20 d21 y3 y2 y1 D hh F1 N1 l1
  have hO2 := offPot (q := q2) hPA hA hOA
  have w1 := fun o => addsOne (o := o) (rest := potL pt nu q2 (backL kl kn es0 e imm)) (k := k) (c := c) (σ := σ) (allLt_all (d := D) l1)
  have R0 : Rel k imm { c with tp := tk6 } { σ with p := 100 + d1 } := ⟨R.h, R.s, R.t, R.x, R.c⟩
  refine do_retry_spec (k := k) (c := { c with tp := tk6 }) (σ := { σ with p := 100 + d1 }) (imm := imm) (rest := (D, _) :: potL pt nu q2 (backL kl kn es0 e imm)) (by k_asm) F1 (by k_asm) (newsSub N1 ledSwap) (by k_asm) rfl (by ktr_room) (by ktr_units) R0 (smSame hS rfl rfl rfl rfl) (offApp (w1 _).off hO2) hA (immTail (immPot immBack)) (List.Mem.head _) ⟨hB.hc, hB.hr, hB.h3, hB.g1, hB.g2, hB.g5, hB.g6, hB.m0, hB.m1, hB.m2, hB.l0, hB.l1⟩ h4 ?_
  intro c1 add h8 tk8 F2 N2 R2 A2
  dsimp only at N2 R2
  have A3 := addsSub A2 (fun _ h => List.Mem.tail _ h)
  have N3 := newsSub (newsSub N2 (ledDropMid (fun _ h => List.Mem.tail _ h))) backApp
  clear N2 N1 F1
  have A4 := addsPotQ (q := q) (addsSub A3 (potMono backSup))
  have S4 := sepAdd S A4
  have sad4 := sepAd S4
  k_steps
  (rename Fr _ _ _ _ => F4); (rename News _ _ _ _ => N4)
  have N5 := newsCast N4 (y := Led a k c1 { restW σ ds e' cp' mk hl with sk := σ.sk.set (σ.b + (ds.length : Int) + 4).toNat (.int (100 + d1)), p := 200 + d2 } (potL pt nu q2 (backL kl kn es0 { e with alt := 100 + d1, t4 := tk6 } (add ++ imm)))) rfl
  clear N4
  have hS2 : Sm { restW σ ds e' cp' mk hl with sk := σ.sk.set (σ.b + (ds.length : Int) + 4).toNat (.int (100 + d1)), p := 200 + d2 } := by
    have q := smRest (ds := ds) (e' := e') (cp' := cp') (mk := mk) (hl := hl) hS (by have := hB.h3; omega)
    exact ⟨q.h, by dsimp only; rw [List.length_set]; exact hS.s, q.t, q.x⟩
  have S5 : Sep a pt nu kl ((es0 ++ [{ e with alt := 100 + d1, t4 := tk6 }]).map (fun x : En => x.ad)) (add ++ imm) := by
    rw [List.map_append] at S4 ⊢; exact S4
  have hPA5 := potASub (sepPot (kn := kn) S5 hA) backSub
  have hOA5 := offSub (sepOff (kn := kn) S5 hA) backSub
  rw [hn]
  refine law_seen_spec (imm := add ++ imm) (rest := potL pt nu q2 (backL kl kn es0 { e with alt := 100 + d1, t4 := tk6 } (add ++ imm))) (l := l) (by k_asm) F4 (by k_asm) N5 (by k_asm) rfl (by ktr_room) (by ktr_units) R2 hS2 (offPot hPA5 hA hOA5) hA (immPot immBack) h3 (hc _) (hp _) hl4 ?_
  intro D2 add2 h9 tk9 F6 N6 hD2 A6
  have hm6 := fun p hp => ledIn (a := a) (k := k) (c := c1) (σ := { restW σ ds e' cp' mk hl with sk := σ.sk.set (σ.b + (ds.length : Int) + 4).toNat (.int (100 + d1)), p := 200 + d2 }) p (immApp (add := add2) (immPot (pt := pt) (nu := nu) (q := q2) (immBack (imm := add ++ imm) (kl := kl) (kn := kn) (es0 := es0) (e := { e with alt := 100 + d1, t4 := tk6 }))) p hp)
  have M6 := mem9s N6 hm6 (by k_asm) F6
  have N7 := newsSub N6 ledDropApp
  clear N5 F4 N6
  k_steps
  refine eq_datT M6 (d := seenD (restW σ ds e' cp' mk hl) n l) hD2 (hD.mono (kvMono fun p hp => List.mem_append.mpr (.inr (List.mem_append.mpr (.inr hp))))) hK (by ktr_units) ?_
  k_steps
  all_goals ((rename Fr h₀ _ _ _ => qF); (rename News h₀ _ _ _ => qN); exact ret q2 c1 add (100 + d1) (200 + d2) tk6 e.ep _ _ qF (newsSub qN (ledMono (potMono backSup))) hq2 R2 A4)

end
end Mine
namespace Mine
theorem kw0_C20 : True := by
  k_with_none
  w_top off
  trivial
theorem fill20 : PySem.Challenge.rw_sa0158_01 = PySem.Challenge.rw_sa0158_01 ∧ hd.heap_39 = hd.heap_39 := by k_fill; exact ⟨rfl, rfl⟩
section
variable {prog : Program} {w : World} {mean : ExcName → Option Value} {mg mb : Str → Option Value} {dp un : Nat} {gd : Option (List Code)} {cn : Str} {cs : Scope} {ca : Addr} {ccd : Value} {cl : List (Str × Addr)} {outer : List Env} {A₀ : Around} {base h₀ : Heap} {L : Addr} {m : Str → Option Value} {s : Shared} {Q E : Value → Shared → Prop}
  {a : Adr} {k : Kon} {c : Con} {σ : W} {imm rest : List (Addr × Obj)}
variable {pt nu kl : Addr} {q : PotC} {kn : Nat} {es0 : List En} {e : En}
theorem kw_C20_0 : True := by
  k_with_none
  k_with "k_upd" => first | exact upd_sk (by assumption) (by assumption) | exact upd_hp (by assumption) (by assumption) | exact upd_tr (by assumption) (by assumption) | exact upd_xs (by assumption) (by assumption) | exact upd_dm (by assumption) (by assumption) | exact upd_ds (by assumption) (by assumption) | exact upd_pt (by assumption) (by assumption) (by assumption) (by assumption) | exact upd_nu (by assumption) (by assumption) (by assumption) (by assumption) | exact upd_kl (by assumption) (by assumption) (by assumption) (by assumption) (by assumption) | exact upd_dm (by assumption) (offPot (by assumption) (by assumption) (by assumption)) | exact upd_kl (by assumption) (by assumption) (by assumption) (by assumption) (List.forall_mem_cons.mpr ⟨Nat.ne_of_gt (by assumption), by assumption⟩) | exact upd_en (by assumption) (by assumption) (by assumption) (by assumption) (by assumption) (by assumption)
  k_with "k_ne" => (refine neN ?_; (try dsimp only); first | exact Nat.ne_of_gt (by with_reducible assumption) | exact Nat.ne_of_lt (by with_reducible assumption) | exact Nat.ne_of_gt (And.left (by with_reducible assumption)) | exact Nat.ne_of_gt (cj1 (by with_reducible assumption)) | exact Nat.ne_of_gt (cj2 (by with_reducible assumption)) | exact Nat.ne_of_gt (cj3 (by with_reducible assumption)) | exact Nat.ne_of_gt (cj4 (by with_reducible assumption)) | exact Nat.ne_of_gt (cj5 (by with_reducible assumption)) | exact Nat.ne_of_gt (cj6 (by with_reducible assumption)) | exact Nat.ne_of_gt (cj7 (by with_reducible assumption)) | exact Nat.ne_of_gt (cj8 (by with_reducible assumption)) | exact Nat.ne_of_gt (cj9 (by with_reducible assumption)) | exact Nat.ne_of_gt (cj10 (by with_reducible assumption)) | exact Nat.ne_of_gt (cj11 (by with_reducible assumption)) | exact Nat.ne_of_gt (cj12 (by with_reducible assumption)) | exact Nat.ne_of_gt (ce1 (by with_reducible assumption)) | exact Nat.ne_of_gt (ce2 (by with_reducible assumption)) | exact Nat.ne_of_gt (ce3 (by with_reducible assumption)) | exact Nat.ne_of_gt (ce4 (by with_reducible assumption)) | exact Nat.ne_of_gt (ce5 (by with_reducible assumption)) | exact Nat.ne_of_gt (ce6 (by with_reducible assumption)) | exact Nat.ne_of_gt (ce7 (by with_reducible assumption)) | exact Nat.ne_of_gt (ce8 (by with_reducible assumption)) | exact Nat.ne_of_gt (ce9 (by with_reducible assumption)) | exact Nat.ne_of_gt (ce10 (by with_reducible assumption)) | exact Nat.ne_of_gt (ce11 (by with_reducible assumption)) | exact Nat.ne_of_gt (ce12 (by with_reducible assumption)) | exact Nat.ne_of_lt (And.left (by with_reducible assumption)) | exact Nat.ne_of_lt (cj1 (by with_reducible assumption)) | exact Nat.ne_of_lt (cj2 (by with_reducible assumption)) | exact Nat.ne_of_lt (cj3 (by with_reducible assumption)) | exact Nat.ne_of_lt (cj4 (by with_reducible assumption)) | exact Nat.ne_of_lt (cj5 (by with_reducible assumption)) | exact Nat.ne_of_lt (cj6 (by with_reducible assumption)) | exact Nat.ne_of_lt (cj7 (by with_reducible assumption)) | exact Nat.ne_of_lt (cj8 (by with_reducible assumption)) | exact Nat.ne_of_lt (cj9 (by with_reducible assumption)) | exact Nat.ne_of_lt (cj10 (by with_reducible assumption)) | exact Nat.ne_of_lt (cj11 (by with_reducible assumption)) | exact Nat.ne_of_lt (cj12 (by with_reducible assumption)) | exact Nat.ne_of_lt (ce1 (by with_reducible assumption)) | exact Nat.ne_of_lt (ce2 (by with_reducible assumption)) | exact Nat.ne_of_lt (ce3 (by with_reducible assumption)) | exact Nat.ne_of_lt (ce4 (by with_reducible assumption)) | exact Nat.ne_of_lt (ce5 (by with_reducible assumption)) | exact Nat.ne_of_lt (ce6 (by with_reducible assumption)) | exact Nat.ne_of_lt (ce7 (by with_reducible assumption)) | exact Nat.ne_of_lt (ce8 (by with_reducible assumption)) | exact Nat.ne_of_lt (ce9 (by with_reducible assumption)) | exact Nat.ne_of_lt (ce10 (by with_reducible assumption)) | exact Nat.ne_of_lt (ce11 (by with_reducible assumption)) | exact Nat.ne_of_lt (ce12 (by with_reducible assumption)))
  k_with "k_all" => first | exact Off.m (by assumption) | exact Off.dm (by assumption) | exact Off.st (by assumption) | exact Off.ds (by assumption) | exact Off.hp (by assumption) | exact Off.sk (by assumption) | exact Off.tr (by assumption) | exact Off.xs (by assumption)
  k_with "call builtin:len" => (k_here; (with_reducible show wpAny _ _ (call (Value.builtin "len") [Value.ref _]) _ _ _); k_dflt (refine' len_lst (by k_asm) (by k_mem) (by first | omega | (dsimp only; omega)) ?_; k_whole); intro t' tk')
  k_with "subscriptTail" => (k_here; (with_reducible show wpAny _ _ (subscriptTail _ _ (Value.ref _) (Value.int _ _)) _ _ _); k_dflt (refine' item_lst (by k_asm) (by k_mem) (by first | assumption | exact Rel.s (by assumption) | exact Rel.h (by assumption) | exact Rel.x (by assumption)) (by first | assumption | exact At.cast (by assumption) (by omega)) (by first | omega | (dsimp only; omega)) ?_ (by with_unfolding_all rfl); k_whole); intro v' hv')
  k_with "subscriptTail" => (k_here; (with_reducible show wpAny _ _ (subscriptTail _ _ (Value.ref _) (Value.int _ _)) _ _ _); k_dflt (refine' itemI_lst (by k_asm) (by k_mem) (by first | assumption | exact Rel.s (by assumption) | exact Rel.h (by assumption) | exact Rel.x (by assumption)) (by first | assumption | exact At.cast (by assumption) (by omega)) (by first | omega | (dsimp only; omega)) ?_ (by with_unfolding_all rfl); k_whole); intro t')
  k_with "setItem ref" => (k_here; (with_reducible show wpAny _ _ (setItem (Value.ref _) (Value.int _ _) _) _ _ _); k_dflt (refine' set_lst (by k_asm) (by k_asm) (by k_upd) (by omega) (by omega) (by first | omega | (dsimp only; omega)) ?_; k_whole); intro h' F' N'; (try k_sweep))
  k_with "call builtin:list.append" => (k_here; (with_reducible show wpAny _ _ (call (Value.builtin _) [Value.ref _, _]) _ _ _); k_dflt (refine' append_lst (by k_asm) (by k_asm) (by k_upd) (by first | omega | (dsimp only; omega)) ?_; k_whole); intro h' F' N'; (try k_sweep))
  k_with "WhlIf" => first | refine WhlIf.yes (decide_eq_true (by omega)) ?_ | refine WhlIf.no (decide_eq_false (by omega)) ?_
  k_with "exec While Compare cons nil" => ((with_reducible rename MarkW => mk'); clear mk'; refine Stop.by ?_)
  k_with "exec For Name Name cons nil" => ((with_reducible rename MarkF => mk'); (rename Fr _ _ _ _ => lF'); (with_unfolding_all refine' For_invVF lF' (by exact rfl) (by exact rfl) ?_; k_whole))
  k_with "exec For Name Call cons nil" => ((with_reducible rename MarkF => mk'); (rename Fr _ _ _ _ => lF'); (with_unfolding_all refine' For_invVF lF' (by exact rfl) (by exact rfl) ?_; k_whole))
  k_with "pyIter ref" => ((with_reducible rename MarkF => mk'); clear mk'; refine Stop.by ?_)
  k_with "exec While Constant" => (k_here; k_dflt (refine whl_start 100 ?_))
  k_with "compareOp Eq" => (k_here; k_dflt (refine' eq_datB (by assumption) (by assumption) (by exact mem9s (by k_asm) (by repeat (first | assumption | refine immTail ?_)) (by k_asm) (by k_asm)) (by first | rfl | assumption) (by first | rfl | assumption) (by ktr_units) ?_; k_whole))
  k_with "subscriptTail" => (k_here; (with_reducible show wpAny _ _ (subscriptTail _ _ (Value.ref _) (Value.int _ _)) _ _ _); k_dflt (refine' tup9B (by assumption) (by exact mem9s (by k_asm) (by repeat (first | assumption | refine immTail ?_)) (by k_asm) (by k_asm)) (by decide) (by decide) (by rfl) (by rfl) ?_ (by with_unfolding_all rfl); k_whole))
  k_with "call builtin:list.pop" => (k_here; (with_reducible show wpAny _ _ (call (Value.builtin _) [Value.ref _]) _ _ _); k_dflt (refine' pop_lst (by k_asm) (by k_asm) (by k_upd) (by first | omega | (dsimp only; omega)) ?_; k_whole); intro h' F' N'; (try k_sweep))
  k_with "UnrEnd" => (refine unrLed (by k_asm) (by k_asm) (by assumption) ?_)
  k_with "k_mem" => first | with_reducible assumption | (refine memOf ?_; with_reducible assumption)
  k_with "k_all" => assumption
  k_with "subscriptTail" => (k_here; (with_reducible show wpAny _ _ (subscriptTail _ _ (Value.ref _) (Value.int _ _)) _ _ _); k_dflt (refine' item_val (by k_asm) (by k_mem) (by decide) (by decide) (by rfl) ?_ (by with_unfolding_all rfl); k_whole))
  k_with "getItem ref int" => (k_here; k_dflt (refine' get_val (by k_asm) (by k_mem) (by decide) (by decide) (by rfl) ?_; k_whole))
  k_with "setItem ref" => (k_here; (with_reducible show wpAny _ _ (setItem (Value.ref _) (Value.int _ _) _) _ _ _); k_dflt (refine' set_lst (by k_asm) (by k_asm) (by k_upd) (by decide) (by exact Int.lt_of_sub_pos (by decide)) (by exact Nat.le_of_ble_eq_true rfl) ?_; k_whole); intro h' F' N'; (try k_sweep))
  k_with "subscriptTail" => (k_here; (with_reducible show wpAny _ _ (subscriptTail _ _ (Value.ref _) (Value.int (-1) _)) _ _ _); k_dflt (refine' item_last (by k_asm) (by k_mem) (by omega) ?_ (by with_unfolding_all rfl); k_whole))
  k_with "call ref" => (k_here; (with_reducible show wpAny _ _ (call (Value.ref _) [_, _]) _ _ _); k_dflt (refine' digit_spec (by k_asm) (by k_asm) (by k_asm) (by first | k_asm | (refine newsSub (by assumption) (fun p hp => List.Mem.tail _ hp))) (by k_asm) (by rfl) (by ktr_room) (by ktr_units) (by assumption) (by assumption) (by assumption) (by omega) (by omega) ?_; k_whole); intro _ _ _ _ _ _ _ _ _ _; (try k_sweep))
  k_with "setAttr ref" => (k_here; k_dflt (first | ((with_reducible show wpAny _ _ (setAttr _ (PySem.Str.ofString "e") _) _ _ _); refine' set_e (by k_asm) (by k_asm) (by k_asm) (by assumption) (by assumption) (by assumption) ?_; k_whole) | ((with_reducible show wpAny _ _ (setAttr _ (PySem.Str.ofString "cp") _) _ _ _); refine' set_cp (by k_asm) (by k_asm) (by k_asm) (by assumption) (by assumption) (by assumption) ?_; k_whole) | ((with_reducible show wpAny _ _ (setAttr _ (PySem.Str.ofString "p") _) _ _ _); refine' set_p (by k_asm) (by k_asm) (by k_asm) (by assumption) (by assumption) (by assumption) ?_; k_whole) | ((with_reducible show wpAny _ _ (setAttr _ (PySem.Str.ofString "b0") _) _ _ _); refine' set_b0 (by k_asm) (by k_asm) (by k_asm) (by assumption) (by assumption) (by assumption) ?_; k_whole)); intro h' c' F' N' R'; (try dsimp only at N' R'); (try k_sweep))
  k_with "compareOp Eq int int" => (k_here; (with_reducible refine' eq_same ?_); k_dflt k_whole)
  trivial
theorem law_back_two (B : Below A₀ base outer h₀) (F : Fr h₀ L s.heap m) (X : (hd.heap_39 w.params).In h₀) (N : News h₀ L s.heap (Led a k c σ (potL pt nu q (keptL kl kn (es0 ++ [e]) imm)))) (T : TopF mean mg mb h₀) (hk : cs.kind = .function) (hdp : dp + 4 < recursionLimit) (hun : un + 132 < cLine)
    (R : Rel k imm c σ) (hS : Sm σ) (hA : Ord a) (S : Sep a pt nu kl ((es0 ++ [e]).map (·.ad)) imm) (hq : PotOk q) (hes : es0.length ≤ 100) {t6 : Tok} {ds : List Dat} {e' cp' mk hl : Int} (hB : Back σ ds e' cp' mk hl) {n : Nat} (hn : e.n = (n : Int)) (h3 : n ≤ 3) {l : List (Int × Int)} (hl4 : l.length ≤ 4000) (hD : DatIn (KV ++ imm) (.ref e.sn) (seenD (restW σ ds e' cp' mk hl) n l)) (hK : kqdOk 8 (seenD (restW σ ds e' cp' mk hl) n l) = true) {pv : Int} {σ2 : W} (h4 : At σ.sk (σ.b + (ds.length : Int) + 3) (.int pv)) (h5 : SetB (restW σ ds e' cp' mk hl) pv σ2) (hc : ChE σ.sk e' (l.map (·.1))) (hp : ∀ p ∈ l, At σ.sk (p.1 + 1) (.int p.2))
    (ret : ∀ q' c' add lab kn' h' tk', Fr h₀ L h' m → News h₀ L h' (Led a k c' { σ2 with p := lab } (potL pt nu q' (keptL kl kn' es0 (add ++ imm)))) → PotOk q' → Rel k (add ++ imm) c' { σ2 with p := lab } → Adds a (potL pt nu q (keptL kl kn (es0 ++ [e]) imm)) add → Q (.bool true) { s with heap := h', toks := tk' }) :
    wpAny (model prog w) (ktrTop dp un gd cn cs L ca ccd cl outer) (call (.ref 550) [.ref pt, .ref a.m, .ref kl, .int 2 t6]) Q E s := by
  obtain ⟨b', hb', bb', rfl⟩ := setB_shape h5
  have dS := R.s
  obtain ⟨zH, zS, zT, zX⟩ := id hS
  obtain ⟨o1, o2, o3, o4, o5, o6, o7⟩ := id hA
  have lE : (refE es0).length = es0.length := List.length_map ..
  have hPA := potASub (sepPot (kn := kn) S hA) backSub
  have hOA := offSub (sepOff (kn := kn) S hA) backSub
  have sad := sepAd S
  have skl := sepKl0 S
  have sp1 := S.p1
  have sp2 := S.p2
  have sp3 := S.p3
  have sp4 := S.p4 e.ad (List.mem_map.mpr ⟨e, List.mem_append.mpr (.inr (List.Mem.head _)), rfl⟩)
  have N0 := newsSub N (ledMono (potMono backSub))
  clear N
  have hOP := offPot (q := q) hPA hA hOA
  refine wpAny_call ?_
  k_dflt ktr_enter
  k_steps
  rename_i d1 t1 q1 h6 tk6 hq1 d10 d11 y5 tk5 d2 t2 q2 y4 tk4 hq2 d20 d21 y3 y2 y1 D hh F1 N1 l1
  have hO2 := offPot (q := q2) hPA hA hOA
  have w1 := fun o => addsOne (o := o) (rest := potL pt nu q2 (backL kl kn es0 e imm)) (k := k) (c := c) (σ := σ) (allLt_all (d := D) l1)
  have R0 : Rel k imm { c with tp := tk6 } { σ with p := 100 + d1 } := ⟨R.h, R.s, R.t, R.x, R.c⟩
  refine do_trust_spec (k := k) (c := { c with tp := tk6 }) (σ := { σ with p := 100 + d1 }) (imm := imm) (rest := (D, _) :: potL pt nu q2 (backL kl kn es0 e imm)) (by k_asm) F1 (by k_asm) (newsSub N1 ledSwap) (by k_asm) rfl (by ktr_room) (by ktr_units) R0 (smSame hS rfl rfl rfl rfl) (offApp (w1 _).off hO2) hA (immTail (immPot immBack)) (List.Mem.head _) (ds := ds) ⟨hB.hc, hB.hr, hB.h3, hB.g1, hB.g2, hB.g5, hB.g6, hB.m0, hB.m1, hB.m2, hB.l0, hB.l1⟩ h4 (setB_p (y := 100 + d1) h5) ?_
  intro c1 add h8 tk8 F2 N2 R2 A2
  dsimp only at N2 R2
  have A3 := addsSub A2 (fun _ h => List.Mem.tail _ h)
  have N3 := newsSub (newsSub N2 (ledDropMid (fun _ h => List.Mem.tail _ h))) backApp
  clear N2 N1 F1
  have A4 := addsPotQ (q := q) (addsSub A3 (potMono backSup))
  have S4 := sepAdd S A4
  have sad4 := sepAd S4
  have skl4 := sepKl0 S4
  k_steps
  (rename Fr _ _ _ _ => F4); (rename News _ _ _ _ => N4)
  have hS2 : Sm { restW σ ds e' cp' mk hl with b := b', hb := hb', bb := bb', p := 200 + d2 } := by
    have q := smRest (ds := ds) (e' := e') (cp' := cp') (mk := mk) (hl := hl) hS (by have := hB.h3; omega)
    exact ⟨q.h, hS.s, q.t, q.x⟩
  have hPA5 := potASub (sepPot (kn := kn) S4 hA) backSub
  have hOA5 := offSub (sepOff (kn := kn) S4 hA) backSub
  rw [hn]
  refine law_seen_spec (imm := add ++ imm) (σ := { restW σ ds e' cp' mk hl with b := b', hb := hb', bb := bb', p := 200 + d2 }) (rest := potL pt nu q2 ((kl, listOf (refE es0).toArray (kn + 1)) :: (e.ad, entO e) :: (entsL es0 ++ (add ++ imm)))) (l := l) (by k_asm) F4 (by k_asm) N4 (by k_asm) rfl (by ktr_room) (by ktr_units) R2 hS2 (offPot (potAHead hPA5) hA (offHead hOA5)) hA (immPot (immTail (immTail (fun _ hp => List.mem_append.mpr (.inr hp))))) h3 hc hp hl4 ?_
  intro D2 add2 h9 tk9 F6 N6 hD2 A6
  have hI7 : ∀ p ∈ add ++ imm, p ∈ (kl, listOf (refE es0).toArray (kn + 1)) :: (e.ad, entO e) :: (entsL es0 ++ (add ++ imm)) := immTail (immTail (fun _ hp => List.mem_append.mpr (.inr hp)))
  have hm6 := fun p hp => ledIn (a := a) (k := k) (c := c1) (σ := { restW σ ds e' cp' mk hl with b := b', hb := hb', bb := bb', p := 200 + d2 }) p (immApp (add := add2) (immPot (pt := pt) (nu := nu) (q := q2) hI7) p hp)
  have M6 := mem9s N6 hm6 (by k_asm) F6
  have N7 := newsSub N6 ledDropApp
  clear N4 F4 N6
  k_steps
  refine eq_datT M6 (d := seenD (restW σ ds e' cp' mk hl) n l) hD2 (hD.mono (kvMono fun p hp => List.mem_append.mpr (.inr (List.mem_append.mpr (.inr hp))))) hK (by ktr_units) ?_
  k_steps
  all_goals ((rename Fr h₀ _ _ _ => qF); (rename News h₀ _ _ _ => qN); exact ret q2 c1 add (200 + d2) (kn + 1) _ _ qF (newsSub qN (ledMono (potMono (consMono (fun _ h => List.Mem.tail _ h))))) hq2 R2 A4)

end
end Mine
namespace Mine
theorem kw0_C21 : True := by
  k_with_none
  w_top off
  trivial
theorem fill21 : PySem.Challenge.rw_sa0158_01 = PySem.Challenge.rw_sa0158_01 ∧ hd.heap_39 = hd.heap_39 := by k_fill; exact ⟨rfl, rfl⟩
section
variable {prog : Program} {w : World} {mean : ExcName → Option Value} {mg mb : Str → Option Value} {dp un : Nat} {gd : Option (List Code)} {cn : Str} {cs : Scope} {ca : Addr} {ccd : Value} {cl : List (Str × Addr)} {outer : List Env} {A₀ : Around} {base h₀ : Heap} {L : Addr} {m : Str → Option Value} {s : Shared} {Q E : Value → Shared → Prop}
  {a : Adr} {k : Kon} {c : Con} {σ : W} {imm rest : List (Addr × Obj)}
theorem kw_C21_0 : True := by
  k_with_none
  k_with "k_upd" => first | exact upd_sk (by assumption) (by assumption) | exact upd_hp (by assumption) (by assumption) | exact upd_tr (by assumption) (by assumption) | exact upd_xs (by assumption) (by assumption) | exact upd_dm (by assumption) (by assumption) | exact upd_ds (by assumption) (by assumption) | exact upd_pt (by assumption) (by assumption) (by assumption) (by assumption) | exact upd_nu (by assumption) (by assumption) (by assumption) (by assumption) | exact upd_kl (by assumption) (by assumption) (by assumption) (by assumption) (by assumption)
  k_with "k_ne" => (refine neN ?_; (try dsimp only); first | exact Nat.ne_of_gt (by with_reducible assumption) | exact Nat.ne_of_lt (by with_reducible assumption) | exact Nat.ne_of_gt (And.left (by with_reducible assumption)) | exact Nat.ne_of_gt (cj1 (by with_reducible assumption)) | exact Nat.ne_of_gt (cj2 (by with_reducible assumption)) | exact Nat.ne_of_gt (cj3 (by with_reducible assumption)) | exact Nat.ne_of_gt (cj4 (by with_reducible assumption)) | exact Nat.ne_of_gt (cj5 (by with_reducible assumption)) | exact Nat.ne_of_gt (cj6 (by with_reducible assumption)) | exact Nat.ne_of_gt (cj7 (by with_reducible assumption)) | exact Nat.ne_of_gt (cj8 (by with_reducible assumption)) | exact Nat.ne_of_gt (cj9 (by with_reducible assumption)) | exact Nat.ne_of_gt (cj10 (by with_reducible assumption)) | exact Nat.ne_of_gt (cj11 (by with_reducible assumption)) | exact Nat.ne_of_gt (cj12 (by with_reducible assumption)) | exact Nat.ne_of_gt (ce1 (by with_reducible assumption)) | exact Nat.ne_of_gt (ce2 (by with_reducible assumption)) | exact Nat.ne_of_gt (ce3 (by with_reducible assumption)) | exact Nat.ne_of_gt (ce4 (by with_reducible assumption)) | exact Nat.ne_of_gt (ce5 (by with_reducible assumption)) | exact Nat.ne_of_gt (ce6 (by with_reducible assumption)) | exact Nat.ne_of_gt (ce7 (by with_reducible assumption)) | exact Nat.ne_of_gt (ce8 (by with_reducible assumption)) | exact Nat.ne_of_gt (ce9 (by with_reducible assumption)) | exact Nat.ne_of_gt (ce10 (by with_reducible assumption)) | exact Nat.ne_of_gt (ce11 (by with_reducible assumption)) | exact Nat.ne_of_gt (ce12 (by with_reducible assumption)) | exact Nat.ne_of_lt (And.left (by with_reducible assumption)) | exact Nat.ne_of_lt (cj1 (by with_reducible assumption)) | exact Nat.ne_of_lt (cj2 (by with_reducible assumption)) | exact Nat.ne_of_lt (cj3 (by with_reducible assumption)) | exact Nat.ne_of_lt (cj4 (by with_reducible assumption)) | exact Nat.ne_of_lt (cj5 (by with_reducible assumption)) | exact Nat.ne_of_lt (cj6 (by with_reducible assumption)) | exact Nat.ne_of_lt (cj7 (by with_reducible assumption)) | exact Nat.ne_of_lt (cj8 (by with_reducible assumption)) | exact Nat.ne_of_lt (cj9 (by with_reducible assumption)) | exact Nat.ne_of_lt (cj10 (by with_reducible assumption)) | exact Nat.ne_of_lt (cj11 (by with_reducible assumption)) | exact Nat.ne_of_lt (cj12 (by with_reducible assumption)) | exact Nat.ne_of_lt (ce1 (by with_reducible assumption)) | exact Nat.ne_of_lt (ce2 (by with_reducible assumption)) | exact Nat.ne_of_lt (ce3 (by with_reducible assumption)) | exact Nat.ne_of_lt (ce4 (by with_reducible assumption)) | exact Nat.ne_of_lt (ce5 (by with_reducible assumption)) | exact Nat.ne_of_lt (ce6 (by with_reducible assumption)) | exact Nat.ne_of_lt (ce7 (by with_reducible assumption)) | exact Nat.ne_of_lt (ce8 (by with_reducible assumption)) | exact Nat.ne_of_lt (ce9 (by with_reducible assumption)) | exact Nat.ne_of_lt (ce10 (by with_reducible assumption)) | exact Nat.ne_of_lt (ce11 (by with_reducible assumption)) | exact Nat.ne_of_lt (ce12 (by with_reducible assumption)))
  k_with "k_all" => first | exact Off.m (by assumption) | exact Off.dm (by assumption) | exact Off.st (by assumption) | exact Off.ds (by assumption) | exact Off.hp (by assumption) | exact Off.sk (by assumption) | exact Off.tr (by assumption) | exact Off.xs (by assumption)
  k_with "call builtin:len" => (k_here; (with_reducible show wpAny _ _ (call (Value.builtin "len") [Value.ref _]) _ _ _); k_dflt (refine' len_lst (by k_asm) (by k_mem) (by first | omega | (dsimp only; omega)) ?_; k_whole); intro t' tk')
  k_with "subscriptTail" => (k_here; (with_reducible show wpAny _ _ (subscriptTail _ _ (Value.ref _) (Value.int _ _)) _ _ _); k_dflt (refine' item_lst (by k_asm) (by k_mem) (by first | assumption | exact Rel.s (by assumption) | exact Rel.h (by assumption) | exact Rel.x (by assumption)) (by first | assumption | exact At.cast (by assumption) (by omega)) (by first | omega | (dsimp only; omega)) ?_ (by with_unfolding_all rfl); k_whole); intro v' hv')
  k_with "subscriptTail" => (k_here; (with_reducible show wpAny _ _ (subscriptTail _ _ (Value.ref _) (Value.int _ _)) _ _ _); k_dflt (refine' itemI_lst (by k_asm) (by k_mem) (by first | assumption | exact Rel.s (by assumption) | exact Rel.h (by assumption) | exact Rel.x (by assumption)) (by first | assumption | exact At.cast (by assumption) (by omega)) (by first | omega | (dsimp only; omega)) ?_ (by with_unfolding_all rfl); k_whole); intro t')
  k_with "setItem ref" => (k_here; (with_reducible show wpAny _ _ (setItem (Value.ref _) (Value.int _ _) _) _ _ _); k_dflt (refine' set_lst (by k_asm) (by k_asm) (by k_upd) (by omega) (by omega) (by first | omega | (dsimp only; omega)) ?_; k_whole); intro h' F' N'; (try k_sweep))
  k_with "call builtin:list.append" => (k_here; (with_reducible show wpAny _ _ (call (Value.builtin _) [Value.ref _, _]) _ _ _); k_dflt (refine' append_lst (by k_asm) (by k_asm) (by k_upd) (by first | omega | (dsimp only; omega)) ?_; k_whole); intro h' F' N'; (try k_sweep))
  k_with "WhlIf" => first | refine WhlIf.yes (decide_eq_true (by omega)) ?_ | refine WhlIf.no (decide_eq_false (by omega)) ?_
  k_with "exec While Compare cons nil" => ((with_reducible rename MarkW => mk'); clear mk'; refine Stop.by ?_)
  k_with "exec For Name Name cons nil" => ((with_reducible rename MarkF => mk'); (rename Fr _ _ _ _ => lF'); (with_unfolding_all refine' For_invVF lF' (by exact rfl) (by exact rfl) ?_; k_whole))
  k_with "exec For Name Call cons nil" => ((with_reducible rename MarkF => mk'); (rename Fr _ _ _ _ => lF'); (with_unfolding_all refine' For_invVF lF' (by exact rfl) (by exact rfl) ?_; k_whole))
  k_with "pyIter ref" => ((with_reducible rename MarkF => mk'); clear mk'; refine Stop.by ?_)
  k_with "exec While Constant" => (k_here; k_dflt (refine whl_start 100 ?_))
  k_with "compareOp Eq" => (k_here; k_dflt (refine' eq_datB (by assumption) (by assumption) (by exact mem9s (by k_asm) (by repeat (first | assumption | refine immTail ?_)) (by k_asm) (by k_asm)) (by first | rfl | assumption) (by first | rfl | assumption) (by ktr_units) ?_; k_whole))
  k_with "subscriptTail" => (k_here; (with_reducible show wpAny _ _ (subscriptTail _ _ (Value.ref _) (Value.int _ _)) _ _ _); k_dflt (refine' tup9B (by assumption) (by exact mem9s (by k_asm) (by repeat (first | assumption | refine immTail ?_)) (by k_asm) (by k_asm)) (by decide) (by decide) (by rfl) (by rfl) ?_ (by with_unfolding_all rfl); k_whole))
  k_with "call builtin:list.pop" => (k_here; (with_reducible show wpAny _ _ (call (Value.builtin _) [Value.ref _]) _ _ _); k_dflt (refine' pop_lst (by k_asm) (by k_asm) (by k_upd) (by first | omega | (dsimp only; omega)) ?_; k_whole); intro h' F' N'; (try k_sweep))
  k_with "UnrEnd" => (refine unrLed (by k_asm) (by k_asm) (by assumption) ?_)
  k_with "k_mem" => first | with_reducible assumption | (refine memOf ?_; with_reducible assumption)
  k_with "k_all" => assumption
  k_with "call builtin:len" => (k_here; (with_reducible show wpAny _ _ (call (Value.builtin "len") [Value.ref _]) _ _ _); k_dflt (refine' len_lst (by k_asm) (by k_mem) (by (first | omega | (simp only [List.length_append, List.length_cons, List.length_nil]; omega))) ?_; k_whole); intro t' tk'; (try simp only [List.length_append, List.length_cons, List.length_nil]))
  k_with "setItem ref" => (k_here; (with_reducible show wpAny _ _ (setItem (Value.ref _) (Value.int _ _) _) _ _ _); k_dflt (refine' set_lst (by k_asm) (by k_asm) (by k_upd) (by omega) (by (first | omega | (simp only [List.length_append, List.length_cons, List.length_nil]; omega))) (by (first | omega | (simp only [List.length_append, List.length_cons, List.length_nil]; omega))) ?_; k_whole); intro h' F' N'; (try k_sweep))
  k_with "call builtin:list.append" => (k_here; (with_reducible show wpAny _ _ (call (Value.builtin _) [Value.ref _, _]) _ _ _); k_dflt (refine' append_lst (by k_asm) (by k_asm) (by k_upd) (by (first | omega | (simp only [List.length_append, List.length_cons, List.length_nil]; omega))) ?_; k_whole); intro h' F' N'; (try k_sweep))
  trivial
theorem setEnd {α : Type} {l : List α} {e d : α} {n : Int} (h : n = l.length) : (l ++ [e]).set n.toNat d = l ++ [d] := by
  subst h
  rw [show ((l.length : Int)).toNat = l.length by omega, List.set_append_right _ _ (Nat.le_refl _), Nat.sub_self]; rfl
theorem setEnd2 {α : Type} {l : List α} {e f d : α} {n : Int} (h : n = l.length + 1) : (l ++ [e] ++ [f]).set n.toNat d = l ++ [e] ++ [d] := setEnd (by rw [h, List.length_append, List.length_singleton]; omega)
theorem set_x_grow (B : Below A₀ base outer h₀) (F : Fr h₀ L s.heap m) (X : (hd.heap_39 w.params).In h₀) (N : News h₀ L s.heap (Led a k c σ rest)) (T : TopF mean mg mb h₀) (hk : cs.kind = .function) (hdp : dp + 1 < recursionLimit) (hun : un + 108 < cLine)
    (R : Rel k imm c σ) (zH : σ.hp.length ≤ 4000) (zS : σ.sk.length ≤ 4000) (zT : σ.tr.length ≤ 4000) (zX : σ.x.length ≤ 100) (hO : Off a rest) (hA : Ord a) (hI : ∀ p ∈ imm, p ∈ rest) {n : Int} {tn : Tok} {v : Value} {d : Dat} (h0 : n = σ.x.length) (hv : DatIn (KV ++ imm) v d)
    (ret : ∀ c' h' tk', Fr h₀ L h' m → News h₀ L h' (Led a k c' { σ with x := σ.x ++ [d] } rest) → Rel k imm c' { σ with x := σ.x ++ [d] } → Q .none { s with heap := h', toks := tk' }) :
    wpAny (model prog w) (ktrTop dp un gd cn cs L ca ccd cl outer) (call (.ref 391) [.ref a.m, .int n tn, v]) Q E s := by
  obtain ⟨tp, tcp, te, tb, tb0, thb, tbb, vH, nH, vS, nS, vT, nT, vX, nX⟩ := c
  have dH := R.h; have dS := R.s; have dT := R.t; have dX := R.x
  have lH := dH.length; have lS := dS.length; have lT := dT.length; have lX := dX.length
  rw [List.length_map] at lT
  have hA' := hA
  obtain ⟨o1, o2, o3, o4, o5, o6, o7⟩ := id hA
  dsimp only at dH dS dT dX lH lS lT lX
  dsimp only [Led] at N
  refine wpAny_call ?_
  k_dflt ktr_enter
  k_steps
  all_goals ((rename Fr h₀ _ _ _ => qF); (rename News h₀ _ _ _ => qN); exact ret ⟨_, _, _, _, _, _, _, _, _, _, _, _, _, _, _⟩ _ _ qF qN ⟨dH, dS, dT, setEnd (l := σ.x) (e := cell 5 0) h0 ▸ datSet (dX.append (.one voidIn)) hv _, R.c⟩)

theorem set_x_grow2 (B : Below A₀ base outer h₀) (F : Fr h₀ L s.heap m) (X : (hd.heap_39 w.params).In h₀) (N : News h₀ L s.heap (Led a k c σ rest)) (T : TopF mean mg mb h₀) (hk : cs.kind = .function) (hdp : dp + 1 < recursionLimit) (hun : un + 108 < cLine)
    (R : Rel k imm c σ) (zH : σ.hp.length ≤ 4000) (zS : σ.sk.length ≤ 4000) (zT : σ.tr.length ≤ 4000) (zX : σ.x.length ≤ 100) (hO : Off a rest) (hA : Ord a) (hI : ∀ p ∈ imm, p ∈ rest) {n : Int} {tn : Tok} {v : Value} {d : Dat} (h0 : n = σ.x.length + 1) (hv : DatIn (KV ++ imm) v d)
    (ret : ∀ c' h' tk', Fr h₀ L h' m → News h₀ L h' (Led a k c' { σ with x := σ.x ++ [cell 5 0] ++ [d] } rest) → Rel k imm c' { σ with x := σ.x ++ [cell 5 0] ++ [d] } → Q .none { s with heap := h', toks := tk' }) :
    wpAny (model prog w) (ktrTop dp un gd cn cs L ca ccd cl outer) (call (.ref 391) [.ref a.m, .int n tn, v]) Q E s := by
  obtain ⟨tp, tcp, te, tb, tb0, thb, tbb, vH, nH, vS, nS, vT, nT, vX, nX⟩ := c
  have dH := R.h; have dS := R.s; have dT := R.t; have dX := R.x
  have lH := dH.length; have lS := dS.length; have lT := dT.length; have lX := dX.length
  rw [List.length_map] at lT
  have hA' := hA
  obtain ⟨o1, o2, o3, o4, o5, o6, o7⟩ := id hA
  dsimp only at dH dS dT dX lH lS lT lX
  dsimp only [Led] at N
  refine wpAny_call ?_
  k_dflt ktr_enter
  k_steps
  all_goals ((rename Fr h₀ _ _ _ => qF); (rename News h₀ _ _ _ => qN); exact ret ⟨_, _, _, _, _, _, _, _, _, _, _, _, _, _, _⟩ _ _ qF qN ⟨dH, dS, dT, setEnd2 (l := σ.x) (e := cell 5 0) (f := cell 5 0) h0 ▸ datSet ((dX.append (.one voidIn)).append (.one voidIn)) hv _, R.c⟩)

theorem kw_C21_1 : True := by
  k_with "call ref" => (k_here; (with_reducible show wpAny _ _ (call (Value.ref _) [_, _, _]) _ _ _); k_dflt (first | (refine' set_x_grow (by k_asm) (by k_asm) (by k_asm) (by first | k_asm | (refine newsSub (by assumption) ?_; first | exact ledSwap | exact ledSwap2)) (by k_asm) (by rfl) (by ktr_room) (by ktr_units) (by assumption) (by (first | assumption | omega)) (by (first | assumption | omega)) (by (first | assumption | omega)) (by (first | assumption | (dsimp only; omega))) (by first | assumption | exact offPot (by assumption) (by assumption) (by assumption) | exact offApp (Adds.off (by assumption)) (by assumption) | exact offCons (by assumption) (by omega) (by omega) (by omega) (by omega) (by omega) (by omega) (by omega) (by omega)) (by assumption) (by first | assumption | exact immPot (by assumption) | exact immTail (by assumption) | exact immApp (by assumption)) (by (dsimp only; omega)) (by assumption) ?_; k_whole)); intro c' h' tk' F' N' R'; (try dsimp only at N'); (try dsimp only at R'); (try k_sweep))
  trivial
theorem set_arguments_spec (B : Below A₀ base outer h₀) (F : Fr h₀ L s.heap m) (X : (hd.heap_39 w.params).In h₀) (N : News h₀ L s.heap (Led a k c σ rest)) (T : TopF mean mg mb h₀) (hk : cs.kind = .function) (hdp : dp + 2 < recursionLimit) (hun : un + 116 < cLine)
    (R : Rel k imm c σ) (zH : σ.hp.length ≤ 4000) (zS : σ.sk.length ≤ 4000) (zT : σ.tr.length ≤ 4000) (zX : σ.x.length ≤ 100) (hO : Off a rest) (hA : Ord a) (hI : ∀ p ∈ imm, p ∈ rest) {lx : Addr} {ln : Nat} {vs : List Value} {ds : List Dat} (hm : (lx, listOf vs.toArray ln) ∈ rest) (hd : DatAll (KV ++ imm) vs ds) (h1 : σ.x.length = 1) (h9 : ds.length ≤ 20)
    (ret : ∀ c' h' tk', Fr h₀ L h' m → News h₀ L h' (Led a k c' { σ with x := σ.x ++ ds } rest) → Rel k imm c' { σ with x := σ.x ++ ds } → Q .none { s with heap := h', toks := tk' }) :
    wpAny (model prog w) (ktrTop dp un gd cn cs L ca ccd cl outer) (call (.ref 398) [.ref a.m, .ref lx]) Q E s := by
  obtain ⟨o1, o2, o3, o4, o5, o6, o7⟩ := id hA
  have q0 := hd.length
  have mkf : MarkF := ⟨⟩
  refine wpAny_call ?_
  k_dflt ktr_enter
  k_steps
  refine Stop.out ?_
  (rename Fr _ _ _ _ => F1); (rename News _ _ _ _ => N1)
  refine' led_list (fun i m₁ c₁ σ₁ => σ₁ = { σ with x := σ.x ++ ds.take i } ∧ Rel k imm c₁ σ₁ ∧ ∃ z t3, z = (i : Int) ∧ ∀ p ∈ [(Str.ofString "self", Value.ref a.m), (Str.ofString "number", Value.int z t3)], m₁ p.1 = some p.2) rfl hm ?fF ?fN ?_ ?_ ?_
  case fF => exact F1
  case fN => exact N1
  · exact ⟨by simp, R, 0, _, by simp, allC rfl (all1 rfl)⟩
  · clear F1 N1
    rintro i v m₁ c₁ σ₁ h tk own hv hown ⟨rfl, R1, z, t3, rfl, hm1⟩ F1 N1
    rw [knownL hm1] at F1
    obtain ⟨d, hd1, hv1⟩ := datGet hd hv
    have hi : i < ds.length := (List.getElem?_eq_some_iff.mp hd1).1
    have hl : (ds.take i).length = i := by rw [List.length_take]; omega
    have hl2 : (σ.x ++ ds.take i).length = 1 + i := by rw [List.length_append, hl, h1]
    have hO := offApp hO hown
    have hI' : ∀ p ∈ imm, p ∈ rest ++ own := fun p hp => List.mem_append.mpr (.inl (hI p hp))
    k_steps
    (rename Fr _ _ _ _ => F2); (rename News _ _ _ _ => N2); (rename Rel _ _ _ _ => R2)
    refine ⟨_, _, _, _, _, rfl, F2, N2, ?_, R2, _, _, ?_, allC rfl (all1 rfl)⟩
    · rw [dTakeS hd1, List.append_assoc]
    · omega
  · rintro m₁ c₁ σ₁ h tk ⟨rfl, R1, z, t3, rfl, hm1⟩ F1 N1
    rw [knownL hm1] at F1
    rw [q0, List.take_length] at R1 N1
    k_steps
    all_goals ((rename Fr h₀ _ _ _ => qF); (rename News h₀ _ _ _ => qN); (rename Rel _ _ _ _ => qR); exact ret _ _ _ qF qN qR)

end
end Mine
namespace Mine
theorem kw0_C22 : True := by
  k_with_none
  w_top off
  trivial
theorem fill22 : PySem.Challenge.rw_sa0158_01 = PySem.Challenge.rw_sa0158_01 ∧ hd.heap_39 = hd.heap_39 := by k_fill; exact ⟨rfl, rfl⟩
section
variable {prog : Program} {w : World} {mean : ExcName → Option Value} {mg mb : Str → Option Value} {dp un : Nat} {gd : Option (List Code)} {cn : Str} {cs : Scope} {ca : Addr} {ccd : Value} {cl : List (Str × Addr)} {outer : List Env} {A₀ : Around} {base h₀ : Heap} {L : Addr} {m : Str → Option Value} {s : Shared} {Q E : Value → Shared → Prop}
  {a : Adr} {k : Kon} {c : Con} {σ : W} {imm rest : List (Addr × Obj)}
theorem kw_C22_0 : True := by
  k_with_none
  k_with "k_upd" => first | exact upd_sk (by assumption) (by assumption) | exact upd_hp (by assumption) (by assumption) | exact upd_tr (by assumption) (by assumption) | exact upd_xs (by assumption) (by assumption) | exact upd_dm (by assumption) (by assumption) | exact upd_ds (by assumption) (by assumption) | exact upd_pt (by assumption) (by assumption) (by assumption) (by assumption) | exact upd_nu (by assumption) (by assumption) (by assumption) (by assumption) | exact upd_kl (by assumption) (by assumption) (by assumption) (by assumption) (by assumption)
  k_with "k_ne" => (refine neN ?_; (try dsimp only); first | exact Nat.ne_of_gt (by with_reducible assumption) | exact Nat.ne_of_lt (by with_reducible assumption) | exact Nat.ne_of_gt (And.left (by with_reducible assumption)) | exact Nat.ne_of_gt (cj1 (by with_reducible assumption)) | exact Nat.ne_of_gt (cj2 (by with_reducible assumption)) | exact Nat.ne_of_gt (cj3 (by with_reducible assumption)) | exact Nat.ne_of_gt (cj4 (by with_reducible assumption)) | exact Nat.ne_of_gt (cj5 (by with_reducible assumption)) | exact Nat.ne_of_gt (cj6 (by with_reducible assumption)) | exact Nat.ne_of_gt (cj7 (by with_reducible assumption)) | exact Nat.ne_of_gt (cj8 (by with_reducible assumption)) | exact Nat.ne_of_gt (cj9 (by with_reducible assumption)) | exact Nat.ne_of_gt (cj10 (by with_reducible assumption)) | exact Nat.ne_of_gt (cj11 (by with_reducible assumption)) | exact Nat.ne_of_gt (cj12 (by with_reducible assumption)) | exact Nat.ne_of_gt (ce1 (by with_reducible assumption)) | exact Nat.ne_of_gt (ce2 (by with_reducible assumption)) | exact Nat.ne_of_gt (ce3 (by with_reducible assumption)) | exact Nat.ne_of_gt (ce4 (by with_reducible assumption)) | exact Nat.ne_of_gt (ce5 (by with_reducible assumption)) | exact Nat.ne_of_gt (ce6 (by with_reducible assumption)) | exact Nat.ne_of_gt (ce7 (by with_reducible assumption)) | exact Nat.ne_of_gt (ce8 (by with_reducible assumption)) | exact Nat.ne_of_gt (ce9 (by with_reducible assumption)) | exact Nat.ne_of_gt (ce10 (by with_reducible assumption)) | exact Nat.ne_of_gt (ce11 (by with_reducible assumption)) | exact Nat.ne_of_gt (ce12 (by with_reducible assumption)) | exact Nat.ne_of_lt (And.left (by with_reducible assumption)) | exact Nat.ne_of_lt (cj1 (by with_reducible assumption)) | exact Nat.ne_of_lt (cj2 (by with_reducible assumption)) | exact Nat.ne_of_lt (cj3 (by with_reducible assumption)) | exact Nat.ne_of_lt (cj4 (by with_reducible assumption)) | exact Nat.ne_of_lt (cj5 (by with_reducible assumption)) | exact Nat.ne_of_lt (cj6 (by with_reducible assumption)) | exact Nat.ne_of_lt (cj7 (by with_reducible assumption)) | exact Nat.ne_of_lt (cj8 (by with_reducible assumption)) | exact Nat.ne_of_lt (cj9 (by with_reducible assumption)) | exact Nat.ne_of_lt (cj10 (by with_reducible assumption)) | exact Nat.ne_of_lt (cj11 (by with_reducible assumption)) | exact Nat.ne_of_lt (cj12 (by with_reducible assumption)) | exact Nat.ne_of_lt (ce1 (by with_reducible assumption)) | exact Nat.ne_of_lt (ce2 (by with_reducible assumption)) | exact Nat.ne_of_lt (ce3 (by with_reducible assumption)) | exact Nat.ne_of_lt (ce4 (by with_reducible assumption)) | exact Nat.ne_of_lt (ce5 (by with_reducible assumption)) | exact Nat.ne_of_lt (ce6 (by with_reducible assumption)) | exact Nat.ne_of_lt (ce7 (by with_reducible assumption)) | exact Nat.ne_of_lt (ce8 (by with_reducible assumption)) | exact Nat.ne_of_lt (ce9 (by with_reducible assumption)) | exact Nat.ne_of_lt (ce10 (by with_reducible assumption)) | exact Nat.ne_of_lt (ce11 (by with_reducible assumption)) | exact Nat.ne_of_lt (ce12 (by with_reducible assumption)))
  k_with "k_all" => first | exact Off.m (by assumption) | exact Off.dm (by assumption) | exact Off.st (by assumption) | exact Off.ds (by assumption) | exact Off.hp (by assumption) | exact Off.sk (by assumption) | exact Off.tr (by assumption) | exact Off.xs (by assumption)
  k_with "call builtin:len" => (k_here; (with_reducible show wpAny _ _ (call (Value.builtin "len") [Value.ref _]) _ _ _); k_dflt (refine' len_lst (by k_asm) (by k_mem) (by first | omega | (dsimp only; omega)) ?_; k_whole); intro t' tk')
  k_with "subscriptTail" => (k_here; (with_reducible show wpAny _ _ (subscriptTail _ _ (Value.ref _) (Value.int _ _)) _ _ _); k_dflt (refine' item_lst (by k_asm) (by k_mem) (by first | assumption | exact Rel.s (by assumption) | exact Rel.h (by assumption) | exact Rel.x (by assumption)) (by first | assumption | exact At.cast (by assumption) (by omega)) (by first | omega | (dsimp only; omega)) ?_ (by with_unfolding_all rfl); k_whole); intro v' hv')
  k_with "subscriptTail" => (k_here; (with_reducible show wpAny _ _ (subscriptTail _ _ (Value.ref _) (Value.int _ _)) _ _ _); k_dflt (refine' itemI_lst (by k_asm) (by k_mem) (by first | assumption | exact Rel.s (by assumption) | exact Rel.h (by assumption) | exact Rel.x (by assumption)) (by first | assumption | exact At.cast (by assumption) (by omega)) (by first | omega | (dsimp only; omega)) ?_ (by with_unfolding_all rfl); k_whole); intro t')
  k_with "setItem ref" => (k_here; (with_reducible show wpAny _ _ (setItem (Value.ref _) (Value.int _ _) _) _ _ _); k_dflt (refine' set_lst (by k_asm) (by k_asm) (by k_upd) (by omega) (by omega) (by first | omega | (dsimp only; omega)) ?_; k_whole); intro h' F' N'; (try k_sweep))
  k_with "call builtin:list.append" => (k_here; (with_reducible show wpAny _ _ (call (Value.builtin _) [Value.ref _, _]) _ _ _); k_dflt (refine' append_lst (by k_asm) (by k_asm) (by k_upd) (by first | omega | (dsimp only; omega)) ?_; k_whole); intro h' F' N'; (try k_sweep))
  k_with "WhlIf" => first | refine WhlIf.yes (decide_eq_true (by omega)) ?_ | refine WhlIf.no (decide_eq_false (by omega)) ?_
  k_with "exec While Compare cons nil" => ((with_reducible rename MarkW => mk'); clear mk'; refine Stop.by ?_)
  k_with "exec For Name Name cons nil" => ((with_reducible rename MarkF => mk'); (rename Fr _ _ _ _ => lF'); (with_unfolding_all refine' For_invVF lF' (by exact rfl) (by exact rfl) ?_; k_whole))
  k_with "exec For Name Call cons nil" => ((with_reducible rename MarkF => mk'); (rename Fr _ _ _ _ => lF'); (with_unfolding_all refine' For_invVF lF' (by exact rfl) (by exact rfl) ?_; k_whole))
  k_with "pyIter ref" => ((with_reducible rename MarkF => mk'); clear mk'; refine Stop.by ?_)
  k_with "exec While Constant" => (k_here; k_dflt (refine whl_start 100 ?_))
  k_with "compareOp Eq" => (k_here; k_dflt (refine' eq_datB (by assumption) (by assumption) (by exact mem9s (by k_asm) (by repeat (first | assumption | refine immTail ?_)) (by k_asm) (by k_asm)) (by first | rfl | assumption) (by first | rfl | assumption) (by ktr_units) ?_; k_whole))
  k_with "subscriptTail" => (k_here; (with_reducible show wpAny _ _ (subscriptTail _ _ (Value.ref _) (Value.int _ _)) _ _ _); k_dflt (refine' tup9B (by assumption) (by exact mem9s (by k_asm) (by repeat (first | assumption | refine immTail ?_)) (by k_asm) (by k_asm)) (by decide) (by decide) (by rfl) (by rfl) ?_ (by with_unfolding_all rfl); k_whole))
  k_with "call builtin:list.pop" => (k_here; (with_reducible show wpAny _ _ (call (Value.builtin _) [Value.ref _]) _ _ _); k_dflt (refine' pop_lst (by k_asm) (by k_asm) (by k_upd) (by first | omega | (dsimp only; omega)) ?_; k_whole); intro h' F' N'; (try k_sweep))
  k_with "UnrEnd" => (refine unrLed (by k_asm) (by k_asm) (by assumption) ?_)
  k_with "k_mem" => first | with_reducible assumption | (refine memOf ?_; with_reducible assumption)
  k_with "k_all" => assumption
  trivial
theorem push_start (B : Below A₀ base outer h₀) (F : Fr h₀ L s.heap m) (X : (hd.heap_39 w.params).In h₀) (N : News h₀ L s.heap (Led a k c σ rest)) (T : TopF mean mg mb h₀) (hk : cs.kind = .function) (hdp : dp + 1 < recursionLimit) (hun : un + 108 < cLine)
    (R : Rel k imm c σ) (zH : σ.hp.length ≤ 4000) (zS : σ.sk.length ≤ 4000) (zT : σ.tr.length ≤ 4000) (zX : σ.x.length ≤ 100) (hO : Off a rest) (hA : Ord a) (hI : ∀ p ∈ imm, p ∈ rest) {v : Value} {d : Dat} (hv : DatIn (KV ++ imm) v d)
    (ret : ∀ c' t h' tk', Fr h₀ L h' m → News h₀ L h' (Led a k c' { σ with hp := σ.hp ++ [d] } rest) → Rel k imm c' { σ with hp := σ.hp ++ [d] } → Q (.int (σ.hp.length : Int) t) { s with heap := h', toks := tk' }) :
    wpAny (model prog w) (ktrTop dp un gd cn cs L ca ccd cl outer) (call (.ref 97) [.ref a.st, v]) Q E s := by
  obtain ⟨tp, tcp, te, tb, tb0, thb, tbb, vH, nH, vS, nS, vT, nT, vX, nX⟩ := c
  have dH := R.h; have dS := R.s; have dT := R.t; have dX := R.x
  have lH := dH.length; have lS := dS.length; have lT := dT.length; have lX := dX.length
  rw [List.length_map] at lT
  have hA' := hA
  obtain ⟨o1, o2, o3, o4, o5, o6, o7⟩ := id hA
  dsimp only at dH dS dT dX lH lS lT lX
  dsimp only [Led] at N
  refine wpAny_call ?_
  k_dflt ktr_enter
  k_steps
  all_goals rw [← lH] at ret
  all_goals ((rename Fr h₀ _ _ _ => qF); (rename News h₀ _ _ _ => qN); exact ret ⟨_, _, _, _, _, _, _, _, _, _, _, _, _, _, _⟩ _ _ _ qF qN ⟨dH.append (.one hv), dS, dT, dX, R.c⟩)

theorem new_var_start (B : Below A₀ base outer h₀) (F : Fr h₀ L s.heap m) (X : (hd.heap_39 w.params).In h₀) (N : News h₀ L s.heap (Led a k c σ rest)) (T : TopF mean mg mb h₀) (hk : cs.kind = .function) (hdp : dp + 2 < recursionLimit) (hun : un + 116 < cLine)
    (R : Rel k imm c σ) (zH : σ.hp.length ≤ 4000) (zS : σ.sk.length ≤ 4000) (zT : σ.tr.length ≤ 4000) (zX : σ.x.length ≤ 100) (hO : Off a rest) (hA : Ord a) (hI : ∀ p ∈ imm, p ∈ rest)
    (ret : ∀ c' t t1 t2 h' tk', Fr h₀ L h' m → News h₀ L h' (Led a k c' { σ with hp := σ.hp ++ [cell 0 σ.hp.length] } ((t, tupO 0 σ.hp.length t1 t2 0) :: rest)) → Rel k ((t, tupO 0 σ.hp.length t1 t2 0) :: imm) c' { σ with hp := σ.hp ++ [cell 0 σ.hp.length] } → Adds a rest [(t, tupO 0 σ.hp.length t1 t2 0)] → Q (.ref t) { s with heap := h', toks := tk' }) :
    wpAny (model prog w) (ktrTop dp un gd cn cs L ca ccd cl outer) (call (.ref 104) [.ref a.st]) Q E s := by
  obtain ⟨tp, tcp, te, tb, tb0, thb, tbb, vH, nH, vS, nS, vT, nT, vX, nX⟩ := c
  have dH := R.h; have dS := R.s; have dT := R.t; have dX := R.x
  have lH := dH.length; have lS := dS.length; have lT := dT.length; have lX := dX.length
  rw [List.length_map] at lT
  have hA' := hA
  obtain ⟨o1, o2, o3, o4, o5, o6, o7⟩ := id hA
  dsimp only at dH dS dT dX lH lS lT lX
  dsimp only [Led] at N
  refine wpAny_call ?_
  k_dflt ktr_enter
  k_steps
  (rename Fr _ _ _ _ => F1); (rename News _ _ _ _ => N1)
  have hN := fun o => addsOne (o := o) (rest := rest) (k := k) (c := ⟨tp, tcp, te, tb, tb0, thb, tbb, vH, nH, vS, nS, vT, nT, vX, nX⟩) (σ := σ) (allLt_all (by assumption))
  rw [lH] at N1
  refine push_start (imm := (_, tupO 0 (σ.hp.length : Int) _ _ 0) :: imm) (rest := (_, tupO 0 (σ.hp.length : Int) _ _ 0) :: rest) (c := ⟨tp, tcp, te, tb, tb0, thb, tbb, vH, nH, vS, nS, vT, nT, vX, nX⟩) (d := cell 0 σ.hp.length) (by k_asm) F1 (by k_asm) (newsSub N1 (by kqd_sub)) (by k_asm) rfl (by ktr_room) (by ktr_units) (relMono R (fun p hp => List.Mem.tail _ hp)) zH zS zT zX (offApp (hN _).off hO) hA' (immCons hI) (DatIn.tuple (List.mem_append.mpr (.inr (List.Mem.head _))) (.cons (.int _ _) (.cons (.int _ _) .nil))) ?_
  intro c' t' h' tk' F' N' R'
  k_steps
  all_goals ((rename Fr h₀ _ _ _ => qF); (rename News h₀ _ _ _ => qN); exact ret _ _ _ _ _ _ qF qN R' (hN _))

end
abbrev σ0 : W := ⟨0, 0, -1, -1, -1, 0, 0, [], [], [], [cell 5 0]⟩
def AreasPost (g : Heap) (L : Addr) (m : Str → Option Value) (pt nu : Addr) (s : Shared) (v : Value) (s' : Shared) : Prop :=
  Stop (∃ (a : Adr) (k : Kon) (c : Con) (q : PotC) (imm : List (Addr × Obj)), v = .ref a.m ∧ Fr g L s'.heap m ∧ News g L s'.heap (Led a k c σ0 (potL pt nu q imm)) ∧ Rel k imm c σ0 ∧ Ord a ∧ PotA a pt nu imm ∧ Off a imm ∧ PotOk q ∧ s'.gens = s.gens ∧ s'.os = s.os)
abbrev callT (j : Int) (a b d : Tok) : Obj := { cls := .type "tuple", data := .seq #[Value.str (Str.ofString "call") a, Value.int 0 b, Value.int j d] 0 }
theorem mkLed {g h : Heap} {L : Addr} {m : Str → Option Value} {news : List (Addr × Obj)} {pt nu ac t1 t2 t3 dm mm ds st hp sk tr xs : Addr} {ti tp tcp te tb tb0 thb tbb : Tok} {a1 a2 a3 b1 b2 b3 c1 c2 c3 : Tok} {vs : List Value} {nn : Nat} {v2 v3 v4 v12 v13 v14 v15 v16 v17 : Value}
  {g0 g1 g2 g3 g4 g5 g6 g7 g8 g9 g10 g11 g12 g13 g14 g15 g16 g17 : Int} {s0 s1 s2 s3 s4 s5 s6 s7 s8 s9 s10 s11 s12 s13 s14 s15 s16 s17 : Tok} {j0 j1 j2 j3 j4 j5 j6 : Int} {u0 u1 u2 u3 u4 u5 u6 u7 : Tok}
  (F : Fr g L h m) (N : News g L h news)
  (q1 : (mm, instObj 520 dm) ∈ news) (q2 : (dm, dictOf [ent g0 "symbols" s0 .none, ent g1 "code" s1 (.ref ac), ent g2 "max_heap" s2 v2, ent g3 "occurs" s3 v3, ent g4 "max_bits" s4 v4, ent g5 "store" s5 (.ref st), ent g6 "x" s6 (.ref xs), ent g7 "p" s7 (.int 0 tp), ent g8 "cp" s8 (.int 0 tcp), ent g9 "e" s9 (.int (-1) te), ent g10 "b" s10 (.int (-1) tb), ent g11 "b0" s11 (.int (-1) tb0), ent g12 "mode" s12 v12, ent g13 "s" s13 v13, ent g14 "guard" s14 v14, ent g15 "roots" s15 v15, ent g16 "bags" s16 v16, ent g17 "collect_wanted" s17 v17] 18) ∈ news) (q3 : (st, instObj 276 ds) ∈ news) (q4 : (ds, dictOf [ent j0 "symbols" u0 .none, ent j1 "max_heap" u1 (.int 5000 u7), ent j2 "heap" u2 (.ref hp), ent j3 "stack" u3 (.ref sk), ent j4 "trail" u4 (.ref tr), ent j5 "hb" u5 (.int 0 thb), ent j6 "bb" u6 (.int 0 tbb)] 7) ∈ news)
  (q5 : (hp, listOf #[] 0) ∈ news) (q6 : (sk, listOf #[] 0) ∈ news) (q7 : (tr, listOf #[] 0) ∈ news) (q8 : (xs, listOf #[Value.ref 75] 0) ∈ news)
  (q9 : (pt, listOf #[Value.int 0 ti, Value.ref nu] 0) ∈ news) (q10 : (nu, listOf vs.toArray nn) ∈ news) (q11 : (ac, listOf #[Value.ref t1, Value.ref t2, Value.ref t3] 0) ∈ news)
  (q12 : (t1, callT 0 a1 a2 a3) ∈ news) (q13 : (t2, callT 1 b1 b2 b3) ∈ news) (q14 : (t3, callT 2 c1 c2 c3) ∈ news)
  (o1 : @LT.lt Nat _ dm mm) (o2 : @LT.lt Nat _ mm ds) (o3 : @LT.lt Nat _ ds st) (o4 : @LT.lt Nat _ st hp) (o5 : @LT.lt Nat _ hp sk) (o6 : @LT.lt Nat _ sk tr) (o7 : @LT.lt Nat _ tr xs)
  (r1 : @LT.lt Nat _ nu pt) (r2 : @LT.lt Nat _ pt t1) (r3 : @LT.lt Nat _ t1 t2) (r4 : @LT.lt Nat _ t2 t3) (r5 : @LT.lt Nat _ t3 ac) (r6 : @LT.lt Nat _ ac dm) {v : Value} {s s' : Shared} (hv : v = .ref mm) (hs : s'.heap = h) {ns : List Int} (dV : DatAll [] vs (ns.map Dat.int)) (n0 : 0 < ns.length) (n1 : ns.length ≤ 100) (hG : s'.gens = s.gens) (hOs : s'.os = s.os) :
  AreasPost g L m pt nu s v s' := by
  subst hs hv
  let a : Adr := ⟨mm, dm, st, ds, hp, sk, tr, xs⟩
  let k : Kon := ⟨ac, fun n => match n with | 0 => g0 | 1 => g1 | 2 => g2 | 3 => g3 | 4 => g4 | 5 => g5 | 6 => g6 | 7 => g7 | 8 => g8 | 9 => g9 | 10 => g10 | 11 => g11 | 12 => g12 | 13 => g13 | 14 => g14 | 15 => g15 | 16 => g16 | 17 => g17 | _ => 0, fun n => match n with | 0 => s0 | 1 => s1 | 2 => s2 | 3 => s3 | 4 => s4 | 5 => s5 | 6 => s6 | 7 => s7 | 8 => s8 | 9 => s9 | 10 => s10 | 11 => s11 | 12 => s12 | 13 => s13 | 14 => s14 | 15 => s15 | 16 => s16 | 17 => s17 | _ => 0, fun n => match n with | 2 => v2 | 3 => v3 | 4 => v4 | 12 => v12 | 13 => v13 | 14 => v14 | 15 => v15 | 16 => v16 | 17 => v17 | _ => .none, fun n => match n with | 0 => j0 | 1 => j1 | 2 => j2 | 3 => j3 | 4 => j4 | 5 => j5 | 6 => j6 | _ => 0, fun n => match n with | 0 => u0 | 1 => u1 | 2 => u2 | 3 => u3 | 4 => u4 | 5 => u5 | 6 => u6 | 7 => u7 | _ => 0, fun _ => .none⟩
  let c : Con := ⟨tp, tcp, te, tb, tb0, thb, tbb, [], 0, [], 0, [], 0, [.ref 75], 0⟩
  have off : Off a [(ac, listOf #[Value.ref t1, Value.ref t2, Value.ref t3] 0), (t1, callT 0 a1 a2 a3), (t2, callT 1 b1 b2 b3), (t3, callT 2 c1 c2 c3)] := by
    have hA : Ord a := ⟨o1, o2, o3, o4, o5, o6, o7⟩
    exact offLow hA (offLow hA (offLow hA (offLow hA offNil (Nat.lt_trans r5 r6)) (Nat.lt_trans r4 (Nat.lt_trans r5 r6))) (Nat.lt_trans r3 (Nat.lt_trans r4 (Nat.lt_trans r5 r6)))) r6
  refine ⟨a, k, c, ⟨0, ti, 0, vs, nn⟩, [(ac, listOf #[Value.ref t1, Value.ref t2, Value.ref t3] 0), (t1, callT 0 a1 a2 a3), (t2, callT 1 b1 b2 b3), (t3, callT 2 c1 c2 c3)], rfl, F, ?_, ?_, ?_, ?_, off, ⟨ns, dV, n0, n1⟩, hG, hOs⟩
  · refine newsSub N (allC q1 (allC q2 (allC q3 (allC q4 (allC q5 (allC q6 (allC q7 (allC q8 (allC q9 (allC q10 (allC q11 (allC q12 (allC q13 (all1 q14))))))))))))))
  · refine ⟨.nil, .nil, .nil, .cons (voidIn) .nil, ?_⟩
    refine DatIn.list (vs := [.ref t1, .ref t2, .ref t3]) (n := 0) (List.Mem.tail _ (List.Mem.head _)) (.cons ?_ (.cons ?_ (.cons ?_ .nil)))
    · exact DatIn.tuple (vs := [Value.str (Str.ofString "call") a1, Value.int 0 a2, Value.int 0 a3]) (n := 0) (List.Mem.tail _ (List.Mem.tail _ (List.Mem.head _))) (.cons (.str _ _) (.cons (.int _ _) (.cons (.int _ _) .nil)))
    · exact DatIn.tuple (vs := [Value.str (Str.ofString "call") b1, Value.int 0 b2, Value.int 1 b3]) (n := 0) (List.Mem.tail _ (List.Mem.tail _ (List.Mem.tail _ (List.Mem.head _)))) (.cons (.str _ _) (.cons (.int _ _) (.cons (.int _ _) .nil)))
    · exact DatIn.tuple (vs := [Value.str (Str.ofString "call") c1, Value.int 0 c2, Value.int 2 c3]) (n := 0) (List.Mem.tail _ (List.Mem.tail _ (List.Mem.tail _ (List.Mem.tail _ (List.Mem.head _))))) (.cons (.str _ _) (.cons (.int _ _) (.cons (.int _ _) .nil)))
  · exact ⟨o1, o2, o3, o4, o5, o6, o7⟩
  · refine ⟨r1, by dsimp only [a]; omega, ?_, ?_⟩
    · have w1 : @LT.lt Nat _ pt t2 := Nat.lt_trans r2 r3
      have w2 := Nat.lt_trans w1 r4
      exact allC (Nat.ne_of_gt (Nat.lt_trans w2 r5)) (allC (Nat.ne_of_gt r2) (allC (Nat.ne_of_gt w1) (all1 (Nat.ne_of_gt w2))))
    · have w0 : @LT.lt Nat _ nu t1 := Nat.lt_trans r1 r2
      have w1 := Nat.lt_trans w0 r3
      have w2 := Nat.lt_trans w1 r4
      exact allC (Nat.ne_of_gt (Nat.lt_trans w2 r5)) (allC (Nat.ne_of_gt w0) (allC (Nat.ne_of_gt w1) (all1 (Nat.ne_of_gt w2))))
end Mine
namespace Mine
theorem kw0_Plain : True := by
  k_with_none
  w_top off
  trivial
/-- a choice point as plain data, and the law's row of it -/
structure Ch where
  en : En
  ds : List Dat
  e : Int
  cp : Int
  mt : Nat
  hl : Nat
  b0 : Int
  H : List Dat
  l : List (Int × Int)
abbrev ens (cs : List Ch) : List En := cs.map (·.en)
def Ch.seg (c : Ch) (pv : Int) : List Dat := .int (c.ds.length : Int) :: (c.ds ++ [.int c.e, .int c.cp, .int pv, .int c.en.alt, .int (c.mt : Int), .int (c.hl : Int), .int c.b0])
def Ch.fin (c : Ch) : Int := c.en.b + (c.ds.length : Int) + 8
abbrev Ch.snap (c : Ch) : Dat := .tuple [.list c.ds, .list c.H, .int (c.mt : Int), .int c.cp, chainD c.l]
def IsCell (d : Dat) : Prop := ∃ i j, d = cell i j
/-- the chain of environments: places and kept continuations -/
inductive EnC (S : List Dat) : Int → Int → List (Int × Int) → Prop
  | nil {cp : Int} : EnC S (-1) cp []
  | cons {e cp pe pc : Int} {l : List (Int × Int)} : 0 ≤ e → 1 ≤ cp → cp ≤ 3 → e + 1 + cp ≤ S.length → At S e (.int pe) → At S (e + 1) (.int pc) → pe < e → EnC S pe pc l → EnC S e cp ((e, pc) :: l)
structure Bk (hp : List Dat) (tr : List Int) (c : Ch) : Prop where
  len : c.H.length = c.hl
  yes : ∀ j : Nat, j < c.hl → (j : Int) ∈ tr.drop c.mt → c.H[j]? = some (cell 0 (j : Int))
  no : ∀ j : Nat, j < c.hl → ¬ (j : Int) ∈ tr.drop c.mt → c.H[j]? = hp[j]?
structure ChOk (S hp : List Dat) (tr : List Int) (pv : Int) (c : Ch) : Prop where
  b0 : 0 ≤ c.en.b
  n3 : c.ds.length ≤ 3
  en : c.en.n = (c.ds.length : Int)
  sg : ∀ (j : Nat) d, (c.seg pv)[j]? = some d → At S (c.en.b + (j : Int)) d
  ev : EnC S c.e c.cp c.l
  eb : ∀ p ∈ c.l, p.1 + 2 ≤ c.en.b
  m1 : c.mt ≤ tr.length
  h0 : 0 < c.hl
  h1 : c.hl ≤ hp.length
  tk : ∀ x ∈ tr.take c.mt, 0 ≤ x ∧ x < (c.hl : Int)
  bk : Bk hp tr c
  okd : ∀ d ∈ c.ds, IsCell d
  okH : ∀ d ∈ c.H, IsCell d
structure GoodC (S hp : List Dat) (tr : List Int) (cs : List Ch) : Prop where
  ok : ∀ (i : Nat) (c : Ch), cs[i]? = some c → ChOk S hp tr (bAt (ens cs) i) c
  ap : ∀ (i j : Nat) (c c' : Ch), i < j → cs[i]? = some c → cs[j]? = some c' → c.fin ≤ c'.en.b ∧ c.mt ≤ c'.mt ∧ c.hl ≤ c'.hl ∧ ∀ p ∈ c'.l, p.1 + 2 ≤ c.en.b ∨ c.fin ≤ p.1
def hbAt (cs : List Ch) : Nat → Int
  | 0 => 0
  | n + 1 => match cs[n]? with | some c => (c.hl : Int) | none => 0
structure Inv (σ : W) (cs : List Ch) (l : List (Int × Int)) (i : Nat) : Prop where
  b : σ.b = bAt (ens cs) cs.length
  hb : σ.hb = hbAt cs cs.length
  ev : EnC σ.sk σ.e σ.cp l
  av : ∀ c ∈ cs, ∀ p ∈ l, p.1 + 2 ≤ c.en.b ∨ c.fin ≤ p.1
  gd : GoodC σ.sk σ.hp σ.tr cs
  tr : ∀ x ∈ σ.tr, 0 ≤ x ∧ x < (σ.hp.length : Int)
  hc : ∀ d ∈ σ.hp, IsCell d
  xc : ∀ d ∈ σ.x, IsCell d
  x6 : σ.x.length = 6
  h0 : 0 < σ.hp.length
  z1 : σ.hp.length ≤ 3 + i
  z2 : σ.sk.length ≤ 20 * i
  z3 : σ.tr.length ≤ i
  z4 : l.length ≤ i
  z5 : cs.length ≤ i
  z6 : ∀ c ∈ cs, c.l.length ≤ i
-- basic facts of places
theorem atUniq {S : List Dat} {k : Int} {d e : Dat} (h : At S k d) (h' : At S k e) : d = e := by
  have := h.2.symm.trans h'.2
  exact Option.some.inj this
theorem atInt {S : List Dat} {k i j : Int} (h : At S k (.int i)) (h' : At S k (.int j)) : i = j := by
  have := atUniq h h'
  cases this; rfl
theorem atSet {S : List Dat} {k j : Int} {d v : Dat} (h : At S k d) (hj : k ≠ j) (h0 : 0 ≤ j) : At (S.set j.toNat v) k d := by
  refine ⟨h.1, ?_⟩
  have := h.1
  rw [List.getElem?_set_ne (by omega)]; exact h.2
theorem atSetSelf {S : List Dat} {j : Int} {v : Dat} (h0 : 0 ≤ j) (h1 : j < S.length) : At (S.set j.toNat v) j v :=
  ⟨h0, by rw [List.getElem?_set_self (by omega)]⟩
theorem atSegLo {S seg : List Dat} {p : Nat} {k : Int} {d : Dat} (h : At S k d) (hk : k < p) (hp : p ≤ S.length) : At (segS S p seg) k d := by
  refine ⟨h.1, ?_⟩
  have := h.1
  rw [segS, List.append_assoc, List.getElem?_append_left (by rw [List.length_take]; omega), List.getElem?_take, if_pos (by omega)]
  exact h.2
theorem undo_get (H : List Dat) (l : List Int) (j : Nat) (hl : ∀ x ∈ l, 0 ≤ x) : (undo H l)[j]? = if (j : Int) ∈ l ∧ j < H.length then some (cell 0 (j : Int)) else H[j]? := by
  induction l with
  | nil => simp [undo]
  | cons x l ih =>
    have ih := ih fun y hy => hl y (List.Mem.tail _ hy)
    have hx := hl x (List.Mem.head _)
    have e : undo H (x :: l) = (undo H l).set x.toNat (.tuple [.int 0, .int x]) := rfl
    rw [e]
    by_cases hj : x = (j : Int)
    · subst hj
      by_cases hlt : j < H.length
      · rw [show (Int.toNat (j : Int)) = j by omega, List.getElem?_set_self (by rw [undo_length]; exact hlt), if_pos ⟨List.Mem.head _, hlt⟩]
      · rw [List.getElem?_eq_none (by rw [List.length_set, undo_length]; omega), if_neg (fun h => hlt h.2), List.getElem?_eq_none (by omega)]
    · rw [List.getElem?_set_ne (by omega), ih]
      have : ((j : Int) ∈ x :: l) ↔ (j : Int) ∈ l := by
        rw [List.mem_cons]
        constructor
        · rintro (h | h)
          · exact absurd h.symm hj
          · exact h
        · exact .inr
      simp only [this]
-- chains of environments
theorem EnC.le {S : List Dat} {e cp : Int} {l : List (Int × Int)} (h : EnC S e cp l) : ∀ p ∈ l, 0 ≤ p.1 ∧ p.1 ≤ e := by
  induction h with
  | nil => exact List.forall_mem_nil _
  | cons h0 _ _ _ _ _ hp _ ih =>
    refine List.forall_mem_cons.mpr ⟨⟨h0, Int.le_refl _⟩, fun p hp' => ?_⟩
    have := ih p hp'
    omega
theorem EnC.ge {S : List Dat} {e cp : Int} {l : List (Int × Int)} (h : EnC S e cp l) : -1 ≤ e := by
  cases h <;> omega
theorem EnC.ch {S : List Dat} {e cp : Int} {l : List (Int × Int)} (h : EnC S e cp l) : ChE S e (l.map (·.1)) := by
  induction h with
  | nil => exact .nil (by omega)
  | cons h0 _ _ _ h1 _ _ _ ih => exact .cons h0 h1 ih
theorem EnC.cps {S : List Dat} {e cp : Int} {l : List (Int × Int)} (h : EnC S e cp l) : ∀ p ∈ l, At S (p.1 + 1) (.int p.2) := by
  induction h with
  | nil => exact List.forall_mem_nil _
  | cons _ _ _ _ _ h2 _ _ ih => exact List.forall_mem_cons.mpr ⟨h2, ih⟩
theorem EnC.congr {S S' : List Dat} {e cp : Int} {l : List (Int × Int)} (h : EnC S e cp l) (hl : S.length ≤ S'.length) (hs : ∀ p ∈ l, ∀ d, (At S p.1 d → At S' p.1 d) ∧ (At S (p.1 + 1) d → At S' (p.1 + 1) d)) : EnC S' e cp l := by
  induction h with
  | nil => exact .nil
  | cons h0 h1 h2 h3 h4 h5 h6 _ ih =>
    obtain ⟨q, r⟩ := List.forall_mem_cons.mp hs
    exact .cons h0 h1 h2 (by omega) ((q _).1 h4) ((q _).2 h5) h6 (ih r)
theorem EnC.under {S S' : List Dat} {e cp : Int} {l : List (Int × Int)} {T : Int} (h : EnC S e cp l) (hl : S.length ≤ S'.length) (hb : ∀ p ∈ l, p.1 + 2 ≤ T) (hs : ∀ k d, k < T → At S k d → At S' k d) : EnC S' e cp l :=
  h.congr hl fun p hp d => ⟨hs _ _ (by have := hb p hp; omega), hs _ _ (by have := hb p hp; omega)⟩
-- choice points
theorem segLenC (c : Ch) (pv : Int) : (c.seg pv).length = c.ds.length + 8 := by
  simp [Ch.seg]
theorem segRest (c : Ch) (pv : Int) (i : Nat) : (c.seg pv)[c.ds.length + 1 + i]? = ([.int c.e, .int c.cp, .int pv, .int c.en.alt, .int (c.mt : Int), .int (c.hl : Int), .int c.b0] : List Dat)[i]? := by
  rw [Ch.seg, show c.ds.length + 1 + i = (c.ds.length + i) + 1 by omega, List.getElem?_cons_succ, List.getElem?_append_right (by omega)]
  congr 1; omega
section
variable {S hp : List Dat} {tr : List Int} {pv : Int} {c : Ch} {cs cs0 : List Ch}
theorem ChOk.at (h : ChOk S hp tr pv c) (i : Nat) {d : Dat} (hd : ([.int c.e, .int c.cp, .int pv, .int c.en.alt, .int (c.mt : Int), .int (c.hl : Int), .int c.b0] : List Dat)[i]? = some d) {k : Int} (hk : k = c.en.b + (c.ds.length : Int) + 1 + (i : Int)) : At S k d :=
  (h.sg (c.ds.length + 1 + i) d (by rw [segRest]; exact hd)).cast (by omega)
theorem ChOk.fin_le (h : ChOk S hp tr pv c) : c.fin ≤ S.length := by
  have := (h.at 6 (d := .int c.b0) rfl rfl).lt
  unfold Ch.fin; omega
theorem ChOk.cnt (h : ChOk S hp tr pv c) : At S c.en.b (.int (c.ds.length : Int)) :=
  (h.sg 0 _ rfl).cast (by omega)
theorem ChOk.reg (h : ChOk S hp tr pv c) (i : Nat) {d : Dat} (hd : c.ds[i]? = some d) : At S (c.en.b + (1 + (i : Int))) d := by
  have hl : i < c.ds.length := (List.getElem?_eq_some_iff.mp hd).1
  refine (h.sg (i + 1) d ?_).cast (by omega)
  rw [Ch.seg, List.getElem?_cons_succ, List.getElem?_append_left hl]; exact hd
/-- another stack that agrees below the choice point's end, another heap and trail that go back to the same -/
theorem ChOk.move {S' hp' : List Dat} {tr' : List Int} (h : ChOk S hp tr pv c) (hl : S.length ≤ S'.length) (hs : ∀ k d, k < c.fin → At S k d → At S' k d) (m1 : c.mt ≤ tr'.length) (h1 : c.hl ≤ hp'.length) (tk : tr'.take c.mt = tr.take c.mt) (bk : Bk hp' tr' c) : ChOk S' hp' tr' pv c := by
  refine ⟨h.b0, h.n3, h.en, fun j d hj => hs _ _ ?_ (h.sg j d hj), h.ev.under hl h.eb (fun k d hk => hs k d ?_), h.eb, m1, h.h0, h1, by rw [tk]; exact h.tk, bk, h.okd, h.okH⟩
  · have := (List.getElem?_eq_some_iff.mp hj).1
    rw [segLenC] at this
    unfold Ch.fin; omega
  · unfold Ch.fin; omega
theorem bAtTake {es : List En} {lv i : Nat} (h : i ≤ lv) : bAt (es.take lv) i = bAt es i := by
  cases i with
  | zero => rfl
  | succ i => simp only [bAt]; rw [List.getElem?_take, if_pos (by omega)]
theorem bAtApp {es es' : List En} {i : Nat} (h : i ≤ es.length) : bAt (es ++ es') i = bAt es i := by
  cases i with
  | zero => rfl
  | succ i => simp only [bAt]; rw [List.getElem?_append_left (by omega)]
theorem bAtLast {es : List En} {e : En} : bAt (es ++ [e]) (es.length + 1) = e.b := by
  simp [bAt]
theorem bAtGet {i : Nat} (h : cs[i]? = some c) : bAt (ens cs) (i + 1) = c.en.b := by
  simp only [bAt, ens, List.getElem?_map, h, Option.map_some]
theorem hbTake {lv i : Nat} (h : i ≤ lv) : hbAt (cs.take lv) i = hbAt cs i := by
  cases i with
  | zero => rfl
  | succ i => simp only [hbAt]; rw [List.getElem?_take, if_pos (by omega)]
theorem GoodC.take (h : GoodC S hp tr cs) (lv : Nat) : GoodC S hp tr (cs.take lv) := by
  have get : ∀ i c, (cs.take lv)[i]? = some c → cs[i]? = some c ∧ i < lv := fun i c hi => by
    rw [List.getElem?_take] at hi
    split at hi
    · exact ⟨hi, by assumption⟩
    · cases hi
  refine ⟨fun i c hi => ?_, fun i j c c' hij hi hj => h.ap i j c c' hij (get _ _ hi).1 (get _ _ hj).1⟩
  have q := get _ _ hi
  rw [ens, List.map_take, bAtTake (by omega)]
  exact h.ok i c q.1
theorem GoodC.init (h : GoodC S hp tr (cs0 ++ [c])) : GoodC S hp tr cs0 := by
  have := h.take cs0.length
  rwa [List.take_left] at this
theorem GoodC.last (h : GoodC S hp tr (cs0 ++ [c])) : ChOk S hp tr (bAt (ens cs0) cs0.length) c := by
  have := h.ok cs0.length c (by simp)
  rw [ens, List.map_append, bAtApp (by simp)] at this
  exact this
theorem GoodC.lastAp (h : GoodC S hp tr (cs0 ++ [c])) : ∀ c' ∈ cs0, c'.fin ≤ c.en.b ∧ c'.mt ≤ c.mt ∧ c'.hl ≤ c.hl ∧ ∀ p ∈ c.l, p.1 + 2 ≤ c'.en.b ∨ c'.fin ≤ p.1 := by
  intro c' hc
  obtain ⟨i, hi, rfl⟩ := List.mem_iff_getElem.mp hc
  exact h.ap i cs0.length _ c hi (by rw [List.getElem?_append_left hi, List.getElem?_eq_getElem hi]) (by simp)
theorem GoodC.snoc (h : GoodC S hp tr cs0) (hc : ChOk S hp tr (bAt (ens cs0) cs0.length) c) (ha : ∀ c' ∈ cs0, c'.fin ≤ c.en.b ∧ c'.mt ≤ c.mt ∧ c'.hl ≤ c.hl ∧ ∀ p ∈ c.l, p.1 + 2 ≤ c'.en.b ∨ c'.fin ≤ p.1) : GoodC S hp tr (cs0 ++ [c]) := by
  have get : ∀ i d, (cs0 ++ [c])[i]? = some d → (cs0[i]? = some d ∧ i < cs0.length) ∨ (i = cs0.length ∧ d = c) := fun i d hi => by
    by_cases hl : i < cs0.length
    · rw [List.getElem?_append_left hl] at hi; exact .inl ⟨hi, hl⟩
    · rw [List.getElem?_append_right (by omega)] at hi
      have := (List.getElem?_eq_some_iff.mp hi).1
      simp only [List.length_singleton] at this
      have e : i = cs0.length := by omega
      subst e
      simp at hi
      exact .inr ⟨rfl, hi.symm⟩
  constructor
  · intro i d hi
    rw [ens, List.map_append]
    rcases get i d hi with ⟨q, hl⟩ | ⟨rfl, rfl⟩
    · rw [bAtApp (by simp; omega)]; exact h.ok i d q
    · rw [bAtApp (by simp)]; exact hc
  · intro i j d d' hij hi hj
    rcases get j d' hj with ⟨q, hl⟩ | ⟨rfl, rfl⟩
    · rcases get i d hi with ⟨q', hl'⟩ | ⟨rfl, rfl⟩
      · exact h.ap i j d d' hij q' q
      · omega
    · rcases get i d hi with ⟨q', hl'⟩ | ⟨rfl, rfl⟩
      · exact ha d (List.mem_of_getElem? q')
      · omega
theorem GoodC.move {S' hp' : List Dat} {tr' : List Int} (h : GoodC S hp tr cs) (hm : ∀ c ∈ cs, ∀ pv, ChOk S hp tr pv c → ChOk S' hp' tr' pv c) : GoodC S' hp' tr' cs :=
  ⟨fun i c hi => hm c (List.mem_of_getElem? hi) _ (h.ok i c hi), h.ap⟩
/-- each choice point's end lies below the newest one's end -/
theorem GoodC.fins (h : GoodC S hp tr (cs0 ++ [c])) : ∀ c' ∈ cs0 ++ [c], c'.fin ≤ c.fin := by
  intro c' hc
  rcases List.mem_append.mp hc with hc | hc
  · have := (h.lastAp c' hc).1
    have := h.last.b0
    unfold Ch.fin at *; omega
  · rw [List.mem_singleton.mp hc]; exact Int.le_refl _
theorem GoodC.hls (h : GoodC S hp tr cs) : ∀ c ∈ cs, (c.hl : Int) ≤ hbAt cs cs.length := by
  rcases List.eq_nil_or_concat cs with e | ⟨cs0, c, e⟩
  · subst e; exact List.forall_mem_nil _
  · rw [List.concat_eq_append] at e
    subst e
    have e1 : hbAt (cs0 ++ [c]) (cs0 ++ [c]).length = c.hl := by simp [hbAt]
    rw [e1]
    intro c' hc
    rcases List.mem_append.mp hc with hc | hc
    · have := (h.lastAp c' hc).2.2.1; omega
    · rw [List.mem_singleton.mp hc]; exact Int.le_refl _
/-- going back to a choice point -/
theorem Bk.back (h : Bk hp tr c) (hl : c.hl ≤ hp.length) (ht : ∀ x ∈ tr, 0 ≤ x) : (undo hp (tr.drop c.mt)).take c.hl = c.H := by
  apply List.ext_getElem?
  intro j
  rw [List.getElem?_take]
  split
  · rename_i hj
    rw [undo_get _ _ _ fun x hx => ht x (List.mem_of_mem_drop hx)]
    by_cases q : (j : Int) ∈ tr.drop c.mt
    · rw [if_pos ⟨q, by omega⟩, h.yes j hj q]
    · rw [if_neg (fun r => q r.1), h.no j hj q]
  · rename_i hj
    rw [List.getElem?_eq_none (by rw [h.len]; omega)]
theorem ChOk.back {c' : Ch} (h : ChOk S hp tr pv c) (h' : Bk hp tr c') (hm : c.mt ≤ c'.mt) (hl : c.hl ≤ c'.hl) (hm' : c'.mt ≤ tr.length) : ChOk S c'.H (tr.take c'.mt) pv c := by
  refine h.move (Nat.le_refl _) (fun _ _ _ h => h) (by rw [List.length_take]; omega) (by rw [h'.len]; exact hl) (by rw [List.take_take, Nat.min_eq_left hm]) ⟨h.bk.len, ?_, ?_⟩
  all_goals intro j hj hin
  · exact h.bk.yes j hj (by rw [List.drop_take] at hin; exact List.mem_of_mem_take hin)
  · by_cases q : (j : Int) ∈ tr.drop c'.mt
    · have q1 : (j : Int) ∈ tr.drop c.mt := by
        have e : tr.drop c'.mt = (tr.drop c.mt).drop (c'.mt - c.mt) := by rw [List.drop_drop]; congr 1; omega
        rw [e] at q; exact List.mem_of_mem_drop q
      rw [h.bk.yes j hj q1, h'.yes j (by omega) q]
    · have q1 : ¬ (j : Int) ∈ tr.drop c.mt := by
        intro r
        rw [List.drop_take] at hin
        have e : tr.drop c.mt = (tr.drop c.mt).take (c'.mt - c.mt) ++ tr.drop c'.mt := by
          have e := (List.take_append_drop (c'.mt - c.mt) (tr.drop c.mt)).symm
          rw [List.drop_drop, show c.mt + (c'.mt - c.mt) = c'.mt by omega] at e
          exact e
        rw [e] at r
        rcases List.mem_append.mp r with r | r
        · exact hin r
        · exact q r
      rw [h.bk.no j hj q1, h'.no j (by omega) q]
end
end Mine
namespace Mine
theorem kw0_Plain2 : True := by
  k_with_none
  w_top off
  trivial
section
variable {σ : W} {cs cs0 : List Ch} {c : Ch} {l : List (Int × Int)} {i : Nat}
theorem snocCases (cs : List Ch) : cs = [] ∨ ∃ cs0 c, cs = cs0 ++ [c] := by
  rcases List.eq_nil_or_concat cs with e | ⟨cs0, c, e⟩
  · exact .inl e
  · exact .inr ⟨cs0, c, by rw [e, List.concat_eq_append]⟩
theorem bLast : bAt (ens (cs0 ++ [c])) (cs0 ++ [c]).length = c.en.b := by
  simp [bAt]
theorem hbLast : hbAt (cs0 ++ [c]) (cs0 ++ [c]).length = (c.hl : Int) := by simp [hbAt]
theorem Inv.sm (h : Inv σ cs l i) (hi : i ≤ 100) : Sm σ :=
  ⟨by have := h.z1; omega, by have := h.z2; omega, by have := h.z3; omega, h.x6⟩
theorem Inv.bge (h : Inv σ cs l i) : -1 ≤ σ.b := by
  rcases snocCases cs with e | ⟨cs0, c, e⟩
  · subst e; rw [h.b]; decide
  · subst e
    rw [h.b, bLast]
    have := h.gd.last.b0; omega
theorem Inv.top (h : Inv σ cs l i) : ∃ T, IsTop σ T ∧ 0 ≤ T ∧ T ≤ σ.sk.length ∧ (∀ p ∈ l, p.1 + 2 ≤ T) ∧ (∀ z ∈ cs, z.fin ≤ T) ∧ σ.e < T := by
  have hb := h.bge
  have hge := h.ev.ge
  by_cases hlt : σ.b < σ.e
  · have hev := h.ev
    have hle := h.ev.le
    generalize he : σ.e = e at *
    generalize hcp : σ.cp = cp at *
    cases hev with
    | nil => omega
    | cons h0 h1 h2 h3 h4 h5 h6 h7 =>
      refine ⟨e + 2 + (cp - 1), .inl ⟨by omega, by omega, by omega, by omega⟩, by omega, by omega, fun p hp => by have := hle p hp; omega, ?_, by omega⟩
      rcases snocCases cs with q | ⟨cs0, c, q⟩
      · subst q; exact List.forall_mem_nil _
      · subst q
        have hbb := h.b
        rw [bLast] at hbb
        intro z hz
        have f1 := h.gd.fins z hz
        have f2 := h.av c (List.mem_append.mpr (.inr (List.Mem.head _))) _ (List.Mem.head _)
        simp only at f2
        omega
  · rcases snocCases cs with q | ⟨cs0, c, q⟩
    · subst q
      have hbb := h.b
      have e1 : bAt (ens []) ([] : List Ch).length = -1 := rfl
      rw [e1] at hbb
      refine ⟨0, .inr (.inr ⟨by omega, by omega, rfl⟩), by omega, by omega, fun p hp => ?_, List.forall_mem_nil _, by omega⟩
      have := h.ev.le p hp
      omega
    · subst q
      have hbb := h.b
      rw [bLast] at hbb
      have hl := h.gd.last
      have hfin := hl.fin_le
      have hb0 := hl.b0
      refine ⟨c.fin, .inr (.inl ⟨by omega, by omega, _, hbb ▸ hl.cnt, by unfold Ch.fin; omega⟩), by unfold Ch.fin; omega, hfin, fun p hp => ?_, h.gd.fins, by unfold Ch.fin; omega⟩
      have q1 := h.ev.le p hp
      have q2 := h.av c (List.mem_append.mpr (.inr (List.Mem.head _))) p hp
      unfold Ch.fin at *
      omega
theorem chbTake {S hp : List Dat} {tr : List Int} (g : GoodC S hp tr cs) : ∀ n, n ≤ cs.length → ChB S (bAt (ens cs) n) (((cs.take n).map (·.en.b)).reverse) := by
  intro n
  induction n with
  | zero => intro _; exact .nil (by show (-1 : Int) < 0; decide)
  | succ n ih =>
    intro hn
    have hg := List.getElem?_eq_getElem (show n < cs.length by omega)
    have ok := g.ok n _ hg
    rw [List.take_add_one, hg, Option.toList_some, List.map_append, List.reverse_append, bAtGet hg]
    exact .cons ok.b0 ok.cnt (ok.at 2 rfl (by simp; omega)) (ih (by omega))
theorem Inv.chb (h : Inv σ cs l i) : ChB σ.sk σ.b ((cs.map (·.en.b)).reverse) := by
  have := chbTake h.gd cs.length (Nat.le_refl _)
  rw [List.take_length, ← h.b] at this
  exact this
theorem Inv.back (h : Inv σ (cs0 ++ [c]) l i) : Back σ c.ds c.e c.cp c.mt c.hl := by
  have hl := h.gd.last
  have hb := h.b
  rw [bLast] at hb
  refine ⟨hb ▸ hl.cnt, fun j d hd => hb ▸ hl.reg j hd, hl.n3, hl.at 0 rfl (by rw [hb]; simp), hl.at 1 rfl (by rw [hb]; simp; omega), hl.at 4 rfl (by rw [hb]; simp; omega), hl.at 5 rfl (by rw [hb]; simp; omega), by omega, by have := hl.m1; omega, h.tr, by omega, by have := hl.h1; omega⟩
theorem Inv.hpBack (h : Inv σ (cs0 ++ [c]) l i) : (undo σ.hp (σ.tr.drop c.mt)).take c.hl = c.H := h.gd.last.bk.back h.gd.last.h1 fun x hx => (h.tr x hx).1
theorem segXds {x ds : List Dat} (h : x.length = 6) (h3 : ds.length ≤ 3) : ((segS x 1 ds).drop 1).take ds.length = ds := by
  have e : (x.take 1).length = 1 := by rw [List.length_take]; omega
  rw [segS, List.append_assoc]
  have := List.drop_left (l₁ := x.take 1) (l₂ := ds ++ x.drop (1 + ds.length))
  rw [e] at this
  rw [this, List.take_left]
theorem segX6 {x ds : List Dat} (h : x.length = 6) (h3 : ds.length ≤ 3) : (segS x 1 ds).length = 6 := by
  rw [segLenEq (by omega)]; omega
theorem segX4 {x ds : List Dat} {d : Dat} (h : x.length = 6) (h3 : ds.length ≤ 3) (ha : At x 4 d) : At (segS x 1 ds) 4 d := by
  refine ⟨ha.1, ?_⟩
  have e : (x.take 1 ++ ds).length = 1 + ds.length := by rw [List.length_append, List.length_take]; omega
  rw [segS, List.getElem?_append_right (by rw [e]; have : Int.toNat 4 = 4 := rfl; omega), e, List.getElem?_drop, ← ha.2]
  congr 1
  have : Int.toNat 4 = 4 := rfl
  omega
theorem Inv.seen (h : Inv σ (cs0 ++ [c]) l i) : seenD (restW σ c.ds c.e c.cp c.mt c.hl) c.ds.length c.l = c.snap := by
  have hl := h.gd.last
  have e1 := segXds (ds := c.ds) h.x6 hl.n3
  have e2 := h.hpBack
  have e3 : ((σ.tr.take c.mt).length : Int) = c.mt := by rw [List.length_take]; have := hl.m1; omega
  simp only [seenD, restW, Ch.snap, Int.toNat_natCast, e1, e2, e3]
theorem Inv.seenOk (h : Inv σ (cs0 ++ [c]) l i) : kqdOk 8 c.snap = true := by
  have hl := h.gd.last
  have cl : ∀ (n : Nat) d, IsCell d → kqdOk (n + 1) d = true := by
    rintro n d ⟨i, j, rfl⟩
    simp [kqdOk]
  have a1 : c.ds.all (kqdOk 6) = true := List.all_eq_true.mpr fun d hd => cl 5 d (hl.okd d hd)
  have a2 : c.H.all (kqdOk 6) = true := List.all_eq_true.mpr fun d hd => cl 5 d (hl.okH d hd)
  simp only [Ch.snap, kqdOk, List.all_cons, List.all_nil, a1, a2, Bool.and_true, Bool.true_and]
  simp [kqdOk]
/-- what stands behind the way back to the newest choice point -/
structure Rest (σ : W) (cs0 : List Ch) (c : Ch) (i : Nat) : Prop where
  gd : GoodC σ.sk c.H (σ.tr.take c.mt) cs0
  ok : ChOk σ.sk c.H (σ.tr.take c.mt) (bAt (ens cs0) cs0.length) c
  ap : ∀ c' ∈ cs0, c'.fin ≤ c.en.b ∧ c'.mt ≤ c.mt ∧ c'.hl ≤ c.hl ∧ ∀ p ∈ c.l, p.1 + 2 ≤ c'.en.b ∨ c'.fin ≤ p.1
  tr : ∀ x ∈ σ.tr.take c.mt, 0 ≤ x ∧ x < (c.H.length : Int)
theorem Inv.rest (h : Inv σ (cs0 ++ [c]) l i) : Rest σ cs0 c i := by
  have hl := h.gd.last
  have ap := h.gd.lastAp
  refine ⟨h.gd.init.move fun z hz pv ok => ok.back hl.bk (ap z hz).2.1 (ap z hz).2.2.1 hl.m1, hl.back hl.bk (Nat.le_refl _) (Nat.le_refl _) hl.m1, ap, ?_⟩
  rw [hl.bk.len]; exact hl.tk
abbrev retryW (σ : W) (c : Ch) (after lab : Int) : W := { restW σ c.ds c.e c.cp c.mt c.hl with sk := σ.sk.set (σ.b + (c.ds.length : Int) + 4).toNat (.int after), p := lab }
abbrev Ch.alter (c : Ch) (e : En) : Ch := { c with en := e }
theorem ChOk.retry {S hp : List Dat} {tr : List Int} {pv after : Int} {t : Tok} {ep : Nat} (h : ChOk S hp tr pv c) : ChOk (S.set (c.en.b + (c.ds.length : Int) + 4).toNat (.int after)) hp tr pv (c.alter { c.en with alt := after, t4 := t, ep := ep }) := by
  have hb := h.b0
  refine ⟨h.b0, h.n3, h.en, fun j d hj => ?_, h.ev.under (by rw [List.length_set]; exact Nat.le_refl _) h.eb (fun k d hk ha => atSet ha (by omega) (by omega)), h.eb, h.m1, h.h0, h.h1, h.tk, ⟨h.bk.len, h.bk.yes, h.bk.no⟩, h.okd, h.okH⟩
  show At _ (c.en.b + (j : Int)) d
  by_cases hjn : j = c.ds.length + 4
  · have e := segRest (c.alter { c.en with alt := after, t4 := t, ep := ep }) pv 3
    have e2 : (c.alter { c.en with alt := after, t4 := t, ep := ep }).ds.length + 1 + 3 = j := by show c.ds.length + 1 + 3 = j; omega
    rw [e2, hj] at e
    cases e
    have hlt := (h.at 3 (d := .int c.en.alt) rfl rfl).lt
    have := atSetSelf (S := S) (v := Dat.int after) (j := c.en.b + (c.ds.length : Int) + 4) (by omega) (by omega)
    exact this.cast (by omega)
  · refine atSet (h.sg j d ?_) (by omega) (by omega)
    rw [← hj]
    rcases Nat.lt_or_ge j (c.ds.length + 1) with q | q
    · cases j with
      | zero => rfl
      | succ j =>
        rw [Ch.seg, Ch.seg, List.getElem?_cons_succ, List.getElem?_cons_succ, List.getElem?_append_left (by omega), List.getElem?_append_left (show j < c.ds.length by omega)]
    · have e1 := segRest c pv (j - (c.ds.length + 1))
      have e2 := segRest (c.alter { c.en with alt := after, t4 := t, ep := ep }) pv (j - (c.ds.length + 1))
      rw [show c.ds.length + 1 + (j - (c.ds.length + 1)) = j by omega] at e1
      have e3 : (c.alter { c.en with alt := after, t4 := t, ep := ep }).ds.length + 1 + (j - (c.ds.length + 1)) = j := by show c.ds.length + 1 + (j - (c.ds.length + 1)) = j; omega
      rw [e3] at e2
      rw [e1, e2]
      generalize hn : j - (c.ds.length + 1) = n
      match n, hn with
      | 0, _ => rfl
      | 1, _ => rfl
      | 2, _ => rfl
      | 3, hn => omega
      | n + 4, _ => rfl
theorem memSegX {x ds : List Dat} (hx : ∀ d ∈ x, IsCell d) (hd : ∀ d ∈ ds, IsCell d) : ∀ d ∈ segS x 1 ds, IsCell d := by
  intro d h
  rcases List.mem_append.mp h with h | h
  · rcases List.mem_append.mp h with h | h
    · exact hx d (List.mem_of_mem_take h)
    · exact hd d h
  · exact hx d (List.mem_of_mem_drop h)
theorem Inv.retry (h : Inv σ (cs0 ++ [c]) l i) {after lab : Int} {t : Tok} {ep : Nat} : Inv (retryW σ c after lab) (cs0 ++ [c.alter { c.en with alt := after, t4 := t, ep := ep }]) c.l (i + 1) := by
  have hl := h.gd.last
  have r := h.rest
  have hb := h.b
  rw [bLast] at hb
  have hb0 := hl.b0
  have e2 := h.hpBack
  have z1 := h.z1
  have z2 := h.z2
  have z3 := h.z3
  have z5 := h.z5
  have hh1 := hl.h1
  have hlen := hl.bk.len
  have gd : GoodC (σ.sk.set (c.en.b + (c.ds.length : Int) + 4).toNat (.int after)) c.H (σ.tr.take c.mt) (cs0 ++ [c.alter { c.en with alt := after, t4 := t, ep := ep }]) := by
    refine GoodC.snoc (r.gd.move fun z hz pv ok => ?_) r.ok.retry r.ap
    exact ok.move (by rw [List.length_set]; exact Nat.le_refl _) (fun k d hk ha => atSet ha (by have := (r.ap z hz).1; omega) (by omega)) ok.m1 ok.h1 rfl ok.bk
  refine ⟨?_, ?_, ?_, ?_, ?_, ?_, ?_, ?_, ?_, ?_, ?_, ?_, ?_, ?_, ?_, ?_⟩
  · show σ.b = _
    rw [bLast, hb]
  · show σ.hb = _
    rw [h.hb, hbLast, hbLast]
  · have q := (r.ok.retry (after := after) (t := t) (ep := ep)).ev
    rw [← hb] at q
    exact q
  · intro z hz p hp
    rcases List.mem_append.mp hz with hz | hz
    · exact (r.ap z hz).2.2.2 p hp
    · rw [List.mem_singleton.mp hz]; exact .inl (hl.eb p hp)
  · simp only [retryW, restW, Int.toNat_natCast, e2, hb]; exact gd
  · simp only [retryW, restW, Int.toNat_natCast, e2]; exact r.tr
  · simp only [retryW, restW, Int.toNat_natCast, e2]; exact hl.okH
  · exact memSegX h.xc hl.okd
  · exact segX6 h.x6 hl.n3
  · simp only [retryW, restW, Int.toNat_natCast, e2, hlen]; exact hl.h0
  · simp only [retryW, restW, Int.toNat_natCast, e2, hlen]; omega
  · show (σ.sk.set _ _).length ≤ _
    rw [List.length_set]; omega
  · show (σ.tr.take _).length ≤ _
    rw [List.length_take]; omega
  · have := h.z6 c (List.mem_append.mpr (.inr (List.Mem.head _))); omega
  · simp only [List.length_append, List.length_singleton] at z5 ⊢; omega
  · intro z hz
    rcases List.mem_append.mp hz with hz | hz
    · have := h.z6 z (List.mem_append.mpr (.inl hz)); omega
    · rw [List.mem_singleton.mp hz]
      have := h.z6 c (List.mem_append.mpr (.inr (List.Mem.head _))); show c.l.length ≤ _; omega
/-- the newest choice point becomes that of level n -/
theorem setBAt {S hp : List Dat} {tr : List Int} (g : GoodC S hp tr cs) {n : Nat} (hn : n ≤ cs.length) {σ : W} (hs : σ.sk = S) : SetB σ (bAt (ens cs) n) { σ with b := bAt (ens cs) n, hb := hbAt cs n, bb := if n = 0 then 0 else bAt (ens cs) n } := by
  cases n with
  | zero => exact .inl ⟨(by show (-1 : Int) < 0; decide), rfl⟩
  | succ n =>
    have hg := List.getElem?_eq_getElem (show n < cs.length by omega)
    have ok := g.ok n _ hg
    rw [bAtGet hg]
    refine .inr ⟨ok.b0, _, _, hs ▸ ok.cnt, hs ▸ ok.at 5 rfl (by simp; omega), ?_⟩
    simp [hbAt, hg]
theorem setBUniq {σ σ1 σ2 : W} {n : Int} (h1 : SetB σ n σ1) (h2 : SetB σ n σ2) : σ1 = σ2 := by
  rcases h1 with ⟨a, rfl⟩ | ⟨a, c1, l1, p1, q1, rfl⟩
  · rcases h2 with ⟨b, rfl⟩ | ⟨b, _⟩
    · rfl
    · omega
  · rcases h2 with ⟨b, _⟩ | ⟨b, c2, l2, p2, q2, rfl⟩
    · omega
    · have e := atInt p1 p2
      subst e
      have e := atInt q1 q2
      subst e
      rfl
abbrev atB (σ : W) (cs : List Ch) (n : Nat) : W := { σ with b := bAt (ens cs) n, hb := hbAt cs n, bb := if n = 0 then 0 else bAt (ens cs) n }
theorem Inv.trustB (h : Inv σ (cs0 ++ [c]) l i) : SetB (restW σ c.ds c.e c.cp c.mt c.hl) (bAt (ens cs0) cs0.length) (atB (restW σ c.ds c.e c.cp c.mt c.hl) cs0 cs0.length) :=
  setBAt (S := σ.sk) h.rest.gd (Nat.le_refl _) rfl
theorem Inv.trust (h : Inv σ (cs0 ++ [c]) l i) {lab : Int} : Inv { atB (restW σ c.ds c.e c.cp c.mt c.hl) cs0 cs0.length with p := lab } cs0 c.l (i + 1) := by
  have hl := h.gd.last
  have r := h.rest
  have e2 := h.hpBack
  have z1 := h.z1
  have z2 := h.z2
  have z3 := h.z3
  have z5 := h.z5
  have hh1 := hl.h1
  have hlen := hl.bk.len
  refine ⟨rfl, rfl, hl.ev, fun z hz p hp => (r.ap z hz).2.2.2 p hp, ?_, ?_, ?_, ?_, ?_, ?_, ?_, ?_, ?_, ?_, ?_, ?_⟩
  · simp only [restW, Int.toNat_natCast, e2]; exact r.gd
  · simp only [restW, Int.toNat_natCast, e2]; exact r.tr
  · simp only [restW, Int.toNat_natCast, e2]; exact hl.okH
  · exact memSegX h.xc hl.okd
  · exact segX6 h.x6 hl.n3
  · simp only [restW, Int.toNat_natCast, e2, hlen]; exact hl.h0
  · simp only [restW, Int.toNat_natCast, e2, hlen]; omega
  · show σ.sk.length ≤ _
    omega
  · show (σ.tr.take _).length ≤ _
    rw [List.length_take]; omega
  · have := h.z6 c (List.mem_append.mpr (.inr (List.Mem.head _))); omega
  · simp only [List.length_append, List.length_singleton] at z5 ⊢; omega
  · intro z hz
    have := h.z6 z (List.mem_append.mpr (.inl hz)); omega
end
end Mine
namespace Mine
theorem kw0_L1 : True := by
  k_with_none
  w_top off
  trivial
def IsDat (o : Obj) : Prop := o.cls = .type "tuple" ∨ o.cls = .type "list"
mutual
theorem datStrip {r r' : List (Addr × Obj)} (hs : ∀ p ∈ r, IsDat p.2 → p ∈ r') : ∀ {v : Value} {d : Dat}, DatIn r v d → DatIn r' v d
  | _, _, .none => .none
  | _, _, .bool b => .bool b
  | _, _, .int i t => .int i t
  | _, _, .str x t => .str x t
  | _, _, .bytes b t => .bytes b t
  | _, _, .tuple h q => .tuple (hs _ h (.inl rfl)) (datStrips hs q)
  | _, _, .list h q => .list (hs _ h (.inr rfl)) (datStrips hs q)
theorem datStrips {r r' : List (Addr × Obj)} (hs : ∀ p ∈ r, IsDat p.2 → p ∈ r') : ∀ {vs : List Value} {ds : List Dat}, DatAll r vs ds → DatAll r' vs ds
  | _, _, .nil => .nil
  | _, _, .cons h q => .cons (datStrip hs h) (datStrips hs q)
end
open Classical in
noncomputable def dats (r : List (Addr × Obj)) : List (Addr × Obj) := r.filter fun p => decide (IsDat p.2)
theorem datsMem {r : List (Addr × Obj)} {p : Addr × Obj} : p ∈ dats r ↔ p ∈ r ∧ IsDat p.2 := by
  unfold dats
  rw [List.mem_filter, @decide_eq_true_iff]
theorem kvDats {r : List (Addr × Obj)} : ∀ p ∈ KV ++ r, IsDat p.2 → p ∈ KV ++ dats r := fun p hp hd =>
  (List.mem_append.mp hp).elim (fun h => List.mem_append.mpr (.inl h)) fun h => List.mem_append.mpr (.inr (datsMem.mpr ⟨h, hd⟩))
theorem relDats {k : Kon} {r : List (Addr × Obj)} {c : Con} {σ : W} (R : Rel k r c σ) : Rel k (dats r) c σ :=
  ⟨datStrips kvDats R.h, datStrips kvDats R.s, datStrips kvDats R.t, datStrips kvDats R.x, datStrip kvDats R.c⟩
/-- the iterator's own objects are no data -/
def OwnIt (own : List (Addr × Obj)) : Prop := ∀ p ∈ own, p.2.cls = .type "range_iterator"
section
variable {prog : Program} {w : World} {A : Around} {E : Value → Shared → Prop} {s : Shared} {env : Env} {h₀ : Heap} {x : Str} {body : List Stmt} {Q : Flow → Shared → Prop}
theorem law_range {r : Addr} {a₀ b₀ : Int} {t₀ u₀ v₀ : Tok} {n : Nat} {m₀ : Str → Option Value} {news : List (Addr × Obj)} (J : Nat → (Str → Option Value) → List (Addr × Obj) → Prop)
    (hh : A.handled = none) (hr : IsRange s.heap r a₀ b₀ 1 t₀ u₀ v₀) (hsmall : Builtin.Range.small a₀ b₀ 1 = true) (hsz : Builtin.Range.rangeSize a₀ b₀ 1 = (n : Int)) (F : Fr h₀ env.locals s.heap m₀) (N : News h₀ env.locals s.heap news) (hj : J 0 m₀ news)
    (turn : ∀ i t m₁ nx h tk own, i < n → OwnIt own → OwnOff own (nx.map (·.1)) → J i m₁ nx → Fr h₀ env.locals h (fun y => if y = x then some (.int (a₀ + (i : Int)) t) else m₁ y) → News h₀ env.locals h (nx ++ own) →
      wpAny (model prog w) A (execs body env) (InvPostG h₀ env.locals (J (i + 1)) own { s with heap := h, toks := tk } Q) E { s with heap := h, toks := tk })
    (done : ∀ m₁ nx h tk, J n m₁ nx → Fr h₀ env.locals h m₁ → News h₀ env.locals h nx → Q .next { s with heap := h, toks := tk }) :
    wpAny (model prog w) A (pyIter (.ref r)) (fun it s₂ => LoopAtV prog w A h₀ env x body Q E it s₂) E s := by
  refine wpAny_pyIter_range hr hsmall ?_
  have W : Walks prog w A s.heap.objs.size [s.heap.objs.size] [s.heap.objs.size] n (fun i v => i < n ∧ ∃ t, v = .int (a₀ + i * 1) t)
      (fun i h => IsRangeIter h s.heap.objs.size (a₀ + (i : Nat) * 1) ((n : Int) - (i : Nat)) 1) := (Walks.range hh _ a₀ 1 n).bound
  have new : h₀.get? s.heap.objs.size = none := next_is_new F
  refine ⟨_, _, _, n, _, _, m₀, news, J, rfl, W, ?_, ?_, ?_, ?_, F.push _, ?_, hj, ?_, ?_⟩
  · intro hm
    exact absurd F.ns.lt ((List.mem_singleton.mp hm) ▸ Nat.lt_irrefl _)
  · intro b hb
    rw [List.mem_singleton.mp hb]; exact new
  · intro p hp hI
    exact absurd (Heap.lt_size (N p hp).1) ((List.mem_singleton.mp hI) ▸ Nat.lt_irrefl _)
  · show IsRangeIter _ _ _ _ _
    rw [hsz]; simpa using Heap.get?_push_size _ rfl
  · exact fun p hp => ⟨Heap.get?_push_of_some _ (N p hp).1, (N p hp).2⟩
  · rintro i v m₁ nx s₁ own ⟨h, tk, rfl⟩ hin ⟨_, t, rfl⟩ hJ hoff hown hget hfp hst F₁ N₁
    have e1 : a₀ + (i : Int) * 1 = a₀ + (i : Int) := by omega
    rw [e1] at F₁
    have hit : OwnIt own := fun p hp => by
      have q1 := List.mem_singleton.mp (hown p hp)
      have q2 := hget p hp
      have q3 : h.get? s.heap.objs.size = some _ := hst
      rw [q1] at q2
      rw [← Option.some.inj (q3.symm.trans q2)]
    have hof : OwnOff own (nx.map (·.1)) := fun p hp b hb e => by
      obtain ⟨z, hz, rfl⟩ := List.mem_map.mp hb
      exact hoff z hz (e ▸ hown p hp)
    refine wpAny_mono (turn i t m₁ nx h tk own hin hit hof hJ F₁ (fun p hp => N₁ p (List.mem_append.mpr ((List.mem_append.mp hp).symm)))) (fun f s₂ q => ?_) fun _ _ e => e
    have fin : InvEndG h₀ env.locals (J (i + 1)) own { s with heap := h, toks := tk } s₂ → LoopStepU h₀ env.locals [s.heap.objs.size] own (J (i + 1)) { s with heap := h, toks := tk } .next s₂ := by
      rintro ⟨h', tk', m', news', nx', e, F', N', hn, ho, ha, hm⟩
      refine ⟨rfl, h', tk', m', nx', e, F', fun p hp => N' p ((List.mem_append.mp hp).elim (ho p) (hn p)), fun p hp hq => ?_, hm⟩
      have own1 := hfp s.heap.objs.size (List.Mem.head _) new _ hst
      exact ha _ own1 p.1 (List.mem_map.mpr ⟨p, hp, rfl⟩) (List.mem_singleton.mp hq).symm
    cases f with
    | ret v => exact .ret q
    | brk => exact .brk q
    | next => exact .next (fin q)
    | cont => exact .cont (fin q)
  · rintro h' tk m' nx F' N' _ hJ
    exact done m' nx h' tk hJ F' N'
end
end Mine
namespace Mine
theorem kw0_L2 : True := by
  k_with_none
  w_top off
  trivial
theorem startIn {a : Adr} {k : Kon} {c : Con} {σ : W} {pt nu : Addr} {q : PotC} {x : Addr × Obj} {add imm : List (Addr × Obj)} : ∀ p ∈ Led a k c σ (potL pt nu q (x :: (add ++ imm))), p ∈ x :: Led a k c σ (add ++ potL pt nu q imm) := by
  intro p hp
  rcases List.mem_cons.mp (potIn1 p hp) with h | h
  · rw [h]; exact List.Mem.head _
  · exact List.Mem.tail _ (potApp p h)
theorem startSep {a : Adr} {pt nu kl : Addr} {q : PotC} {add imm : List (Addr × Obj)} (hA : Adds a (potL pt nu q imm) add) (hP : PotA a pt nu imm) (hO : Off a imm) (h3 : @LT.lt Nat _ a.xs kl) (h4 : ∀ p ∈ add ++ imm, @LT.lt Nat _ p.1 kl) : Sep a pt nu kl ((ens []).map (·.ad)) (add ++ imm) :=
  ⟨hP.p1, hP.p2, h3, List.forall_mem_nil _, List.nodup_nil, offApp hA.off hO, List.forall_mem_append.mpr ⟨fun p hp => hA.new p hp _ (List.Mem.head _), hP.p3⟩, List.forall_mem_append.mpr ⟨fun p hp => hA.new p hp _ (List.Mem.tail _ (List.Mem.head _)), hP.p4⟩, fun p hp => Nat.ne_of_lt (h4 p hp), fun _ _ => List.forall_mem_nil _⟩
def NtOk (σ : W) (cs : List Ch) (nt : Int) : Prop := nt = -1 ∨ (0 ≤ nt ∧ (nt ≤ cs.length → At σ.x 4 (cell 5 (bAt (ens cs) nt.toNat))))
def NtIn (σ : W) (cs : List Ch) (nt : Int) : Prop := nt = -1 ∨ (0 ≤ nt ∧ nt ≤ cs.length ∧ At σ.x 4 (cell 5 (bAt (ens cs) nt.toNat)))
structure LawS (a : Adr) (k : Kon) (pt nu kl : Addr) (imm : List (Addr × Obj)) (c : Con) (σ : W) (q : PotC) (cs : List Ch) (l : List (Int × Int)) (i : Nat) : Prop where
  R : Rel k imm c σ
  S : Sep a pt nu kl ((ens cs).map (·.ad)) imm
  q : PotOk q
  I : Inv σ cs l i
  sn : ∀ z ∈ cs, DatIn (KV ++ imm) (.ref z.en.sn) z.snap
abbrev lawL (a : Adr) (k : Kon) (pt nu kl : Addr) (imm : List (Addr × Obj)) (c : Con) (σ : W) (q : PotC) (kn : Nat) (cs : List Ch) : List (Addr × Obj) := Led a k c σ (potL pt nu q (keptL kl kn (ens cs) imm))
abbrev lawM (a : Adr) (pt kl : Addr) (nt : Int) (tn : Tok) : List (Str × Value) := [(Str.ofString "pot", Value.ref pt), (Str.ofString "m", Value.ref a.m), (Str.ofString "kept", Value.ref kl), (Str.ofString "noted", Value.int nt tn)]
abbrev lawG (a : Adr) (pt kl : Addr) (nt : Int) (tn : Tok) : List (Str × Value) := [(Str.ofString "pot", Value.ref pt), (Str.ofString "m", Value.ref a.m), (Str.ofString "kept", Value.ref kl), (Str.ofString "noted", Value.int nt tn), (Str.ofString "good", Value.bool true)]
theorem rev_lst {prog : Program} {w : World} {A : Around} {E : Value → Shared → Prop} {s : Shared} {h₀ : Heap} {L l : Addr} {m : Str → Option Value} {news : List (Addr × Obj)} {value slice : PySem.Expr} {vs : List Value} {n : Nat} {vk : Value} {ops : List Value} {Q : Value → Shared → Prop} (F : Fr h₀ L s.heap m) (N : News h₀ L s.heap news) (hm : (l, listOf vs.toArray n) ∈ news) (pk : IsPart vk (some (-1))) (hz : vs.length ≤ 100000)
    (h : ∀ D h', Fr h₀ L h' m → News h₀ L h' ((D, listOf vs.reverse.toArray 0) :: news) → (∀ p ∈ news, p.1 < D) → Q (.ref D) { s with heap := h' })
    (hs : subscripted slice false (.ref l) (.ref s.heap.objs.size) = operate ops (getItem (.ref l) (.ref s.heap.objs.size))) (ht : ∀ r, letTemporaryGo value (.ref l) r = pure ()) :
    wpAny (model prog w) A (subscriptTail value slice (.ref l) (.ref s.heap.objs.size)) Q E { s with heap := s.heap.push { cls := .type "slice", data := .fields #[.none, .none, vk] } } :=
  krv_lit (its := vs.toArray) (zs := vs.reverse) F N ⟨_, (N _ hm).1, rfl, n, rfl⟩ pk rfl h hs ht (by rw [List.size_toArray, sizeLine_eq]; omega)
def LawJ (a : Adr) (k : Kon) (pt nu kl : Addr) (i : Nat) (m : Str → Option Value) (nx : List (Addr × Obj)) : Prop :=
  ∃ c σ q kn cs l imm nt tn, nx = lawL a k pt nu kl imm c σ q kn cs ∧ LawS a k pt nu kl imm c σ q cs l i ∧ NtIn σ cs nt ∧ ∀ p ∈ lawM a pt kl nt tn, m p.1 = some p.2
/-- behind the deed: the state, its own iterator at hand, and good is true -/
def Mid (g : Heap) (L : Addr) (a : Adr) (k : Kon) (pt nu kl : Addr) (own : List (Addr × Obj)) (i : Nat) (s₁ : Shared) (f : Flow) (s₂ : Shared) : Prop :=
  Stop (f = .next ∧ ∃ h' tk m' c σ q kn cs l imm nt tn, s₂ = { s₁ with heap := h', toks := tk } ∧ Fr g L h' m' ∧ News g L h' (lawL a k pt nu kl imm c σ q kn cs) ∧ (∀ p ∈ own, p ∈ imm) ∧ LawS a k pt nu kl imm c σ q cs l (i + 1) ∧ NtOk σ cs nt ∧ ∀ p ∈ lawG a pt kl nt tn, m' p.1 = some p.2)
def MidN (g : Heap) (L : Addr) (a : Adr) (k : Kon) (pt nu kl : Addr) (own : List (Addr × Obj)) (i : Nat) (s₁ : Shared) (f : Flow) (s₂ : Shared) : Prop :=
  Stop (f = .next ∧ ∃ h' tk m' c σ q kn cs l imm nt tn, s₂ = { s₁ with heap := h', toks := tk } ∧ Fr g L h' m' ∧ News g L h' (lawL a k pt nu kl imm c σ q kn cs) ∧ (∀ p ∈ own, p ∈ imm) ∧ LawS a k pt nu kl imm c σ q cs l (i + 1) ∧ NtIn σ cs nt ∧ ∀ p ∈ lawG a pt kl nt tn, m' p.1 = some p.2)
theorem midMonoN {prog : Program} {w : World} {A : Around} {E : Value → Shared → Prop} {X : Sem Flow} {Q : Flow → Shared → Prop} {s : Shared} {g h : Heap} {L : Addr} {m : Str → Option Value} (a : Adr) (k : Kon) (pt nu kl : Addr) (own : List (Addr × Obj)) (i : Nat) (s₁ : Shared) (_ : Fr g L h m)
    (hi : wpAny (model prog w) A X (MidN g L a k pt nu kl own i s₁) E s) (hc : ∀ f s', MidN g L a k pt nu kl own i s₁ f s' → Q f s') : wpAny (model prog w) A X Q E s := wpAny_mono hi hc (fun _ _ e => e)
theorem midMono {prog : Program} {w : World} {A : Around} {E : Value → Shared → Prop} {X : Sem Flow} {Q : Flow → Shared → Prop} {s : Shared} {g h : Heap} {L : Addr} {m : Str → Option Value} (a : Adr) (k : Kon) (pt nu kl : Addr) (own : List (Addr × Obj)) (i : Nat) (s₁ : Shared) (_ : Fr g L h m)
    (hi : wpAny (model prog w) A X (Mid g L a k pt nu kl own i s₁) E s) (hc : ∀ f s', Mid g L a k pt nu kl own i s₁ f s' → Q f s') : wpAny (model prog w) A X Q E s := wpAny_mono hi hc (fun _ _ e => e)
def TurnP (g : Heap) (L : Addr) (J : (Str → Option Value) → List (Addr × Obj) → Prop) (own : List (Addr × Obj)) (s₁ : Shared) (f : Flow) (s₂ : Shared) : Prop := Stop (InvPostG g L J own s₁ (fun _ _ => False) f s₂)
theorem turnMono {prog : Program} {w : World} {A : Around} {E : Value → Shared → Prop} {X : Sem Flow} {Q : Flow → Shared → Prop} {s s₁ : Shared} {g : Heap} {L : Addr} {J : (Str → Option Value) → List (Addr × Obj) → Prop} {own : List (Addr × Obj)}
    (h : wpAny (model prog w) A X (TurnP g L J own s₁) (fun _ _ => False) s) : wpAny (model prog w) A X (InvPostG g L J own s₁ Q) E s :=
  wpAny_mono h (fun f s₂ q => by cases f with | ret v => exact False.elim q | brk => exact False.elim q | next => exact q | cont => exact q) fun _ _ e => e.elim
theorem sepSub {a : Adr} {pt nu kl : Addr} {ads : List Addr} {imm imm' : List (Addr × Obj)} (S : Sep a pt nu kl ads imm) (h : ∀ p ∈ imm', p ∈ imm) : Sep a pt nu kl ads imm' :=
  ⟨S.p1, S.p2, S.p3, S.p4, S.nd, offSub S.i1 h, fun p hp => S.i2 p (h p hp), fun p hp => S.i3 p (h p hp), fun p hp => S.i4 p (h p hp), fun p hp => S.i5 p (h p hp)⟩
theorem lawSDats {a : Adr} {k : Kon} {pt nu kl : Addr} {imm : List (Addr × Obj)} {c : Con} {σ : W} {q : PotC} {cs : List Ch} {l : List (Int × Int)} {i : Nat} (h : LawS a k pt nu kl imm c σ q cs l i) : LawS a k pt nu kl (dats imm) c σ q cs l i :=
  ⟨relDats h.R, sepSub h.S fun _ hp => (datsMem.mp hp).1, h.q, h.I, fun z hz => datStrip kvDats (h.sn z hz)⟩
theorem lawLSub {a : Adr} {k : Kon} {pt nu kl : Addr} {imm imm' : List (Addr × Obj)} {c : Con} {σ : W} {q : PotC} {kn : Nat} {cs : List Ch} (h : ∀ p ∈ imm', p ∈ imm) : ∀ p ∈ lawL a k pt nu kl imm' c σ q kn cs, p ∈ lawL a k pt nu kl imm c σ q kn cs :=
  ledMono (potMono (consMono fun p hp => (List.mem_append.mp hp).elim (fun h => List.mem_append.mpr (.inl h)) fun hp => List.mem_append.mpr (.inr (h p hp))))
theorem offIt {g h : Heap} {L : Addr} {nx own news : List (Addr × Obj)} (N : News g L h news) (ho : ∀ p ∈ own, p ∈ news) (hn : ∀ p ∈ nx, p ∈ news) (hi : OwnIt own) (hx : ∀ p ∈ nx, p.2.cls ≠ .type "range_iterator") : OwnOff own (nx.map (·.1)) := by
  intro p hp b hb e
  obtain ⟨z, hz, rfl⟩ := List.mem_map.mp hb
  have q1 := (N p (ho p hp)).1
  have q2 := (N z (hn z hz)).1
  rw [e, q2] at q1
  have q3 := Option.some.inj q1
  exact hx z hz (q3 ▸ hi p hp)
theorem lawNoIt {a : Adr} {k : Kon} {pt nu kl : Addr} {imm : List (Addr × Obj)} {c : Con} {σ : W} {q : PotC} {kn : Nat} {cs : List Ch} (h : ∀ p ∈ imm, IsDat p.2) : ∀ p ∈ lawL a k pt nu kl imm c σ q kn cs, p.2.cls ≠ .type "range_iterator" := by
  have one : ∀ x y : String, x ≠ y → Value.type x ≠ Value.type y := fun x y h e => h (by cases e; rfl)
  refine allC (by intro e; cases e) (allC (one _ _ (by decide)) (allC (by intro e; cases e) (allC (one _ _ (by decide)) (allC (one _ _ (by decide)) (allC (one _ _ (by decide)) (allC (one _ _ (by decide)) (allC (one _ _ (by decide)) (allC (one _ _ (by decide)) (allC (one _ _ (by decide)) (allC (one _ _ (by decide)) ?_))))))))))
  intro p hp
  rcases List.mem_append.mp hp with hp | hp
  · obtain ⟨z, _, rfl⟩ := List.mem_map.mp hp
    exact one _ _ (by decide)
  · rcases h p hp with e | e <;> rw [e]
    · exact one _ _ (by decide)
    · exact one _ _ (by decide)
theorem turnEnd {g h' : Heap} {L : Addr} {a : Adr} {k : Kon} {pt nu kl : Addr} {own imm : List (Addr × Obj)} {c : Con} {σ : W} {q : PotC} {kn : Nat} {cs : List Ch} {l : List (Int × Int)} {i : Nat} {nt : Int} {tn : Tok} {m' : Str → Option Value} {s₁ : Shared} {tk : Nat}
    (F : Fr g L h' m') (N : News g L h' (lawL a k pt nu kl imm c σ q kn cs)) (ho : ∀ p ∈ own, p ∈ imm) (hi : OwnIt own) (hS : LawS a k pt nu kl imm c σ q cs l i) (hn : NtIn σ cs nt) (hm : ∀ p ∈ lawM a pt kl nt tn, m' p.1 = some p.2) : TurnP g L (LawJ a k pt nu kl i) own s₁ .next { s₁ with heap := h', toks := tk } := by
  have hin : ∀ p ∈ own, p ∈ lawL a k pt nu kl imm c σ q kn cs := fun p hp => ledIn p (List.Mem.tail _ (List.Mem.tail _ (List.Mem.tail _ (List.mem_append.mpr (.inr (ho p hp))))))
  have hsub := lawLSub (a := a) (k := k) (pt := pt) (nu := nu) (kl := kl) (c := c) (σ := σ) (q := q) (kn := kn) (cs := cs) (imm' := dats imm) (imm := imm) fun _ hp => (datsMem.mp hp).1
  exact InvEndG.intro (nx := lawL a k pt nu kl (dats imm) c σ q kn cs) F N ⟨c, σ, q, kn, cs, l, dats imm, nt, tn, rfl, lawSDats hS, hn, hm⟩ (offIt N hin hsub hi (lawNoIt fun _ hp => (datsMem.mp hp).2)) hsub hin
/-- the start of a turn: the iterator's objects stand among those that do not change -/
theorem turnIn {a : Adr} {k : Kon} {pt nu kl : Addr} {own imm : List (Addr × Obj)} {c : Con} {σ : W} {q : PotC} {kn : Nat} {cs : List Ch} {l : List (Int × Int)} {i : Nat} (hS : LawS a k pt nu kl imm c σ q cs l i) (ho : OwnOff own ((lawL a k pt nu kl imm c σ q kn cs).map (·.1))) :
    LawS a k pt nu kl (imm ++ own) c σ q cs l i ∧ lawL a k pt nu kl imm c σ q kn cs ++ own = lawL a k pt nu kl (imm ++ own) c σ q kn cs := by
  have off : ∀ z ∈ lawL a k pt nu kl imm c σ q kn cs, ∀ p ∈ own, p.1 ≠ z.1 := fun z hz p hp => ho p hp _ (List.mem_map.mpr ⟨z, hz, rfl⟩)
  refine ⟨⟨relMono hS.R fun p hp => List.mem_append.mpr (.inl hp), ?_, hS.q, hS.I, fun z hz => (hS.sn z hz).mono (kvMono fun p hp => List.mem_append.mpr (.inl hp))⟩, ?_⟩
  · have S := hS.S
    have t := fun (z : Addr × Obj) (hz : z ∈ potL pt nu q (keptL kl kn (ens cs) imm)) => off z (ledIn z hz)
    refine ⟨S.p1, S.p2, S.p3, S.p4, S.nd, offApp S.i1 ?_, List.forall_mem_append.mpr ⟨S.i2, t _ (List.Mem.head _)⟩, List.forall_mem_append.mpr ⟨S.i3, t _ (List.Mem.tail _ (List.Mem.head _))⟩, List.forall_mem_append.mpr ⟨S.i4, t _ (List.Mem.tail _ (List.Mem.tail _ (List.Mem.head _)))⟩, List.forall_mem_append.mpr ⟨S.i5, fun p hp x hx => ?_⟩⟩
    · exact ⟨off (a.m, _) (List.Mem.head _), off (a.dm, _) (.tail _ (.head _)), off (a.st, _) (.tail _ (.tail _ (.head _))), off (a.ds, _) (.tail _ (.tail _ (.tail _ (.head _)))), off (a.hp, _) (.tail _ (.tail _ (.tail _ (.tail _ (.head _))))), off (a.sk, _) (.tail _ (.tail _ (.tail _ (.tail _ (.tail _ (.head _)))))), off (a.tr, _) (.tail _ (.tail _ (.tail _ (.tail _ (.tail _ (.tail _ (.head _))))))), off (a.xs, _) (.tail _ (.tail _ (.tail _ (.tail _ (.tail _ (.tail _ (.tail _ (.head _))))))))⟩
    · obtain ⟨e, he, rfl⟩ := List.mem_map.mp hx
      exact t (e.ad, entO e) (List.Mem.tail _ (List.Mem.tail _ (List.Mem.tail _ (entIn he)))) p hp
  · have e1 : lawL a k pt nu kl imm c σ q kn cs = Led a k c σ (potL pt nu q ((kl, listOf (refE (ens cs)).toArray kn) :: entsL (ens cs))) ++ imm := rfl
    have e2 : lawL a k pt nu kl (imm ++ own) c σ q kn cs = Led a k c σ (potL pt nu q ((kl, listOf (refE (ens cs)).toArray kn) :: entsL (ens cs))) ++ (imm ++ own) := rfl
    rw [e1, e2, List.append_assoc]
theorem startInv {cp0 : W} (h : cp0 = ⟨0, 0, -1, -1, -1, 0, 0, [cell 0 0, cell 0 1, cell 0 2], [], [], [cell 5 0, cell 0 0, cell 0 1, cell 0 2, cell 5 0, cell 5 (-1)]⟩) : Inv cp0 [] [] 0 := by
  subst h
  refine ⟨rfl, rfl, .nil, List.forall_mem_nil _, ⟨fun _ _ h => (by cases h), fun _ _ _ _ _ h => (by cases h)⟩, List.forall_mem_nil _, ?_, ?_, rfl, by decide, by decide, by decide, by decide, by decide, by decide, List.forall_mem_nil _⟩
  · exact allC ⟨_, _, rfl⟩ (allC ⟨_, _, rfl⟩ (all1 ⟨_, _, rfl⟩))
  · exact allC ⟨_, _, rfl⟩ (allC ⟨_, _, rfl⟩ (allC ⟨_, _, rfl⟩ (allC ⟨_, _, rfl⟩ (allC ⟨_, _, rfl⟩ (all1 ⟨_, _, rfl⟩)))))
end Mine
namespace Mine
theorem kw0_Plain3 : True := by
  k_with_none
  w_top off
  trivial
section
variable {σ σ' σ1 σ2 : W} {cs cs' : List Ch} {l : List (Int × Int)} {i : Nat}
theorem Inv.same (h : Inv σ cs l i) (h1 : σ'.sk = σ.sk) (h2 : σ'.hp = σ.hp) (h3 : σ'.tr = σ.tr) (h4 : σ'.e = σ.e) (h5 : σ'.cp = σ.cp) (h6 : σ'.b = σ.b) (h7 : σ'.hb = σ.hb) (h8 : σ'.x.length = 6) (h9 : ∀ d ∈ σ'.x, IsCell d) : Inv σ' cs l i :=
  ⟨h6 ▸ h.b, h7 ▸ h.hb, by rw [h1, h4, h5]; exact h.ev, h.av, by rw [h1, h2, h3]; exact h.gd, by rw [h2, h3]; exact h.tr, by rw [h2]; exact h.hc, h9, h8, by rw [h2]; exact h.h0, by rw [h2]; exact h.z1, by rw [h1]; exact h.z2, by rw [h3]; exact h.z3, h.z4, h.z5, h.z6⟩
theorem Inv.up (h : Inv σ cs l i) : Inv σ cs l (i + 1) :=
  ⟨h.b, h.hb, h.ev, h.av, h.gd, h.tr, h.hc, h.xc, h.x6, h.h0, Nat.le_succ_of_le h.z1, by have := h.z2; omega, Nat.le_succ_of_le h.z3, Nat.le_succ_of_le h.z4, Nat.le_succ_of_le h.z5, fun z hz => Nat.le_succ_of_le (h.z6 z hz)⟩
theorem bAtLt {S hp : List Dat} {tr : List Int} (g : GoodC S hp tr cs) {m n : Nat} (h : m < n) (hn : n ≤ cs.length) : bAt (ens cs) m < bAt (ens cs) n := by
  cases n with
  | zero => omega
  | succ n =>
    have hg := List.getElem?_eq_getElem (show n < cs.length by omega)
    have ok := g.ok n _ hg
    rw [bAtGet hg]
    cases m with
    | zero => have := ok.b0; show (-1 : Int) < _; omega
    | succ m =>
      have hg' := List.getElem?_eq_getElem (show m < cs.length by omega)
      rw [bAtGet hg']
      have := (g.ap m n _ _ (by omega) hg' hg).1
      unfold Ch.fin at this
      omega
theorem Inv.cutEx (h : Inv σ cs l i) {lv : Nat} (hlv : lv ≤ cs.length) (h1 : σ1.sk = σ.sk) (h2 : σ1.b = σ.b) : ∃ σ2, CutTo σ1 (bAt (ens cs) lv) σ2 := by
  by_cases q : σ1.b ≤ bAt (ens cs) lv
  · exact ⟨σ1, .inl ⟨q, rfl⟩⟩
  · exact ⟨_, .inr ⟨by omega, setBAt h.gd hlv h1⟩⟩
theorem Inv.cut (h : Inv σ cs l i) {lv : Nat} (hlv : lv ≤ cs.length) (hc : CutTo σ (bAt (ens cs) lv) σ2) : Inv σ2 (cs.take lv) l (i + 1) ∧ σ2.x = σ.x := by
  rcases hc with ⟨q, rfl⟩ | ⟨q, hs⟩
  · have e : lv = cs.length := by
      rcases Nat.lt_or_ge lv cs.length with r | r
      · have := bAtLt h.gd r (Nat.le_refl _)
        rw [← h.b] at this; omega
      · omega
    subst e
    rw [List.take_length]
    exact ⟨h.up, rfl⟩
  · have e := setBUniq hs (setBAt h.gd hlv rfl)
    subst e
    have hl : (cs.take lv).length = lv := by rw [List.length_take]; omega
    have sub : ∀ z ∈ cs.take lv, z ∈ cs := fun z hz => List.mem_of_mem_take hz
    have u := h.up
    have z5 := u.z5
    refine ⟨⟨?_, ?_, h.ev, fun z hz => h.av z (sub z hz), h.gd.take lv, h.tr, h.hc, h.xc, h.x6, h.h0, u.z1, u.z2, u.z3, u.z4, by omega, fun z hz => u.z6 z (sub z hz)⟩, rfl⟩
    · show bAt (ens cs) lv = _
      rw [hl, ens, ens, List.map_take, bAtTake (Nat.le_refl _)]
    · show hbAt cs lv = _
      rw [hl, hbTake (Nat.le_refl _)]
abbrev tryC (σ : W) (l : List (Int × Int)) (e : En) (n : Nat) : Ch := ⟨e, (σ.x.drop 1).take n, σ.e, σ.cp, σ.tr.length, σ.hp.length, σ.b0, σ.hp, l⟩
abbrev tryW' (σ : W) (n : Nat) (T lab : Int) : W := { σ with sk := segS σ.sk T.toNat (chSeg σ ((σ.x.drop 1).take n) σ.p), b := T, hb := (σ.hp.length : Int), bb := T, p := lab }
theorem Inv.try (h : Inv σ cs l i) {T lab : Int} {n : Nat} {e : En} (h0 : 0 ≤ T) (h1 : T ≤ σ.sk.length) (h2 : ∀ p ∈ l, p.1 + 2 ≤ T) (h3 : ∀ z ∈ cs, z.fin ≤ T) (hb : e.b = T) (hn : e.n = (n : Int)) (ha : e.alt = σ.p) (n3 : n ≤ 3) : Inv (tryW' σ n T lab) (cs ++ [tryC σ l e n]) l (i + 1) := by
  have x6 := h.x6
  have dl : ((σ.x.drop 1).take n).length = n := by rw [List.length_take, List.length_drop]; omega
  have hseg : (tryC σ l e n).seg (bAt (ens cs) cs.length) = chSeg σ ((σ.x.drop 1).take n) σ.p := by
    simp only [Ch.seg, chSeg, ha, ← h.b]
  have hT : T.toNat ≤ σ.sk.length := by omega
  have hTc : (T.toNat : Int) = T := by omega
  have hle := segLenEq (S := σ.sk) (p := T.toNat) (seg := chSeg σ ((σ.x.drop 1).take n) σ.p) hT
  have hsl : (chSeg σ ((σ.x.drop 1).take n) σ.p).length = n + 8 := by
    rw [chSeg, List.length_cons, List.length_append, dl]; rfl
  have u := h.up
  have z2 := h.z2
  have lo : ∀ k d, k < T → At σ.sk k d → At (segS σ.sk T.toNat (chSeg σ ((σ.x.drop 1).take n) σ.p)) k d := fun k d hk hd => atSegLo hd (by omega) hT
  have fin : (tryC σ l e n).fin = T + n + 8 := by simp only [Ch.fin, hb, dl]
  have ev : EnC (segS σ.sk T.toNat (chSeg σ ((σ.x.drop 1).take n) σ.p)) σ.e σ.cp l := h.ev.under (by omega) h2 lo
  have avn : ∀ z ∈ cs, ∀ p ∈ l, p.1 + 2 ≤ z.en.b ∨ z.fin ≤ p.1 := h.av
  refine ⟨?_, ?_, ev, ?_, ?_, h.tr, h.hc, h.xc, h.x6, h.h0, u.z1, ?_, u.z3, u.z4, ?_, ?_⟩
  · rw [bLast]; exact hb.symm
  · rw [hbLast]
  · intro z hz p hp
    rcases List.mem_append.mp hz with hz | hz
    · exact h.av z hz p hp
    · rw [List.mem_singleton.mp hz]; exact .inl (by show p.1 + 2 ≤ e.b; rw [hb]; exact h2 p hp)
  · refine GoodC.snoc (h.gd.move fun z hz pv ok => ok.move (by show σ.sk.length ≤ (segS _ _ _).length; omega) (fun k d hk => lo k d (by have := h3 z hz; omega)) ok.m1 ok.h1 rfl ok.bk) ?_ ?_
    · refine ⟨by show 0 ≤ e.b; omega, by show ((σ.x.drop 1).take n).length ≤ 3; omega, by show e.n = _; rw [hn, dl], ?_, ev, fun p hp => by show p.1 + 2 ≤ e.b; rw [hb]; exact h2 p hp, Nat.le_refl _, h.h0, Nat.le_refl _, ?_, ⟨rfl, ?_, ?_⟩, ?_, h.hc⟩
      · intro j d hj
        rw [hseg] at hj
        exact segAt hT hj (by show e.b + _ = _; omega)
      · intro x hx
        exact h.tr x (List.mem_of_mem_take hx)
      · intro j hj hin
        have : (σ.tr.drop σ.tr.length) = [] := List.drop_length
        simp only [tryC] at hin
        rw [this] at hin
        cases hin
      · exact fun _ _ _ => rfl
      · exact fun d hd => h.xc d (List.mem_of_mem_drop (List.mem_of_mem_take hd))
    · intro z hz
      have ok : z.mt ≤ σ.tr.length ∧ z.hl ≤ σ.hp.length := by
        obtain ⟨j, hj, rfl⟩ := List.mem_iff_getElem.mp hz
        have := h.gd.ok j _ (List.getElem?_eq_getElem hj)
        exact ⟨this.m1, this.h1⟩
      exact ⟨by show z.fin ≤ e.b; rw [hb]; exact h3 z hz, ok.1, ok.2, h.av z hz⟩
  · show (segS _ _ _).length ≤ _
    omega
  · simp only [List.length_append, List.length_singleton]; have := h.z5; omega
  · intro z hz
    rcases List.mem_append.mp hz with hz | hz
    · exact u.z6 z hz
    · rw [List.mem_singleton.mp hz]; exact u.z4
theorem Inv.hbLe (h : Inv σ cs l i) : ∀ z ∈ cs, (z.hl : Int) ≤ σ.hb := by rw [h.hb]; exact h.gd.hls
theorem cellSet {H : List Dat} {j : Nat} {v : Dat} (hH : ∀ d ∈ H, IsCell d) (hv : IsCell v) : ∀ d ∈ H.set j v, IsCell d := fun d hd => by
  rcases List.mem_or_eq_of_mem_set hd with h | h
  · exact hH d h
  · rw [h]; exact hv
theorem Inv.bind (h : Inv σ cs l i) {k v : Int} (hk : At σ.hp k (cell 0 k)) : Inv { σ with hp := σ.hp.set k.toNat (cell 5 v), tr := if k < σ.hb then σ.tr ++ [k] else σ.tr } cs l (i + 1) := by
  have u := h.up
  have hlt := hk.lt
  have h0 := hk.1
  have z3 := h.z3
  refine ⟨h.b, h.hb, h.ev, h.av, h.gd.move fun z hz pv ok => ?_, ?_, cellSet h.hc ⟨_, _, rfl⟩, h.xc, h.x6, ?_, ?_, u.z2, ?_, u.z4, u.z5, u.z6⟩
  · have hle := h.hbLe z hz
    have hm := ok.m1
    have hh := ok.h1
    have tk : (if k < σ.hb then σ.tr ++ [k] else σ.tr).take z.mt = σ.tr.take z.mt := by
      split
      · rw [List.take_append_of_le_length hm]
      · rfl
    refine ok.move (Nat.le_refl _) (fun _ _ _ q => q) ?_ (by rw [List.length_set]; exact hh) tk ⟨ok.bk.len, ?_, ?_⟩
    · split
      · rw [List.length_append]; omega
      · exact hm
    · intro j hj hin
      by_cases q : k < σ.hb
      · rw [if_pos q, List.drop_append_of_le_length hm] at hin
        rcases List.mem_append.mp hin with r | r
        · exact ok.bk.yes j hj r
        · have e := List.mem_singleton.mp r
          by_cases r' : (j : Int) ∈ σ.tr.drop z.mt
          · exact ok.bk.yes j hj r'
          · have e3 : j = k.toNat := by omega
            rw [ok.bk.no j hj r', e, e3]
            exact hk.2
      · rw [if_neg q] at hin
        exact ok.bk.yes j hj hin
    · intro j hj hin
      have hne : k ≠ j := by
        intro e
        by_cases q : k < σ.hb
        · rw [if_pos q, List.drop_append_of_le_length hm] at hin
          exact hin (List.mem_append.mpr (.inr (List.mem_singleton.mpr e.symm)))
        · omega
      have hin' : ¬ (j : Int) ∈ σ.tr.drop z.mt := by
        intro r
        apply hin
        split
        · rw [List.drop_append_of_le_length hm]; exact List.mem_append.mpr (.inl r)
        · exact r
      rw [ok.bk.no j hj hin', List.getElem?_set_ne (by omega)]
  · show ∀ x ∈ (if k < σ.hb then σ.tr ++ [k] else σ.tr), 0 ≤ x ∧ x < ((σ.hp.set _ _).length : Int)
    rw [List.length_set]
    intro x hx
    split at hx
    · rcases List.mem_append.mp hx with hx | hx
      · exact h.tr x hx
      · rw [List.mem_singleton.mp hx]; exact ⟨h0, hlt⟩
    · exact h.tr x hx
  · show 0 < (σ.hp.set _ _).length
    rw [List.length_set]; exact h.h0
  · show (σ.hp.set _ _).length ≤ _
    rw [List.length_set]; exact u.z1
  · show (if k < σ.hb then σ.tr ++ [k] else σ.tr).length ≤ _
    split
    · rw [List.length_append, List.length_singleton]; omega
    · omega
theorem Inv.newVar (h : Inv σ cs l i) {r : Int} : Inv { σ with hp := σ.hp ++ [cell 0 σ.hp.length], x := σ.x.set r.toNat (cell 0 σ.hp.length) } cs l (i + 1) := by
  have u := h.up
  have z1 := h.z1
  refine ⟨h.b, h.hb, h.ev, h.av, h.gd.move fun z hz pv ok => ?_, ?_, ?_, cellSet h.xc ⟨_, _, rfl⟩, ?_, ?_, ?_, u.z2, u.z3, u.z4, u.z5, u.z6⟩
  · have hh := ok.h1
    refine ok.move (Nat.le_refl _) (fun _ _ _ q => q) ok.m1 (by rw [List.length_append]; omega) rfl ⟨ok.bk.len, ok.bk.yes, fun j hj hin => ?_⟩
    rw [ok.bk.no j hj hin, List.getElem?_append_left (by omega)]
  · intro x hx
    have := h.tr x hx
    show 0 ≤ x ∧ x < ((σ.hp ++ _).length : Int)
    rw [List.length_append]; omega
  · intro d hd
    rcases List.mem_append.mp hd with hd | hd
    · exact h.hc d hd
    · rw [List.mem_singleton.mp hd]; exact ⟨_, _, rfl⟩
  · show (σ.x.set _ _).length = 6
    rw [List.length_set]; exact h.x6
  · show 0 < (σ.hp ++ _).length
    rw [List.length_append]; have := h.h0; omega
  · show (σ.hp ++ _).length ≤ _
    rw [List.length_append, List.length_singleton]; omega
theorem Inv.alloc (h : Inv σ cs l i) {T v : Int} (h0 : 0 ≤ T) (h1 : T ≤ σ.sk.length) (h2 : ∀ p ∈ l, p.1 + 2 ≤ T) (h3 : ∀ z ∈ cs, z.fin ≤ T) (h4 : σ.e < T) (v0 : 0 ≤ v) (v2 : v ≤ 2) : Inv { σ with sk := segS σ.sk T.toNat ([.int σ.e, .int σ.cp] ++ List.replicate v.toNat (cell 5 0)), e := T, cp := v + 1 } cs ((T, σ.cp) :: l) (i + 1) := by
  have u := h.up
  have z2 := h.z2
  have z4 := h.z4
  have hT : T.toNat ≤ σ.sk.length := by omega
  have hTc : (T.toNat : Int) = T := by omega
  have hle := segLenEq (S := σ.sk) (p := T.toNat) (seg := [.int σ.e, .int σ.cp] ++ List.replicate v.toNat (cell 5 0)) hT
  have hsl : (([.int σ.e, .int σ.cp] : List Dat) ++ List.replicate v.toNat (cell 5 0)).length = v.toNat + 2 := by simp
  have lo : ∀ k d, k < T → At σ.sk k d → At (segS σ.sk T.toNat ([.int σ.e, .int σ.cp] ++ List.replicate v.toNat (cell 5 0))) k d := fun k d hk hd => atSegLo hd (by omega) hT
  refine ⟨h.b, h.hb, ?_, ?_, ?_, h.tr, h.hc, h.xc, h.x6, h.h0, u.z1, ?_, u.z3, ?_, u.z5, u.z6⟩
  · show EnC (segS σ.sk T.toNat ([.int σ.e, .int σ.cp] ++ List.replicate v.toNat (cell 5 0))) T (v + 1) ((T, σ.cp) :: l)
    refine .cons h0 (by omega) (by omega) (by show T + 1 + (v + 1) ≤ ((segS _ _ _).length : Int); omega) (segAt (i := 0) hT rfl (by omega)) (segAt (i := 1) hT rfl (by omega)) h4 ?_
    exact h.ev.under (by show σ.sk.length ≤ (segS _ _ _).length; omega) h2 lo
  · intro z hz
    exact allC (.inr (h3 z hz)) (h.av z hz)
  · exact h.gd.move fun z hz pv ok => ok.move (by show σ.sk.length ≤ (segS _ _ _).length; omega) (fun k d hk => lo k d (by have := h3 z hz; omega)) ok.m1 ok.h1 rfl ok.bk
  · show (segS _ _ _).length ≤ _
    omega
  · simp only [List.length_cons]; omega
theorem Inv.dealloc (h : Inv σ cs l i) (he : 0 ≤ σ.e) : ∃ pe pc l', At σ.sk σ.e (.int pe) ∧ At σ.sk (σ.e + 1) (.int pc) ∧ Inv { σ with e := pe, cp := pc } cs l' (i + 1) := by
  have u := h.up
  have ev := h.ev
  generalize hee : σ.e = e at ev he
  generalize hcc : σ.cp = cp at ev
  cases ev with
  | nil => omega
  | cons h0 h1 h2 h3 h4 h5 h6 h7 =>
    refine ⟨_, _, _, h4, h5, ⟨h.b, h.hb, h7, fun z hz => (List.forall_mem_cons.mp (h.av z hz)).2, h.gd, h.tr, h.hc, h.xc, h.x6, h.h0, u.z1, u.z2, u.z3, ?_, u.z5, u.z6⟩⟩
    have := u.z4
    simp only [List.length_cons] at this
    omega
theorem NtIn.mono {nt : Int} (h : NtIn σ cs nt) (hx : ∀ d, At σ.x 4 d → At σ'.x 4 d) (hb : ∀ n, n ≤ cs.length → n ≤ cs'.length → bAt (ens cs') n = bAt (ens cs) n) : NtOk σ' cs' nt := by
  rcases h with h | ⟨h0, h1, h2⟩
  · exact .inl h
  · refine .inr ⟨h0, fun h3 => ?_⟩
    rw [hb nt.toNat (by omega) (by omega)]
    exact hx _ h2
theorem NtOk.fix {nt : Int} (h : NtOk σ cs nt) (hl : nt ≤ cs.length) : NtIn σ cs nt := by
  rcases h with h | ⟨h0, h1⟩
  · exact .inl h
  · exact .inr ⟨h0, hl, h1 hl⟩
theorem bTake {lv : Nat} : ∀ n, n ≤ cs.length → n ≤ (cs.take lv).length → bAt (ens (cs.take lv)) n = bAt (ens cs) n := fun n _ h => by
  rw [List.length_take] at h
  rw [ens, List.map_take, bAtTake (by omega)]
theorem bSnoc {c : Ch} : ∀ n, n ≤ cs.length → n ≤ (cs ++ [c]).length → bAt (ens (cs ++ [c])) n = bAt (ens cs) n := fun n h _ => by
  rw [ens, List.map_append, bAtApp (by rw [List.length_map]; exact h)]
theorem bInit {c : Ch} : ∀ n, n ≤ (cs ++ [c]).length → n ≤ cs.length → bAt (ens cs) n = bAt (ens (cs ++ [c])) n := fun n h1 h => (bSnoc n h h1).symm
theorem bAlt {c : Ch} {e : En} (he : e.b = c.en.b) : ∀ n, n ≤ (cs ++ [c]).length → n ≤ (cs ++ [c.alter e]).length → bAt (ens (cs ++ [c.alter e])) n = bAt (ens (cs ++ [c])) n := fun n h _ => by
  rcases Nat.lt_or_ge cs.length n with q | q
  · have e1 : n = cs.length + 1 := by rw [List.length_append, List.length_singleton] at h; omega
    subst e1
    simp [bAt, he]
  · rw [ens, ens, List.map_append, List.map_append, bAtApp (by rw [List.length_map]; exact q), bAtApp (by rw [List.length_map]; exact q)]
theorem atSet4 {x : List Dat} {r : Int} {d e : Dat} (h : At x 4 d) (h1 : r ≠ 4) (h0 : 0 ≤ r) : At (x.set r.toNat e) 4 d := atSet h (Ne.symm h1) h0
end
end Mine
namespace Mine
theorem kw0_L3 : True := by
  k_with_none
  w_top off
  trivial
theorem intsOk (l : List Int) : kqdOk 8 (.list (l.map Dat.int)) = true := by
  simp only [kqdOk]
  refine List.all_eq_true.mpr fun d hd => ?_
  obtain ⟨x, _, rfl⟩ := List.mem_map.mp hd
  rfl
abbrev entD (z : Ch) : Dat := .list [.int z.en.b, .int z.en.n, z.snap, .int z.en.alt]
theorem snapOk {S hp : List Dat} {tr : List Int} {pv : Int} {c : Ch} (hl : ChOk S hp tr pv c) : kqdOk 6 c.snap = true := by
  have cl : ∀ (n : Nat) d, IsCell d → kqdOk (n + 1) d = true := by
    rintro n d ⟨i, j, rfl⟩
    simp [kqdOk]
  have a1 : c.ds.all (kqdOk 4) = true := List.all_eq_true.mpr fun d hd => cl 3 d (hl.okd d hd)
  have a2 : c.H.all (kqdOk 4) = true := List.all_eq_true.mpr fun d hd => cl 3 d (hl.okH d hd)
  simp only [Ch.snap, kqdOk, List.all_cons, List.all_nil, a1, a2, Bool.and_true, Bool.true_and]
  simp [kqdOk]
theorem entOk {d : Dat} {a b c : Int} (h : kqdOk 6 d = true) : kqdOk 7 (.list [.int a, .int b, d, .int c]) = true := by
  simp [kqdOk, h]
theorem keptOk {S hp : List Dat} {tr : List Int} {cs : List Ch} (g : GoodC S hp tr cs) : kqdOk 8 (.list (cs.map entD)) = true := by
  simp only [kqdOk]
  refine List.all_eq_true.mpr fun d hd => ?_
  obtain ⟨z, hz, rfl⟩ := List.mem_map.mp hd
  obtain ⟨i, hi, rfl⟩ := List.mem_iff_getElem.mp hz
  exact entOk (snapOk (g.ok i _ (List.getElem?_eq_getElem hi)))
theorem keptDat {imm : List (Addr × Obj)} {cs : List Ch} (sn : ∀ z ∈ cs, DatIn (KV ++ imm) (.ref z.en.sn) z.snap) : DatAll (KV ++ (entsL (ens cs) ++ imm)) (refE (ens cs)) (cs.map entD) := by
  have gen : ∀ (L : List (Addr × Obj)) (zs : List Ch), (∀ z ∈ zs, (z.en.ad, entO z.en) ∈ L) → (∀ z ∈ zs, DatIn L (.ref z.en.sn) z.snap) → DatAll L (refE (ens zs)) (zs.map entD) := by
    intro L zs
    induction zs with
    | nil => intro _ _; exact .nil
    | cons z zs ih =>
      intro h1 h2
      obtain ⟨a1, b1⟩ := List.forall_mem_cons.mp h1
      obtain ⟨a2, b2⟩ := List.forall_mem_cons.mp h2
      exact .cons (DatIn.list a1 (.cons (.int _ _) (.cons (.int _ _) (.cons a2 (.cons (.int _ _) .nil))))) (ih b1 b2)
  refine gen _ cs (fun z hz => List.mem_append.mpr (.inr (entIn (List.mem_map.mpr ⟨z, hz, rfl⟩)))) fun z hz => (sn z hz).mono (kvMono fun p hp => List.mem_append.mpr (.inr hp))
end Mine
namespace Mine
theorem keptIn {kl : Addr} {kn : Nat} {es : List En} {add imm : List (Addr × Obj)} : ∀ p ∈ keptL kl kn es (add ++ imm), p ∈ add ++ keptL kl kn es imm := by
  intro p hp
  rcases List.mem_cons.mp hp with h | h
  · rw [h]; exact List.mem_append.mpr (.inr (List.Mem.head _))
  · rcases List.mem_append.mp h with h | h
    · exact List.mem_append.mpr (.inr (List.Mem.tail _ (List.mem_append.mpr (.inl h))))
    · rcases List.mem_append.mp h with h | h
      · exact List.mem_append.mpr (.inl h)
      · exact List.mem_append.mpr (.inr (List.Mem.tail _ (List.mem_append.mpr (.inr h))))
end Mine
namespace Mine
theorem sepSnoc {a : Adr} {pt nu kl D : Addr} {ads : List Addr} {imm : List (Addr × Obj)} (S : Sep a pt nu kl ads imm) (h1 : @LT.lt Nat _ kl D) (h2 : ∀ x ∈ ads, @LT.lt Nat _ x D) (h3 : ∀ p ∈ imm, @LT.lt Nat _ p.1 D) : Sep a pt nu kl (ads ++ [D]) imm := by
  refine ⟨S.p1, S.p2, S.p3, ?_, ?_, S.i1, S.i2, S.i3, S.i4, ?_⟩
  · intro x hx
    rcases List.mem_append.mp hx with h | h
    · exact S.p4 x h
    · rw [List.mem_singleton.mp h]; exact h1
  · refine List.nodup_append.mpr ⟨S.nd, by simp, fun x hx y hy e => ?_⟩
    rw [List.mem_singleton.mp hy] at e
    exact Nat.lt_irrefl _ (e ▸ h2 x hx)
  · intro p hp x hx
    rcases List.mem_append.mp hx with h | h
    · exact S.i5 p hp x h
    · rw [List.mem_singleton.mp h]; exact Nat.ne_of_lt (h3 p hp)
end Mine
namespace Mine
theorem lawSnoc {a : Adr} {k : Kon} {pt nu kl : Addr} {imm : List (Addr × Obj)} {c : Con} {σ : W} {q : PotC} {kn : Nat} {cs : List Ch} {z : Ch} : ∀ p ∈ lawL a k pt nu kl imm c σ q kn (cs ++ [z]), p ∈ (z.en.ad, entO z.en) :: Led a k c σ (potL pt nu q ((kl, listOf (refE (ens cs) ++ [Value.ref z.en.ad]).toArray kn) :: (entsL (ens cs) ++ imm))) := by
  have ee : ens (cs ++ [z]) = ens cs ++ [z.en] := by simp [ens]
  intro p hp
  rw [lawL, ee] at hp
  have h := ledMono (a := a) (k := k) (c := c) (σ := σ) (potMono (pt := pt) (nu := nu) (q := q) backSup) p hp
  have h2 := ledMono (a := a) (k := k) (c := c) (σ := σ) (potMono (pt := pt) (nu := nu) (q := q) (r' := (z.en.ad, entO z.en) :: (kl, listOf (refE (ens cs) ++ [Value.ref z.en.ad]).toArray kn) :: (entsL (ens cs) ++ imm)) (allC (List.Mem.tail _ (List.Mem.head _)) (allC (List.Mem.head _) (fun p hp => List.Mem.tail _ (List.Mem.tail _ hp))))) p h
  exact potIn1 p h2
end Mine
namespace Mine
theorem kw0_L4 : True := by
  k_with_none
  w_top off
  trivial
/-- a new row stands above all: the law's state behind a try -/
theorem tryS {a : Adr} {k : Kon} {pt nu kl D D2 : Addr} {imm : List (Addr × Obj)} {c c' : Con} {σ σ' : W} {q q' : PotC} {kn : Nat} {cs : List Ch} {l : List (Int × Int)} {i n : Nat} {p0 lab : Int} {t1 t2 t4 : Tok}
    (R : Rel k imm c (tryW' σ n p0 lab)) (S : Sep a pt nu kl ((ens cs).map (·.ad)) imm) (hq : PotOk q) (I : Inv σ cs l i) (h0 : 0 ≤ p0) (h1 : p0 ≤ σ.sk.length) (h2 : ∀ p ∈ l, p.1 + 2 ≤ p0) (h3 : ∀ z ∈ cs, z.fin ≤ p0) (n3 : n ≤ 3)
    (sn : ∀ z ∈ cs, DatIn (KV ++ imm) (.ref z.en.sn) z.snap) (hD : DatIn (KV ++ imm) (.ref D) (seenD σ n l))
    (hlt : ∀ p ∈ Led a k c' σ' (potL pt nu q' (keptL kl kn (ens cs) imm)), @LT.lt Nat _ p.1 D2) :
    LawS a k pt nu kl imm c (tryW' σ n p0 lab) q (cs ++ [tryC σ l ⟨D2, p0, n, D, σ.p, t1, t2, t4, 0⟩ n]) l (i + 1) := by
  have hr := fun p hp => hlt p (ledIn p hp)
  have e2 : ens (cs ++ [tryC σ l ⟨D2, p0, n, D, σ.p, t1, t2, t4, 0⟩ n]) = ens cs ++ [⟨D2, p0, n, D, σ.p, t1, t2, t4, 0⟩] := by simp [ens]
  refine ⟨R, ?_, hq, I.try h0 h1 h2 h3 rfl rfl rfl n3, fun y hy => ?_⟩
  · rw [e2, List.map_append]
    refine sepSnoc S (hr _ (List.Mem.tail _ (List.Mem.tail _ (List.Mem.head _)))) (fun x hx => ?_) fun p hp => hr p (List.Mem.tail _ (List.Mem.tail _ (List.Mem.tail _ (List.mem_append.mpr (.inr hp)))))
    obtain ⟨e, he, rfl⟩ := List.mem_map.mp hx
    exact hr (e.ad, entO e) (List.Mem.tail _ (List.Mem.tail _ (List.Mem.tail _ (entIn he))))
  · rcases List.mem_append.mp hy with hy | hy
    · exact sn y hy
    · rw [List.mem_singleton.mp hy]; exact hD
end Mine
namespace Mine
theorem kw0_P1 : True := by
  k_with_none
  w_top off
  trivial
theorem kw_P1_0 : True := by
  k_with_none
  k_with "k_upd" => first | exact upd_sk (by assumption) (by assumption) | exact upd_hp (by assumption) (by assumption) | exact upd_tr (by assumption) (by assumption) | exact upd_xs (by assumption) (by assumption) | exact upd_dm (by assumption) (by assumption) | exact upd_ds (by assumption) (by assumption) | exact upd_pt (by assumption) (by assumption) (by assumption) (by assumption) | exact upd_nu (by assumption) (by assumption) (by assumption) (by assumption) | exact upd_kl (by assumption) (by assumption) (by assumption) (by assumption) (by assumption) | exact upd_dm (by assumption) (offPot (by assumption) (by assumption) (by assumption)) | exact upd_kl (by assumption) (by assumption) (by assumption) (by assumption) (List.forall_mem_cons.mpr ⟨Nat.ne_of_gt (by assumption), by assumption⟩) | exact upd_en (by assumption) (by assumption) (by assumption) (by assumption) (by assumption) (by assumption)
  k_with "k_ne" => (refine neN ?_; (try dsimp only); first | exact Nat.ne_of_gt (by with_reducible assumption) | exact Nat.ne_of_lt (by with_reducible assumption) | exact Nat.ne_of_gt (And.left (by with_reducible assumption)) | exact Nat.ne_of_gt (cj1 (by with_reducible assumption)) | exact Nat.ne_of_gt (cj2 (by with_reducible assumption)) | exact Nat.ne_of_gt (cj3 (by with_reducible assumption)) | exact Nat.ne_of_gt (cj4 (by with_reducible assumption)) | exact Nat.ne_of_gt (cj5 (by with_reducible assumption)) | exact Nat.ne_of_gt (cj6 (by with_reducible assumption)) | exact Nat.ne_of_gt (cj7 (by with_reducible assumption)) | exact Nat.ne_of_gt (cj8 (by with_reducible assumption)) | exact Nat.ne_of_gt (cj9 (by with_reducible assumption)) | exact Nat.ne_of_gt (cj10 (by with_reducible assumption)) | exact Nat.ne_of_gt (cj11 (by with_reducible assumption)) | exact Nat.ne_of_gt (cj12 (by with_reducible assumption)) | exact Nat.ne_of_gt (ce1 (by with_reducible assumption)) | exact Nat.ne_of_gt (ce2 (by with_reducible assumption)) | exact Nat.ne_of_gt (ce3 (by with_reducible assumption)) | exact Nat.ne_of_gt (ce4 (by with_reducible assumption)) | exact Nat.ne_of_gt (ce5 (by with_reducible assumption)) | exact Nat.ne_of_gt (ce6 (by with_reducible assumption)) | exact Nat.ne_of_gt (ce7 (by with_reducible assumption)) | exact Nat.ne_of_gt (ce8 (by with_reducible assumption)) | exact Nat.ne_of_gt (ce9 (by with_reducible assumption)) | exact Nat.ne_of_gt (ce10 (by with_reducible assumption)) | exact Nat.ne_of_gt (ce11 (by with_reducible assumption)) | exact Nat.ne_of_gt (ce12 (by with_reducible assumption)) | exact Nat.ne_of_lt (And.left (by with_reducible assumption)) | exact Nat.ne_of_lt (cj1 (by with_reducible assumption)) | exact Nat.ne_of_lt (cj2 (by with_reducible assumption)) | exact Nat.ne_of_lt (cj3 (by with_reducible assumption)) | exact Nat.ne_of_lt (cj4 (by with_reducible assumption)) | exact Nat.ne_of_lt (cj5 (by with_reducible assumption)) | exact Nat.ne_of_lt (cj6 (by with_reducible assumption)) | exact Nat.ne_of_lt (cj7 (by with_reducible assumption)) | exact Nat.ne_of_lt (cj8 (by with_reducible assumption)) | exact Nat.ne_of_lt (cj9 (by with_reducible assumption)) | exact Nat.ne_of_lt (cj10 (by with_reducible assumption)) | exact Nat.ne_of_lt (cj11 (by with_reducible assumption)) | exact Nat.ne_of_lt (cj12 (by with_reducible assumption)) | exact Nat.ne_of_lt (ce1 (by with_reducible assumption)) | exact Nat.ne_of_lt (ce2 (by with_reducible assumption)) | exact Nat.ne_of_lt (ce3 (by with_reducible assumption)) | exact Nat.ne_of_lt (ce4 (by with_reducible assumption)) | exact Nat.ne_of_lt (ce5 (by with_reducible assumption)) | exact Nat.ne_of_lt (ce6 (by with_reducible assumption)) | exact Nat.ne_of_lt (ce7 (by with_reducible assumption)) | exact Nat.ne_of_lt (ce8 (by with_reducible assumption)) | exact Nat.ne_of_lt (ce9 (by with_reducible assumption)) | exact Nat.ne_of_lt (ce10 (by with_reducible assumption)) | exact Nat.ne_of_lt (ce11 (by with_reducible assumption)) | exact Nat.ne_of_lt (ce12 (by with_reducible assumption)))
  k_with "setAttr ref" => (k_here; k_dflt (refine' set_dict (by k_asm) (by k_asm) (by k_asm) (by k_inst) (by exact rfl) (by k_is) (by k_is) (by k_is) (by k_is) (by k_get) (by k_put) (by k_upd) (by exact Nat.le_of_ble_eq_true rfl) ?_; k_whole); intro h' F' N'; (try dsimp only at N'); (try k_sweep))
  k_with "k_all" => first | exact neAll (by with_reducible assumption) | exact neAll (ce1 (by with_reducible assumption)) | exact neAll (ce2 (by with_reducible assumption)) | exact neAll (ce3 (by with_reducible assumption)) | exact neAll (ce4 (by with_reducible assumption)) | exact neAll (ce5 (by with_reducible assumption)) | exact neAll (ce6 (by with_reducible assumption)) | exact neAll (ce7 (by with_reducible assumption)) | exact neAll (ce8 (by with_reducible assumption)) | exact neAll (ce9 (by with_reducible assumption)) | exact neAll (ce10 (by with_reducible assumption)) | exact neAll (ce11 (by with_reducible assumption)) | exact neAll (ce12 (by with_reducible assumption))
  k_with "eval Dict nil nil" => (k_here; k_dflt (refine' newDict_K (by k_asm) (by k_asm) (by exact Top.nolimit (by assumption)) ?_; k_whole); intro d' h' o' F' N' l1 lo' hs' fs' hi' fi'; (try k_lt l1); (try k_sweep))
  k_with "eval IfExp" => ((with_reducible rename MarkF => mk'); clear mk'; refine Stop.by ?_)
  trivial
theorem intsDat {vs : List Value} {ns : List Int} (h : IntsAre vs ns) : DatAll [] vs (ns.map Dat.int) := by
  induction h with
  | nil => exact .nil
  | cons n t _ ih => exact .cons (.int n t) ih
def PotPost (g : Heap) (L : Addr) (m : Str → Option Value) (s : Shared) (v : Value) (s' : Shared) : Prop :=
  Stop (∃ nu vs nn ns, v = .ref nu ∧ Fr g L s'.heap m ∧ News g L s'.heap [(nu, listOf (List.toArray vs) nn)] ∧ DatAll [] vs (List.map Dat.int ns) ∧ 0 < ns.length ∧ ns.length ≤ 100 ∧ s'.gens = s.gens ∧ s'.os = s.os)
theorem potMonoW {prog : Program} {w : World} {A : Around} {E : Value → Shared → Prop} {X : Sem Value} {Q : Value → Shared → Prop} {s : Shared} {g h : Heap} {L : Addr} {m : Str → Option Value} (_ : Fr g L h m) (hi : wpAny (model prog w) A X (PotPost g L m s) E s) (hc : ∀ v s', PotPost g L m s v s' → Q v s') : wpAny (model prog w) A X Q E s :=
  wpAny_mono hi hc (fun _ _ e => e)
theorem areasMono {prog : Program} {w : World} {A : Around} {E : Value → Shared → Prop} {X : Sem Value} {Q : Value → Shared → Prop} {s : Shared} {g h : Heap} {L pt nu : Addr} {m : Str → Option Value} {x1 x2 x3 x4 : Addr × Obj} {r : List (Addr × Obj)} {ti : Tok} (_ : Fr g L h m) (_ : News g L h (x1 :: x2 :: x3 :: x4 :: (pt, listOf #[Value.int 0 ti, Value.ref nu] 0) :: r)) (hi : wpAny (model prog w) A X (AreasPost g L m pt nu s) E s) (hc : ∀ p v s', p = pt → AreasPost g L m p nu s v s' → Q v s') : wpAny (model prog w) A X Q E s :=
  wpAny_mono hi (fun v s' => hc _ v s' rfl) (fun _ _ e => e)
theorem kw_P1_1 : True := by
  k_with "k_all" => first | exact Off.m (by assumption) | exact Off.dm (by assumption) | exact Off.st (by assumption) | exact Off.ds (by assumption) | exact Off.hp (by assumption) | exact Off.sk (by assumption) | exact Off.tr (by assumption) | exact Off.xs (by assumption)
  k_with "call builtin:len" => (k_here; (with_reducible show wpAny _ _ (call (Value.builtin "len") [Value.ref _]) _ _ _); k_dflt (refine' len_lst (by k_asm) (by k_mem) (by first | omega | (dsimp only; omega)) ?_; k_whole); intro t' tk')
  k_with "subscriptTail" => (k_here; (with_reducible show wpAny _ _ (subscriptTail _ _ (Value.ref _) (Value.int _ _)) _ _ _); k_dflt (refine' item_lst (by k_asm) (by k_mem) (by first | assumption | exact Rel.s (by assumption) | exact Rel.h (by assumption) | exact Rel.x (by assumption)) (by first | assumption | exact At.cast (by assumption) (by omega)) (by first | omega | (dsimp only; omega)) ?_ (by with_unfolding_all rfl); k_whole); intro v' hv')
  k_with "subscriptTail" => (k_here; (with_reducible show wpAny _ _ (subscriptTail _ _ (Value.ref _) (Value.int _ _)) _ _ _); k_dflt (refine' itemI_lst (by k_asm) (by k_mem) (by first | assumption | exact Rel.s (by assumption) | exact Rel.h (by assumption) | exact Rel.x (by assumption)) (by first | assumption | exact At.cast (by assumption) (by omega)) (by first | omega | (dsimp only; omega)) ?_ (by with_unfolding_all rfl); k_whole); intro t')
  k_with "setItem ref" => (k_here; (with_reducible show wpAny _ _ (setItem (Value.ref _) (Value.int _ _) _) _ _ _); k_dflt (refine' set_lst (by k_asm) (by k_asm) (by k_upd) (by omega) (by omega) (by first | omega | (dsimp only; omega)) ?_; k_whole); intro h' F' N'; (try k_sweep))
  k_with "call builtin:list.append" => (k_here; (with_reducible show wpAny _ _ (call (Value.builtin _) [Value.ref _, _]) _ _ _); k_dflt (refine' append_lst (by k_asm) (by k_asm) (by k_upd) (by first | omega | (dsimp only; omega)) ?_; k_whole); intro h' F' N'; (try k_sweep))
  k_with "WhlIf" => first | refine WhlIf.yes (decide_eq_true (by omega)) ?_ | refine WhlIf.no (decide_eq_false (by omega)) ?_
  k_with "exec While Compare cons nil" => ((with_reducible rename MarkW => mk'); clear mk'; refine Stop.by ?_)
  k_with "exec For Name Name cons nil" => ((with_reducible rename MarkF => mk'); (rename Fr _ _ _ _ => lF'); (with_unfolding_all refine' For_invVF lF' (by exact rfl) (by exact rfl) ?_; k_whole))
  k_with "exec For Name Call cons nil" => ((with_reducible rename MarkF => mk'); (rename Fr _ _ _ _ => lF'); (with_unfolding_all refine' For_invVF lF' (by exact rfl) (by exact rfl) ?_; k_whole))
  k_with "pyIter ref" => ((with_reducible rename MarkF => mk'); clear mk'; refine Stop.by ?_)
  k_with "exec While Constant" => (k_here; k_dflt (refine whl_start 100 ?_))
  k_with "compareOp Eq" => (k_here; k_dflt (refine' eq_datB (by assumption) (by assumption) (by exact mem9s (by k_asm) (by repeat (first | assumption | refine immTail ?_)) (by k_asm) (by k_asm)) (by first | rfl | assumption) (by first | rfl | assumption) (by ktr_units) ?_; k_whole))
  k_with "subscriptTail" => (k_here; (with_reducible show wpAny _ _ (subscriptTail _ _ (Value.ref _) (Value.int _ _)) _ _ _); k_dflt (refine' tup9B (by assumption) (by exact mem9s (by k_asm) (by repeat (first | assumption | refine immTail ?_)) (by k_asm) (by k_asm)) (by decide) (by decide) (by rfl) (by rfl) ?_ (by with_unfolding_all rfl); k_whole))
  k_with "call builtin:list.pop" => (k_here; (with_reducible show wpAny _ _ (call (Value.builtin _) [Value.ref _]) _ _ _); k_dflt (refine' pop_lst (by k_asm) (by k_asm) (by k_upd) (by first | omega | (dsimp only; omega)) ?_; k_whole); intro h' F' N'; (try k_sweep))
  k_with "UnrEnd" => (refine unrLed (by k_asm) (by k_asm) (by assumption) ?_)
  k_with "k_mem" => first | with_reducible assumption | (refine memOf ?_; with_reducible assumption)
  k_with "k_all" => assumption
  k_with "call builtin:len" => (k_here; (with_reducible show wpAny _ _ (call (Value.builtin "len") [Value.ref _]) _ _ _); k_dflt (refine' len_dat (by k_asm) (by k_mem) (by first | assumption | exact Rel.h (by assumption) | exact Rel.s (by assumption) | exact Rel.x (by assumption)) (by first | omega | (dsimp only; omega)) ?_; k_whole); intro t' tk')
  k_with "call ref" => (k_here; (with_reducible show wpAny _ _ (call (Value.ref _) [_, _]) _ _ _); k_dflt (refine' digit_spec (by k_asm) (by k_asm) (by k_asm) (by first | k_asm | (refine newsSub (by assumption) (fun p hp => List.Mem.tail _ hp))) (by k_asm) (by rfl) (by ktr_room) (by ktr_units) (by assumption) (by assumption) (by assumption) (by omega) (by omega) ?_; k_whole); intro _ _ _ _ _ _ _ _ _ _; (try k_sweep))
  k_with "compareOp Eq" => (k_here; (with_reducible show wpAny _ _ (compareOp CmpOp.Eq _ (Value.ref _)) _ _ _); k_dflt (refine' eq_cellB (by k_asm) (by k_mem) (by assumption) (by exact mem9s (by k_asm) (by repeat (first | assumption | refine immTail ?_)) (by k_asm) (by k_asm)) (by ktr_units) ?_; k_whole))
  k_with "setAttr ref" => (k_here; k_dflt (first | ((with_reducible show wpAny _ _ (setAttr _ (PySem.Str.ofString "e") _) _ _ _); refine' set_e (by k_asm) (by k_asm) (by k_asm) (by assumption) (by assumption) (by assumption) ?_; k_whole) | ((with_reducible show wpAny _ _ (setAttr _ (PySem.Str.ofString "cp") _) _ _ _); refine' set_cp (by k_asm) (by k_asm) (by k_asm) (by assumption) (by assumption) (by assumption) ?_; k_whole) | ((with_reducible show wpAny _ _ (setAttr _ (PySem.Str.ofString "p") _) _ _ _); refine' set_p (by k_asm) (by k_asm) (by k_asm) (by assumption) (by assumption) (by assumption) ?_; k_whole) | ((with_reducible show wpAny _ _ (setAttr _ (PySem.Str.ofString "b0") _) _ _ _); refine' set_b0 (by k_asm) (by k_asm) (by k_asm) (by assumption) (by assumption) (by assumption) ?_; k_whole)); intro h' c' F' N' R'; (try dsimp only at N' R'); (try k_sweep))
  k_with "compareOp Eq int int" => (k_here; (with_reducible refine' eq_same ?_); k_dflt k_whole)
  k_with "call ref" => ((with_reducible show wpAny _ _ (call (Value.ref 104) _) _ _ _); (with_reducible rename MarkW => mk'); refine Stop.by ?_)
  k_with "call ref" => ((with_reducible show wpAny _ _ (call (Value.ref 398) _) _ _ _); (with_reducible rename MarkW => mk'); refine Stop.by ?_)
  k_with "call ref" => ((with_reducible show wpAny _ _ (call (Value.ref 391) _) _ _ _); (with_reducible rename MarkW => mk'); refine Stop.by ?_)
  k_with "call ref" => ((with_reducible show wpAny _ _ (call (Value.ref 531) _) _ _ _); (with_reducible rename MarkW => mk'); refine Stop.by ?_)
  k_with "call ref" => ((with_reducible show wpAny _ _ (call (Value.ref 510) _) _ _ _); (with_reducible rename MarkW => mk'); refine Stop.by ?_)
  k_with "call ref" => ((with_reducible show wpAny _ _ (call (Value.ref 482) _) _ _ _); (with_reducible rename MarkW => mk'); refine Stop.by ?_)
  k_with "call ref" => ((with_reducible show wpAny _ _ (call (Value.ref 543) _) _ _ _); (with_reducible rename MarkW => mk'); refine Stop.by ?_)
  k_with "call ref" => ((with_reducible show wpAny _ _ (call (Value.ref 348) _) _ _ _); (with_reducible rename MarkW => mk'); refine Stop.by ?_)
  k_with "call ref" => ((with_reducible show wpAny _ _ (call (Value.ref 550) _) _ _ _); (with_reducible rename MarkW => mk'); refine Stop.by ?_)
  k_with "call ref" => ((with_reducible show wpAny _ _ (call (Value.ref 557) _) _ _ _); (with_reducible rename MarkW => mk'); refine Stop.by ?_)
  k_with "call ref" => ((with_reducible show wpAny _ _ (call (Value.ref 334) _) _ _ _); (with_reducible rename MarkW => mk'); refine Stop.by ?_)
  k_with "call ref" => ((with_reducible show wpAny _ _ (call (Value.ref 341) _) _ _ _); (with_reducible rename MarkW => mk'); refine Stop.by ?_)
  k_with "call ref" => ((with_reducible show wpAny _ _ (call (Value.ref 564) _) _ _ _); (with_reducible rename MarkW => mk'); refine Stop.by ?_)
  k_with "call ref" => ((with_reducible show wpAny _ _ (call (Value.ref 520) _) _ _ _); (with_reducible rename MarkF => mk'); clear mk'; refine Stop.by ?_)
  k_with "subscriptTail Name Slice ref ref" => ((with_reducible rename MarkF => mk'); clear mk'; refine Stop.by ?_)
  k_with "subscriptTail Name Constant ref int" => ((with_reducible rename MarkF => mk'); clear mk'; refine Stop.by ?_)
  k_with "compareOp NotEq ref ref" => ((with_reducible rename MarkF => mk'); clear mk'; refine Stop.by ?_)
  k_with "compareOp NotEq" => ((with_reducible rename MarkF => mk'); clear mk'; refine Stop.by ?_)
  k_with "subscriptTail Name UnaryOp ref int" => ((with_reducible rename MarkF => mk'); clear mk'; refine Stop.by ?_)
  k_with "subscriptTail Subscript Name UnaryOp Constant ref int" => ((with_reducible rename MarkF => mk'); clear mk'; refine Stop.by ?_)
  k_with "compareOp Eq ref ref" => ((with_reducible rename MarkW => mk'); clear mk'; refine Stop.by ?_)
  k_with "callWith ref" => (k_here; (with_reducible show wpAny _ _ (callWith _ _ _ (backTo _ (starEach [] _)) []) _ _ _); k_dflt (refine' callWith_K0 (Frag.In.keeps (by assumption : (hd.heap_39 _).In _) (Fr.keep (by assumption))) (by k_is) ?_; k_whole))
  trivial
theorem rangeLen0 {n : Nat} : Builtin.Range.rangeSize 0 (n : Int) 1 = (n : Int) := by
  simp only [Builtin.Range.rangeSize]
  split
  · omega
  · split <;> omega
theorem kw_P1_2 : True := by
  k_with "exec If Compare" => ((with_reducible rename MarkF => mk'); clear mk'; refine Stop.by ?_)
  trivial
def wThree : W := ⟨0, 0, -1, -1, -1, 0, 0, [cell 0 0, cell 0 1, cell 0 2], [], [], [cell 5 0]⟩
def wFour : W := ⟨0, 0, -1, -1, -1, 0, 0, [cell 0 0, cell 0 1, cell 0 2], [], [], [cell 5 0, cell 0 0, cell 0 1, cell 0 2]⟩
def wSix : W := ⟨0, 0, -1, -1, -1, 0, 0, [cell 0 0, cell 0 1, cell 0 2], [], [], [cell 5 0, cell 0 0, cell 0 1, cell 0 2, cell 5 0, cell 5 (-1)]⟩
theorem row : PySem.Challenge.rw_sa0158_01.Holds := hd (by
  k_go0
  (all_goals try k_fold)
  have mkf : MarkF := ⟨⟩
  k_steps
  rename_i h₁ F₁ N₁
  refine Stop.out ?_
  refine potMonoW F₁ ?inner ?cont
  case inner =>
    k_steps
    · (rename Fr _ _ _ _ => qF); (rename News _ _ _ _ => qN); (rename IntsAre _ _ => qI)
      exact Stop.by ⟨_, _, _, _, rfl, qF, newsSub qN (fun p hp => by rcases List.mem_cons.mp hp with h | h; (· rw [h]; exact List.Mem.head _); (· cases h)), intsDat qI, by rw [List.length_take]; omega, by rw [List.length_take]; omega, rfl, rfl⟩
    · (rename Fr _ _ _ _ => qF); (rename News _ _ _ _ => qN)
      exact Stop.by ⟨_, [_], _, [0], rfl, qF, qN, .cons (.int _ _) .nil, Nat.zero_lt_one, by decide, rfl, rfl⟩
  case cont =>
    rintro v s' ⟨nu, vs, nn, ns, rfl, F₂, N₂, dV, n0, n1, hG1, hO1⟩
    replace hG1 := hG1.trans (by assumption : _ = #[])
    dsimp only at hO1
    rename_i zw zs0 zs1 zmg zmb zG zY zfa zo zpm zdoc zkV zho zhg zKX zX zV zGL zT zB zTE zTW zw9 zw8 zM zw7 zw6 zhcd zw5 zhs zhlay0 zhL1 zhr1 zhl2 zw4 zw3 zw2 zw1 zw0 zhL zra zwl zr0 zhI zhr zhc1 zhc2 zK0 zhD
    clear zhD zhc2 zhc1 zhr zhI zr0 zwl zra zhL zhl2 zhr1 zhL1 zhlay0 zhs zhcd zho zX zV zY zG zhg
    clear F₁ N₁
    have mkf : MarkF := ⟨⟩
    k_steps
    (rename Fr _ _ _ _ => F₃); (rename News _ _ _ _ => N₃)
    refine Stop.out ?_
    refine areasMono F₃ N₃ ?inner ?cont
    case inner =>
      refine genNews N₃ fun rest hR N₄ => ?_
      clear N₃
      k_steps
      (rename Fr _ _ _ _ => qF); (rename News _ _ _ _ => qN); (rename ∀ p ∈ rest, p.1 < _ => hdm)
      subst hR
      replace hdm := allLt_of hdm
      simp only [AllLt, and_true] at hdm
      refine' mkLed qF qN ?q1 ?q2 ?q3 ?q4 ?q5 ?q6 ?q7 ?q8 ?q9 ?q10 ?q11 ?q12 ?q13 ?q14 ?o1 ?o2 ?o3 ?o4 ?o5 ?o6 ?o7 ?r1 ?r2 ?r3 ?r4 ?r5 ?r6 rfl rfl dV n0 n1 rfl rfl
      case q1 => repeat (first | exact List.Mem.head _ | refine List.Mem.tail _ ?_)
      case q3 => repeat (first | exact List.Mem.head _ | refine List.Mem.tail _ ?_)
      case q2 => repeat (first | exact List.Mem.head _ | refine List.Mem.tail _ ?_)
      case q4 => repeat (first | exact List.Mem.head _ | refine List.Mem.tail _ ?_)
      case q9 => repeat (first | exact List.Mem.head _ | refine List.Mem.tail _ ?_)
      all_goals (try ((repeat (first | exact List.Mem.head _ | refine List.Mem.tail _ ?_)); done))
      all_goals omega
    case cont =>
      rintro pt v s' rfl ⟨a, k, c, q, imm, rfl, F₄, N₄, R₄, hA, hP, hO, hq, hG2, hO2⟩
      replace hG2 := hG2.trans hG1
      replace hO2 := hO2.trans hO1
      clear hG1 hO1
      clear F₃ N₃
      have hI : ∀ p ∈ imm, p ∈ imm := fun _ h => h
      have mkw : MarkW := ⟨⟩
      k_steps
      refine Stop.out ?_
      (rename Fr _ _ _ _ => F₄); (rename News _ _ _ _ => N₄)
      refine new_var_start (imm := imm) (rest := potL pt nu q imm) (by k_asm) F₄ (by k_asm) N₄ (by k_asm) rfl (by ktr_room) (by ktr_units) R₄ (by decide) (by decide) (by decide) (by decide) (offPot hP hA hO) hA (immPot hI) ?_
      intro c1 T1 u1 u2 h1 tk1 F₅ N₅ R₅ A₅
      clear N₄ F₄
      have O₅ := offApp A₅.off (offPot (q := q) hP hA hO)
      k_steps
      refine Stop.out ?_
      (rename Fr _ _ _ _ => F₄); (rename News _ _ _ _ => N₄)
      refine new_var_start (imm := (T1, _) :: imm) (rest := (T1, _) :: potL pt nu q imm) (by k_asm) F₄ (by k_asm) N₄ (by k_asm) rfl (by ktr_room) (by ktr_units) R₅ (by decide) (by decide) (by decide) (by decide) O₅ hA (immCons (immPot hI)) ?_
      intro c2 T2 u3 u4 h2 tk2 F₆ N₆ R₆ A₆
      clear N₄ F₄
      have O₆ := offApp A₆.off O₅
      k_steps
      refine Stop.out ?_
      (rename Fr _ _ _ _ => F₄); (rename News _ _ _ _ => N₄)
      refine new_var_start (imm := (T2, _) :: (T1, _) :: imm) (rest := (T2, _) :: (T1, _) :: potL pt nu q imm) (by k_asm) F₄ (by k_asm) N₄ (by k_asm) rfl (by ktr_room) (by ktr_units) R₆ (by decide) (by decide) (by decide) (by decide) O₆ hA (immCons (immCons (immPot hI))) ?_
      intro c3 T3 u5 u6 h3 tk3 F₇ N₇ R₇ A₇
      clear N₄ F₄
      have O₇ := offApp A₇.off O₆
      have N₈ : News _ _ h3 (Led a k c3 wThree _) := N₇
      have R₈ : Rel k _ c3 wThree := R₇
      clear N₇ R₇ R₆ R₅ R₄
      k_steps
      refine Stop.out ?_
      (rename Fr _ _ _ _ => F₄); (rename News _ _ _ _ => N₄)
      rename_i lx _ lxl
      have W1 := fun o => addsOne (o := o) (rest := (T3, tupO 0 2 u5 u6 0) :: (T2, tupO 0 1 u3 u4 0) :: (T1, tupO 0 0 u1 u2 0) :: potL pt nu q imm) (k := k) (c := c3) (σ := wThree) (allLt_all (d := lx) lxl)
      refine set_arguments_spec (imm := (T3, tupO 0 2 u5 u6 0) :: (T2, tupO 0 1 u3 u4 0) :: (T1, tupO 0 0 u1 u2 0) :: imm) (rest := (lx, _) :: (T3, tupO 0 2 u5 u6 0) :: (T2, tupO 0 1 u3 u4 0) :: (T1, tupO 0 0 u1 u2 0) :: potL pt nu q imm) (vs := [.ref T1, .ref T2, .ref T3]) (ds := [cell 0 0, cell 0 1, cell 0 2]) (by k_asm) F₄ (by k_asm) (newsSub N₄ ledSwap) (by k_asm) rfl (by ktr_room) (by ktr_units) R₈ (by decide) (by decide) (by decide) (by decide) (offApp (W1 _).off O₇) hA (immTail (immCons (immCons (immCons (immPot hI))))) (List.Mem.head _) (.cons (DatIn.tuple (List.mem_append.mpr (.inr (List.Mem.tail _ (List.Mem.tail _ (List.Mem.head _))))) (.cons (.int _ _) (.cons (.int _ _) .nil))) (.cons (DatIn.tuple (List.mem_append.mpr (.inr (List.Mem.tail _ (List.Mem.head _)))) (.cons (.int _ _) (.cons (.int _ _) .nil))) (.cons (DatIn.tuple (List.mem_append.mpr (.inr (List.Mem.head _))) (.cons (.int _ _) (.cons (.int _ _) .nil))) .nil))) rfl (by decide) ?_
      intro c4 h4 tk4 F₉ N₉ R₉
      have N₁₀ : News _ _ h4 (Led a k c4 wFour _) := newsSub N₉ ledDrop
      have R₁₀ : Rel k _ c4 wFour := R₉
      clear N₄ F₄ N₉ R₉ R₈ lxl
      k_steps
      refine Stop.out ?_
      (rename Fr _ _ _ _ => F₄); (rename News _ _ _ _ => N₄)
      rename_i dx _ lxl
      have W2 := fun o => addsOne (o := o) (rest := (T3, tupO 0 2 u5 u6 0) :: (T2, tupO 0 1 u3 u4 0) :: (T1, tupO 0 0 u1 u2 0) :: potL pt nu q imm) (k := k) (c := c4) (σ := wFour) (allLt_all (d := dx) lxl)
      refine set_x_grow2 (imm := (dx, _) :: (T3, tupO 0 2 u5 u6 0) :: (T2, tupO 0 1 u3 u4 0) :: (T1, tupO 0 0 u1 u2 0) :: imm) (rest := (dx, _) :: (T3, tupO 0 2 u5 u6 0) :: (T2, tupO 0 1 u3 u4 0) :: (T1, tupO 0 0 u1 u2 0) :: potL pt nu q imm) (d := cell 5 (-1)) (by k_asm) F₄ (by k_asm) (newsSub N₄ ledSwap) (by k_asm) rfl (by ktr_room) (by ktr_units) (relMono R₁₀ (fun _ h => List.Mem.tail _ h)) (by decide) (by decide) (by decide) (by decide) (offApp (W2 _).off O₇) hA (immCons (immCons (immCons (immCons (immPot hI))))) (by decide) (DatIn.tuple (List.mem_append.mpr (.inr (List.Mem.head _))) (.cons (.int _ _) (.cons (.int _ _) .nil))) ?_
      intro c5 h5 tk5 F₁₁ N₁₁ R₁₁
      have N₁₂ : News _ _ h5 (Led a k c5 wSix _) := N₁₁
      have R₁₂ : Rel k _ c5 wSix := R₁₁
      have A₁₂ := addsTrans (addsTrans (addsTrans A₅ A₆) A₇) (W2 (tupO 5 (-1) 281 (tk4 + 1 + 1) 0))
      clear N₄ F₄ N₁₁ R₁₁ R₁₀ lxl
      k_steps
      refine Stop.out ?_
      (rename Fr _ _ _ _ => F₄); (rename News _ _ _ _ => N₄)
      rename_i kl _ lxl _ _
      have mkf : MarkF := ⟨⟩
      obtain ⟨add, hadd⟩ : ∃ add : List (Addr × Obj), add = [(dx, tupO 5 (-1) 281 (tk4 + 1 + 1) 0), (T3, tupO 0 2 u5 u6 0), (T2, tupO 0 1 u3 u4 0), (T1, tupO 0 0 u1 u2 0)] := ⟨_, rfl⟩
      have A₁₃ : Adds a (potL pt nu q imm) add := by rw [hadd]; exact A₁₂
      have R₁₃ : Rel k (add ++ imm) c5 wSix := by rw [hadd]; exact R₁₂
      have N₁₃ : News _ _ _ (lawL a k pt nu kl (add ++ imm) c5 wSix q 0 []) := newsSub N₄ (by rw [hadd]; exact startIn (add := [(dx, tupO 5 (-1) 281 (tk4 + 1 + 1) 0), (T3, tupO 0 2 u5 u6 0), (T2, tupO 0 1 u3 u4 0), (T1, tupO 0 0 u1 u2 0)]))
      have hlt₁ : ∀ p ∈ add ++ imm, @LT.lt Nat _ p.1 kl := by
        rw [hadd]
        exact fun p hp => allLt_all (l := Led a k c5 wSix ((dx, tupO 5 (-1) 281 (tk4 + 1 + 1) 0) :: (T3, tupO 0 2 u5 u6 0) :: (T2, tupO 0 1 u3 u4 0) :: (T1, tupO 0 0 u1 u2 0) :: potL pt nu q imm)) lxl p (ledIn p (immCons (immCons (immCons (immCons (immPot hI)))) p hp))
      have S₁ : Sep a pt nu kl ((ens []).map (·.ad)) (add ++ imm) := startSep A₁₃ hP hO (by have q := lxl.2.2.2.2.2.2.2.1; exact q) hlt₁
      have hS₁ : LawS a k pt nu kl (add ++ imm) c5 wSix q [] [] 0 := ⟨R₁₃, S₁, hq, startInv rfl, List.forall_mem_nil _⟩
      clear A₁₃ A₁₂ R₁₂ R₁₃ hlt₁ lxl N₄ W2 hadd A₇ A₆ A₅ O₇ O₆ O₅
      (rename MarkW => mkw)
      clear mkw
      refine digit_spec (rest := keptL kl 0 (ens []) (add ++ imm)) (by k_asm) F₄ (by k_asm) N₁₃ (by k_asm) rfl (by ktr_room) (by ktr_units) hA (sepPot S₁ hA) hq (by omega) (by omega) ?_
      intro d t' q' h₆ tk₆ F₁₄ N₁₄ hq' hd0 hd1
      have hS₂ : LawS a k pt nu kl (add ++ imm) c5 wSix q' [] [] 0 := ⟨hS₁.R, hS₁.S, hq', hS₁.I, hS₁.sn⟩
      clear F₄ N₁₃ hS₁ hq
      k_steps
      refine Stop.out ?_
      (rename Fr _ _ _ _ => F₄); (rename News _ _ _ _ => N₄)
      have hn : ((3 + d).toNat : Int) = 3 + d := by omega
      refine' law_range (n := (3 + d).toNat) (LawJ a k pt nu kl) rfl ?lr1 ?lr2 ?lr3 ?fF ?fN ?_ ?_ ?_
      case lr1 => assumption
      case lr2 => exact small_one (by omega) (by omega) (by omega) (by omega)
      case lr3 => exact hn ▸ rangeLen0
      case fF => exact F₄
      case fN => exact N₄
      · exact ⟨_, _, _, _, _, _, _, _, _, rfl, hS₂, .inl rfl, by repeat (first | exact all1 rfl | refine allC rfl ?_)⟩
      · clear F₄ N₄ hS₂ hq'
        rintro i t m₁ nx h₇ tk₇ own hi hown hoff ⟨c, σ, q, kn, cs, l, imm, nt, tn, rfl, hS₀, hnt, hm⟩ F₁ N₁
        have hi16 : i ≤ 16 := by omega
        obtain ⟨hS, hL⟩ := turnIn hS₀ hoff
        rw [hL] at N₁
        rw [knownL hm] at F₁
        have hPA := sepPot (kn := kn) hS.S hA
        have hOA := sepOff (kn := kn) hS.S hA
        have hq := hS.q
        refine turnMono ?_
        k_sweep
        clear zGL zM zB zTE zTW dV n0 n1 hO hP hG2 hO2 S₁ hd0 hd1 hn W1
        have mkw : MarkW := ⟨⟩
        k_steps
        refine Stop.out ?_
        (rename MarkW => mkw); clear mkw
        (rename Fr _ _ _ _ => F₂); (rename News _ _ _ _ => N₂)
        refine digit_spec (rest := keptL kl kn (ens cs) (imm ++ own)) (by k_asm) F₂ (by k_asm) N₂ (by k_asm) rfl (by ktr_room) (by ktr_units) hA hPA hq (by omega) (by omega) ?_
        intro d0 t0 q0 h₈ tk₈ F₃ N₃ hq0 hd0 hd1
        clear F₂ N₂
        have mkf : MarkF := ⟨⟩
        k_steps
        refine Stop.out ?_
        (rename Fr _ _ _ _ => F₄); (rename News _ _ _ _ => N₄)
        have hf : (d0 + 9).fmod 10 = (d0 + 9) % 10 := Int.fmod_eq_emod_of_nonneg _ (by decide)
        have hdd : ∃ dd : Int, (d0 + 9).fmod 10 = dd ∧ 0 ≤ dd ∧ dd < 10 := ⟨_, rfl, by rw [hf]; omega, by rw [hf]; omega⟩
        obtain ⟨dd, hdd, e0, e9⟩ := hdd
        rw [hdd] at F₄
        have hS9 : LawS a k pt nu kl (imm ++ own) c σ q0 cs l i := ⟨hS.R, hS.S, hq0, hS.I, hS.sn⟩
        clear hS hS₀ hoff hL hq hf hdd hd0 hd1 hm
        refine midMono a k pt nu kl own i s' F₄ ?deed ?tail
        case deed =>
          have mkw : MarkW := ⟨⟩
          k_steps
          · obtain rfl : dd = 0 := by assumption
            have hoi : ∀ p ∈ own, p ∈ imm ++ own := fun p hp => List.mem_append.mpr (.inr hp)
            have hcl := hS9.I.z5
            have hz4 := hS9.I.z4
            have hzs := hS9.I.z2
            have lE : (refE (ens cs)).length = cs.length := by rw [refE, ens, List.length_map, List.length_map]
            refine Stop.out ?_
            (rename Fr _ _ _ _ => F5); (rename News _ _ _ _ => N5)
            refine digit_spec (rest := keptL kl kn (ens cs) (imm ++ own)) (by k_asm) F5 (by k_asm) N5 (by k_asm) rfl (by ktr_room) (by ktr_units) hA hPA hS9.q (by omega) (by omega) ?_
            intro dn tdn qa hdn tkdn F6 N6 hqa dn0 dn1
            clear N5 F5
            k_steps
            refine Stop.out ?_
            (rename Fr _ _ _ _ => F5); (rename News _ _ _ _ => N5)
            refine digit_spec (rest := keptL kl kn (ens cs) (imm ++ own)) (by k_asm) F5 (by k_asm) N5 (by k_asm) rfl (by ktr_room) (by ktr_units) hA hPA hqa (by omega) (by omega) ?_
            intro db tdb qb hdb tkdb F6 N6 hqb db0 db1
            clear N5 F5
            k_steps
            refine Stop.out ?_
            (rename Fr _ _ _ _ => F5); (rename News _ _ _ _ => N5)
            refine digit_spec (rest := keptL kl kn (ens cs) (imm ++ own)) (by k_asm) F5 (by k_asm) N5 (by k_asm) rfl (by ktr_room) (by ktr_units) hA hPA hqb (by omega) (by omega) ?_
            intro dc tdc qc hdc tkdc F6 N6 hqc dc0 dc1
            clear N5 F5
            k_steps
            refine Stop.out ?_
            (rename Fr _ _ _ _ => F5); (rename News _ _ _ _ => N5)
            obtain ⟨n, hn⟩ : ∃ n : Nat, dn = (n : Int) := ⟨dn.toNat, by omega⟩
            subst hn
            have hO3 := offPot (q := qc) hPA hA hOA
            refine law_seen_spec (imm := imm ++ own) (rest := potL pt nu qc (keptL kl kn (ens cs) (imm ++ own))) (l := l) (by k_asm) F5 (by k_asm) N5 (by k_asm) rfl (by ktr_room) (by ktr_units) hS9.R (hS9.I.sm (by omega)) hO3 hA (immPot immKept') (by omega) hS9.I.ev.ch hS9.I.ev.cps (by omega) ?_
            intro D add h₁₀ tk₁₀ F6 N6 hD A6
            have N7 := newsSub N6 keptApp
            have hR7 : Rel k (add ++ (imm ++ own)) c σ := relMono hS9.R fun p hp => List.mem_append.mpr (.inr hp)
            have hS7 := sepAdd hS9.S A6
            have hPA7 := sepPot (kn := kn) hS7 hA
            have hOA7 := sepOff (kn := kn) hS7 hA
            have hO7 := offPot (q := qc) hPA7 hA hOA7
            clear N6 N5 F5
            k_steps
            refine Stop.out ?_
            (rename MarkW => mkw); clear mkw
            (rename Fr _ _ _ _ => F5); (rename News _ _ _ _ => N5); (rename Rel _ _ _ _ => R5)
            rename_i T hT lT
            (rename Con => c1)
            obtain ⟨p0, hTop, t0, t1, t2, t3, t4⟩ := hS9.I.top
            have I1 : Inv { σ with p := 100 + db } cs l i := hS9.I.same (σ' := { σ with p := 100 + db }) rfl rfl rfl rfl rfl rfl rfl hS9.I.x6 hS9.I.xc
            have w1 := fun o => addsOne (o := o) (rest := potL pt nu qc (keptL kl kn (ens cs) (add ++ (imm ++ own)))) (k := k) (c := c1) (σ := { σ with p := 100 + db }) (allLt_all (d := T) lT)
            refine do_try_spec (σ := { σ with p := 100 + db }) (imm := add ++ (imm ++ own)) (rest := (T, _) :: potL pt nu qc (keptL kl kn (ens cs) (add ++ (imm ++ own)))) (n := n) (p0 := p0) (by k_asm) F5 (by k_asm) (newsSub N5 ledSwap) (by k_asm) rfl (by ktr_room) (by ktr_units) R5 (I1.sm (by omega)) (offApp (w1 _).off hO7) hA (immTail (immPot immKept')) (List.Mem.head _) (by omega) hTop t0 t1 (show σ.sk.length ≤ 3900 by omega) ?_
            intro c2 h₁₂ tk₁₂ F6 N6 R6
            have N8 := newsSub N6 ledDrop
            clear N6 N5 F5
            obtain ⟨o1, o2, o3, o4, o5, o6, o7⟩ := id hA
            have sp1 := hS7.p1
            have sp2 := hS7.p2
            have sp3 := hS7.p3
            have hkl := sepKl hS7 (ens cs).length
            rw [List.take_length] at hkl
            k_steps
            (rename Fr _ _ _ _ => qF); (rename News _ _ _ _ => qN)
            rename_i D2 _ lN
            obtain ⟨ta, tb, tc, N9⟩ : ∃ ta tb tc, News zs1.heap zs1.heap.objs.size h' ((D2, entO ⟨D2, p0, (n : Int), D, 100 + db, ta, tb, tc, 0⟩) :: Led a k c2 (tryW' { σ with p := 100 + db } n p0 (200 + dc)) (potL pt nu qc ((kl, listOf (refE (ens cs) ++ [Value.ref D2]).toArray (kn + 1)) :: (entsL (ens cs) ++ (add ++ (imm ++ own)))))) := ⟨_, _, _, qN⟩
            have hlt := allLt_all (l := Led a k c2 (tryW' { σ with p := 100 + db } n p0 (200 + dc)) (potL pt nu qc (keptL kl kn (ens cs) (add ++ (imm ++ own))))) (d := D2) lN
            have hS9' : LawS a k pt nu kl (add ++ (imm ++ own)) c2 (tryW' { σ with p := 100 + db } n p0 (200 + dc)) qc (cs ++ [tryC { σ with p := 100 + db } l ⟨D2, p0, (n : Int), D, 100 + db, ta, tb, tc, 0⟩ n]) l (i + 1) := tryS (D := D) R6 hS7 hqc I1 t0 t1 t2 t3 (by omega) (fun z hz => (hS9.sn z hz).mono (kvMono fun p hp => List.mem_append.mpr (.inr hp))) hD hlt
            have hn7 : NtOk (tryW' { σ with p := 100 + db } n p0 (200 + dc)) (cs ++ [tryC { σ with p := 100 + db } l ⟨D2, p0, (n : Int), D, 100 + db, ta, tb, tc, 0⟩ n]) nt := hnt.mono (fun _ h => h) bSnoc
            exact Stop.by ⟨rfl, _, _, _, c2, _, qc, kn + 1, _, l, add ++ (imm ++ own), nt, tn, rfl, qF, newsSub N9 (lawSnoc (z := tryC { σ with p := 100 + db } l ⟨D2, p0, (n : Int), D, 100 + db, ta, tb, tc, 0⟩ n)), fun p hp => List.mem_append.mpr (.inr (hoi p hp)), hS9', hn7, allC rfl (allC rfl (allC rfl (allC rfl (all1 rfl))))⟩
          · rcases (show dd = 1 ∨ dd = 2 by omega) with rfl | rfl
            · skip
              have hoi : ∀ p ∈ own, p ∈ imm ++ own := fun p hp => List.mem_append.mpr (.inr hp)
              have hcl := hS9.I.z5
              have hcl6 := hS9.I.z6
              have lE : (refE (ens cs)).length = cs.length := by rw [refE, ens, List.length_map, List.length_map]
              refine Stop.out ?_
              (rename Fr _ _ _ _ => F6); (rename News _ _ _ _ => N6)
              refine eq_dat (d := .list (cs.map entD)) (e := .list []) (mem9s (rest := (_, listOf #[] 0) :: (kl, listOf (refE (ens cs)).toArray kn) :: (entsL (ens cs) ++ (imm ++ own))) N6 (allC (List.Mem.head _) (fun p hp => List.Mem.tail _ (ledIn p (List.Mem.tail _ (List.Mem.tail _ hp))))) (by k_asm) F6) (DatIn.list (List.mem_append.mpr (.inr (List.Mem.tail _ (List.Mem.head _)))) ((keptDat hS9.sn).mono (kvMono fun p hp => List.Mem.tail _ (List.Mem.tail _ hp)))) (DatIn.list (vs := []) (n := 0) (List.mem_append.mpr (.inr (List.Mem.head _))) .nil) (keptOk hS9.I.gd) rfl (by ktr_units) ?_
              have N7 := newsSub N6 (fun p hp => List.Mem.tail _ hp)
              clear N6
              rcases snocCases cs with ecs | ⟨cs0, z, ecs⟩
              · subst ecs
                rw [@decide_eq_true (Dat.list (List.map entD []) = Dat.list []) (Classical.propDecidable _) rfl]
                k_steps
                all_goals ((rename Fr _ _ _ _ => qF); (rename News _ _ _ _ => qN))
                have hS7 : LawS a k pt nu kl (imm ++ own) c σ q0 [] l (i + 1) := ⟨hS9.R, hS9.S, hS9.q, hS9.I.up, hS9.sn⟩
                have hn7 := hnt.mono (σ' := σ) (cs' := []) (fun _ h => h) (fun _ _ _ => rfl)
                exact Stop.by ⟨rfl, _, _, _, c, _, q0, kn, [], _, imm ++ own, nt, tn, rfl, qF, qN, hoi, hS7, hn7, allC rfl (allC rfl (allC rfl (allC rfl (all1 rfl))))⟩
              · subst ecs
                rw [@decide_eq_false _ (Classical.propDecidable _) (by intro e; simp at e)]
                have mkw : MarkW := ⟨⟩
                k_steps
                refine Stop.out ?_
                (rename MarkW => mkw); clear mkw
                (rename Fr _ _ _ _ => F5); (rename News _ _ _ _ => N5)
                have hb := hS9.I.b
                rw [bLast] at hb
                have hlz := hS9.I.gd.last
                have hlen0 : (ens cs0).length ≤ 100 := by rw [ens, List.length_map]; rw [List.length_append, List.length_singleton] at hcl; omega
                have ee : ens (cs0 ++ [z]) = ens cs0 ++ [z.en] := by simp [ens]
                have hS8 : Sep a pt nu kl ((ens cs0 ++ [z.en]).map (·.ad)) (imm ++ own) := by rw [← ee]; exact hS9.S
                have hl4 : z.l.length ≤ 4000 := by have := hcl6 z (List.mem_append.mpr (.inr (List.Mem.head _))); omega
                have hD : DatIn (KV ++ (imm ++ own)) (.ref z.en.sn) (seenD (restW σ z.ds z.e z.cp z.mt z.hl) z.ds.length z.l) := by rw [hS9.I.seen]; exact hS9.sn z (List.mem_append.mpr (.inr (List.Mem.head _)))
                have hK : kqdOk 8 (seenD (restW σ z.ds z.e z.cp z.mt z.hl) z.ds.length z.l) = true := by rw [hS9.I.seen]; exact hS9.I.seenOk
                rw [ee] at N5
                refine law_back_one (es0 := ens cs0) (e := z.en) (imm := imm ++ own) (by k_asm) F5 (by k_asm) N5 (by k_asm) rfl (by ktr_room) (by ktr_units) hS9.R (hS9.I.sm (by omega)) hA hS8 hS9.q hlen0 hS9.I.back hlz.en hlz.n3 hl4 hD hK (by rw [hb]; have := (hlz.at 3 (d := .int z.en.alt) rfl rfl).lt; omega) ?c1 ?c2 ?c3
                case c1 => exact fun v => by rw [hb]; exact (hlz.ev.under (S' := σ.sk.set (z.en.b + (z.ds.length : Int) + 4).toNat v) (by rw [List.length_set]; exact Nat.le_refl _) hlz.eb (fun k d hk ha => atSet ha (by omega) (by have := hlz.b0; omega))).ch
                case c2 => exact fun v => by rw [hb]; exact (hlz.ev.under (S' := σ.sk.set (z.en.b + (z.ds.length : Int) + 4).toNat v) (by rw [List.length_set]; exact Nat.le_refl _) hlz.eb (fun k d hk ha => atSet ha (by omega) (by have := hlz.b0; omega))).cps
                case c3 =>
                  intro q' c' add after lab t₁₁ ep₁ h₁₀ tk₁₀ F6 N8 hq' R6 A6
                  have e2 : ens (cs0 ++ [z.alter { z.en with alt := after, t4 := t₁₁, ep := ep₁ }]) = ens cs0 ++ [{ z.en with alt := after, t4 := t₁₁, ep := ep₁ }] := by simp [ens]
                  have hS7 : LawS a k pt nu kl (add ++ (imm ++ own)) c' (retryW σ z after lab) q' (cs0 ++ [z.alter { z.en with alt := after, t4 := t₁₁, ep := ep₁ }]) z.l (i + 1) := ⟨R6, by rw [e2]; have q := sepAdd hS8 A6; rw [List.map_append] at q ⊢; exact q, hq', hS9.I.retry, fun y hy => (by
                    rcases List.mem_append.mp hy with hy | hy
                    · exact (hS9.sn y (List.mem_append.mpr (.inl hy))).mono (kvMono fun p hp => List.mem_append.mpr (.inr hp))
                    · rw [List.mem_singleton.mp hy]; exact (hS9.sn z (List.mem_append.mpr (.inr (List.Mem.head _)))).mono (kvMono fun p hp => List.mem_append.mpr (.inr hp)))⟩
                  have hn7 := hnt.mono (σ' := retryW σ z after lab) (cs' := cs0 ++ [z.alter { z.en with alt := after, t4 := t₁₁, ep := ep₁ }]) (fun d hd => segX4 hS9.I.x6 hlz.n3 hd) (bAlt rfl)
                  rw [← e2] at N8
                  clear N5 F5
                  k_steps
                  all_goals ((rename Fr _ _ _ _ => qF); (rename News _ _ _ _ => qN); exact Stop.by ⟨rfl, _, _, _, c', _, q', kn, _, _, add ++ (imm ++ own), nt, tn, rfl, qF, qN, fun p hp => List.mem_append.mpr (.inr (hoi p hp)), hS7, hn7, allC rfl (allC rfl (allC rfl (allC rfl (all1 rfl))))⟩)
            · skip
              have hoi : ∀ p ∈ own, p ∈ imm ++ own := fun p hp => List.mem_append.mpr (.inr hp)
              have hcl := hS9.I.z5
              have hcl6 := hS9.I.z6
              have lE : (refE (ens cs)).length = cs.length := by rw [refE, ens, List.length_map, List.length_map]
              refine Stop.out ?_
              (rename Fr _ _ _ _ => F6); (rename News _ _ _ _ => N6)
              refine eq_dat (d := .list (cs.map entD)) (e := .list []) (mem9s (rest := (_, listOf #[] 0) :: (kl, listOf (refE (ens cs)).toArray kn) :: (entsL (ens cs) ++ (imm ++ own))) N6 (allC (List.Mem.head _) (fun p hp => List.Mem.tail _ (ledIn p (List.Mem.tail _ (List.Mem.tail _ hp))))) (by k_asm) F6) (DatIn.list (List.mem_append.mpr (.inr (List.Mem.tail _ (List.Mem.head _)))) ((keptDat hS9.sn).mono (kvMono fun p hp => List.Mem.tail _ (List.Mem.tail _ hp)))) (DatIn.list (vs := []) (n := 0) (List.mem_append.mpr (.inr (List.Mem.head _))) .nil) (keptOk hS9.I.gd) rfl (by ktr_units) ?_
              have N7 := newsSub N6 (fun p hp => List.Mem.tail _ hp)
              clear N6
              rcases snocCases cs with ecs | ⟨cs0, z, ecs⟩
              · subst ecs
                rw [@decide_eq_true (Dat.list (List.map entD []) = Dat.list []) (Classical.propDecidable _) rfl]
                k_steps
                all_goals ((rename Fr _ _ _ _ => qF); (rename News _ _ _ _ => qN))
                have hS7 : LawS a k pt nu kl (imm ++ own) c σ q0 [] l (i + 1) := ⟨hS9.R, hS9.S, hS9.q, hS9.I.up, hS9.sn⟩
                have hn7 := hnt.mono (σ' := σ) (cs' := []) (fun _ h => h) (fun _ _ _ => rfl)
                exact Stop.by ⟨rfl, _, _, _, c, _, q0, kn, [], _, imm ++ own, nt, tn, rfl, qF, qN, hoi, hS7, hn7, allC rfl (allC rfl (allC rfl (allC rfl (all1 rfl))))⟩
              · subst ecs
                rw [@decide_eq_false _ (Classical.propDecidable _) (by intro e; simp at e)]
                have mkw : MarkW := ⟨⟩
                k_steps
                refine Stop.out ?_
                (rename MarkW => mkw); clear mkw
                (rename Fr _ _ _ _ => F5); (rename News _ _ _ _ => N5)
                have hb := hS9.I.b
                rw [bLast] at hb
                have hlz := hS9.I.gd.last
                have hlen0 : (ens cs0).length ≤ 100 := by rw [ens, List.length_map]; rw [List.length_append, List.length_singleton] at hcl; omega
                have ee : ens (cs0 ++ [z]) = ens cs0 ++ [z.en] := by simp [ens]
                have hS8 : Sep a pt nu kl ((ens cs0 ++ [z.en]).map (·.ad)) (imm ++ own) := by rw [← ee]; exact hS9.S
                have hl4 : z.l.length ≤ 4000 := by have := hcl6 z (List.mem_append.mpr (.inr (List.Mem.head _))); omega
                have hD : DatIn (KV ++ (imm ++ own)) (.ref z.en.sn) (seenD (restW σ z.ds z.e z.cp z.mt z.hl) z.ds.length z.l) := by rw [hS9.I.seen]; exact hS9.sn z (List.mem_append.mpr (.inr (List.Mem.head _)))
                have hK : kqdOk 8 (seenD (restW σ z.ds z.e z.cp z.mt z.hl) z.ds.length z.l) = true := by rw [hS9.I.seen]; exact hS9.I.seenOk
                rw [ee] at N5
                obtain ⟨b', hb', bb', e5⟩ := setB_shape hS9.I.trustB
                refine law_back_two (es0 := ens cs0) (e := z.en) (imm := imm ++ own) (by k_asm) F5 (by k_asm) N5 (by k_asm) rfl (by ktr_room) (by ktr_units) hS9.R (hS9.I.sm (by omega)) hA hS8 hS9.q hlen0 hS9.I.back hlz.en hlz.n3 hl4 hD hK (pv := bAt (ens cs0) cs0.length) (hlz.at 2 rfl (by rw [hb]; simp; omega)) hS9.I.trustB hlz.ev.ch hlz.ev.cps ?_
                intro q' c' add lab kn' h₁₀ tk₁₀ F6 N8 hq' R6 A6
                have hS7 : LawS a k pt nu kl (add ++ (imm ++ own)) c' { atB (restW σ z.ds z.e z.cp z.mt z.hl) cs0 cs0.length with p := lab } q' cs0 z.l (i + 1) := ⟨R6, sepPop (sepAdd hS8 A6), hq', hS9.I.trust, fun y hy => (hS9.sn y (List.mem_append.mpr (.inl hy))).mono (kvMono fun p hp => List.mem_append.mpr (.inr hp))⟩
                have hn7 := hnt.mono (σ' := { atB (restW σ z.ds z.e z.cp z.mt z.hl) cs0 cs0.length with p := lab }) (cs' := cs0) (fun d hd => segX4 hS9.I.x6 hlz.n3 hd) bInit
                clear N5 F5
                k_steps
                all_goals ((rename Fr _ _ _ _ => qF); (rename News _ _ _ _ => qN); exact Stop.by ⟨rfl, _, _, _, c', _, q', kn', cs0, _, add ++ (imm ++ own), nt, tn, rfl, qF, qN, fun p hp => List.mem_append.mpr (.inr (hoi p hp)), hS7, hn7, allC rfl (allC rfl (allC rfl (allC rfl (all1 rfl))))⟩)
          · obtain rfl : dd = 3 := by assumption
            refine Stop.out ?_
            (rename MarkW => mkw); clear mkw
            (rename Fr _ _ _ _ => F5); (rename News _ _ _ _ => N5)
            have hoi : ∀ p ∈ own, p ∈ imm ++ own := fun p hp => List.mem_append.mpr (.inr hp)
            have hcl := hS9.I.z5
            have hzz := hS9.I.z1
            have hzs := hS9.I.z2
            have hel : (ens cs).length = cs.length := List.length_map ..
            refine law_cut_spec (es := ens cs) (imm := imm ++ own) (by k_asm) F5 (by k_asm) N5 (by k_asm) rfl (by ktr_room) (by ktr_units) hS9.R (hS9.I.sm (by omega)) hA hS9.S hS9.q (by omega) (fun lv hlv σ1 h1 h2 => hS9.I.cutEx (by omega) h1 h2) ?_
            intro q' lv c' add kn' σ2 h₁₀ tk₁₀ F6 N6 hq' hlv hC R6 A6
            have et : ens (cs.take lv) = (ens cs).take lv := List.map_take ..
            have I1 : Inv { σ with b0 := bAt (ens cs) lv, x := σ.x.set 5 (cell 5 (bAt (ens cs) lv)) } cs l i := hS9.I.same rfl rfl rfl rfl rfl rfl rfl (by rw [List.length_set]; exact hS9.I.x6) (cellSet hS9.I.xc ⟨_, _, rfl⟩)
            obtain ⟨I2, hx2⟩ := I1.cut (by omega) hC
            have hS7 : LawS a k pt nu kl (add ++ (imm ++ own)) c' σ2 q' (cs.take lv) l (i + 1) := ⟨R6, by rw [et]; exact sepTake (sepAdd hS9.S A6) lv, hq', I2, fun z hz => (hS9.sn z (List.mem_of_mem_take hz)).mono (kvMono fun p hp => List.mem_append.mpr (.inr hp))⟩
            have hn7 : NtOk σ2 (cs.take lv) nt := hnt.mono (fun d hd => by rw [hx2]; exact atSet4 (r := 5) hd (by decide) (by decide)) bTake
            rw [← et] at N6
            clear N5 F5
            k_steps
            all_goals ((rename Fr _ _ _ _ => qF); (rename News _ _ _ _ => qN); exact Stop.by ⟨rfl, _, _, _, c', σ2, q', kn', cs.take lv, l, add ++ (imm ++ own), nt, tn, rfl, qF, qN, fun p hp => List.mem_append.mpr (.inr (hoi p hp)), hS7, hn7, allC rfl (allC rfl (allC rfl (allC rfl (all1 rfl))))⟩)
          · skip
            refine Stop.out ?_
            (rename MarkW => mkw); clear mkw
            rename_i T5 hf l5 T6 he F5 N5 l6
            obtain rfl : dd = 4 := by assumption
            have hoi : ∀ p ∈ own, p ∈ imm ++ own := fun p hp => List.mem_append.mpr (.inr hp)
            have hcl := hS9.I.z5
            have hel : (refE (ens cs)).length = cs.length := by rw [refE, ens, List.length_map, List.length_map]
            have hO2 := offPot (q := q0) hPA hA hOA
            have w5 := fun o => addsOne (o := o) (rest := potL pt nu q0 (keptL kl kn (ens cs) (imm ++ own))) (k := k) (c := c) (σ := σ) (allLt_all (d := T5) l5)
            have w6 := fun o o1 => addsOne (o := o) (rest := (T5, o1) :: potL pt nu q0 (keptL kl kn (ens cs) (imm ++ own))) (k := k) (c := c) (σ := σ) (fun p hp => allLt_all (l := (T5, o1) :: Led a k c σ (potL pt nu q0 (keptL kl kn (ens cs) (imm ++ own)))) (d := T6) l6 p (ledSwap p hp))
            refine do_mark_spec (imm := imm ++ own) (rest := (T6, _) :: (T5, _) :: potL pt nu q0 (keptL kl kn (ens cs) (imm ++ own))) (i := 4) (by k_asm) F5 (by k_asm) (newsSub N5 ledSwap2) (by k_asm) rfl (by ktr_room) (by ktr_units) hS9.R (hS9.I.sm (by omega)) (offApp (w6 _ default).off (offApp (w5 _).off hO2)) hA (immTail (immTail (immPot immKept'))) (List.Mem.head _) (List.Mem.tail _ (List.Mem.head _)) (by omega) (by omega) ?_
            intro c2 add h₁₀ tk₁₀ F6 N6 R6 A6
            have A7 := addsSub A6 two
            have N7 := newsSub (newsSub N6 (ledDropMid two)) keptApp
            have hat : At (σ.x.set (Int.toNat 4) (cell 5 σ.b)) 4 (cell 5 σ.b) := atSetSelf (by decide) (by rw [hS9.I.x6]; decide)
            have hxl : (σ.x.set (Int.toNat 4) (cell 5 σ.b)).length = 6 := by rw [List.length_set]; exact hS9.I.x6
            have I2 : Inv { σ with x := σ.x.set (Int.toNat 4) (cell 5 σ.b) } cs l (i + 1) := (hS9.I.same (σ' := { σ with x := σ.x.set (Int.toNat 4) (cell 5 σ.b) }) rfl rfl rfl rfl rfl rfl rfl hxl (cellSet hS9.I.xc ⟨_, _, rfl⟩)).up
            have hS7 : LawS a k pt nu kl (add ++ (imm ++ own)) c2 { σ with x := σ.x.set (Int.toNat 4) (cell 5 σ.b) } q0 cs l (i + 1) := ⟨R6, sepAdd hS9.S A7, hS9.q, I2, fun z hz => (hS9.sn z hz).mono (kvMono fun p hp => List.mem_append.mpr (.inr hp))⟩
            have hn7 : NtOk { σ with x := σ.x.set (Int.toNat 4) (cell 5 σ.b) } cs ((refE (ens cs)).length : Int) := .inr ⟨by omega, fun _ => by rw [hel, show ((cs.length : Nat) : Int).toNat = cs.length by omega, ← hS9.I.b]; exact hat⟩
            have hI2 : ∀ p ∈ add ++ (imm ++ own), p ∈ potL pt nu q0 (keptL kl kn (ens cs) (add ++ (imm ++ own))) := immPot immKept'
            clear N6 N5 F5
            k_steps
            all_goals ((rename Fr _ _ _ _ => qF); (rename News _ _ _ _ => qN); first | exact Stop.by ⟨rfl, _, _, _, c2, _, q0, kn, cs, _, add ++ (imm ++ own), _, _, rfl, qF, newsSub qN (fun p hp => List.Mem.tail _ hp), fun p hp => List.mem_append.mpr (.inr (hoi p hp)), hS7, hn7, allC rfl (allC rfl (allC rfl (allC rfl (all1 rfl))))⟩)
          · skip
            refine Stop.out ?_
            (rename MarkW => mkw); clear mkw
            rename_i T5 hf l5 T6 he F5 N5 l6
            obtain rfl : dd = 5 := by assumption
            have hoi : ∀ p ∈ own, p ∈ imm ++ own := fun p hp => List.mem_append.mpr (.inr hp)
            have hcl := hS9.I.z5
            have hel : (refE (ens cs)).length = cs.length := by rw [refE, ens, List.length_map, List.length_map]
            have hO2 := offPot (q := q0) hPA hA hOA
            have w5 := fun o => addsOne (o := o) (rest := potL pt nu q0 (keptL kl kn (ens cs) (imm ++ own))) (k := k) (c := c) (σ := σ) (allLt_all (d := T5) l5)
            have w6 := fun o o1 => addsOne (o := o) (rest := (T5, o1) :: potL pt nu q0 (keptL kl kn (ens cs) (imm ++ own))) (k := k) (c := c) (σ := σ) (fun p hp => allLt_all (l := (T5, o1) :: Led a k c σ (potL pt nu q0 (keptL kl kn (ens cs) (imm ++ own)))) (d := T6) l6 p (ledSwap p hp))
            obtain ⟨n0, n1, hat⟩ : 0 ≤ nt ∧ nt ≤ cs.length ∧ At σ.x 4 (cell 5 (bAt (ens cs) nt.toNat)) := by
              rcases hnt with h | h
              · omega
              · exact h
            obtain ⟨lv, hlv⟩ : ∃ lv : Nat, nt = (lv : Int) := ⟨nt.toNat, by omega⟩
            subst hlv
            rw [Int.toNat_natCast] at hat
            obtain ⟨σ3, hC⟩ := hS9.I.cutEx (σ1 := σ) (lv := lv) (by omega) rfl rfl
            obtain ⟨I2, hx2⟩ := hS9.I.cut (by omega) hC
            refine do_cut_to_spec (imm := imm ++ own) (rest := (T6, _) :: (T5, _) :: potL pt nu q0 (keptL kl kn (ens cs) (imm ++ own))) (i := 4) (by k_asm) F5 (by k_asm) (newsSub N5 ledSwap2) (by k_asm) rfl (by ktr_room) (by ktr_units) hS9.R (hS9.I.sm (by omega)) (offApp (w6 _ default).off (offApp (w5 _).off hO2)) hA (immTail (immTail (immPot immKept'))) (List.Mem.head _) (List.Mem.tail _ (List.Mem.head _)) hat hC ?_
            intro c3 h₁₀ tk₁₀ F6 N6 R3
            have N7 := newsSub (newsSub N6 ledDrop) ledDrop
            clear N6 N5 F5
            have mkw : MarkW := ⟨⟩
            k_steps
            refine Stop.out ?_
            (rename Fr _ _ _ _ => F8); (rename News _ _ _ _ => N8)
            obtain ⟨o1, o2, o3, o4, o5, o6, o7⟩ := id hA
            have hkl := fun j => sepKl hS9.S j
            have sp1 := hS9.S.p1
            have sp2 := hS9.S.p2
            have sp3 := hS9.S.p3
            have hens : (ens cs).length = cs.length := List.length_map ..
            refine While_inv2 (fun n m₁ nx => ∃ kn', nx = Led a k c3 σ3 (potL pt nu q0 (keptL kl kn' ((ens cs).take (lv + n)) (imm ++ own))) ∧ lv + n ≤ cs.length ∧ ∀ p ∈ lawG a pt kl (lv : Int) tn, m₁ p.1 = some p.2) (n₀ := cs.length - lv) F8 N8 ⟨kn, by rw [show lv + (cs.length - lv) = (ens cs).length by omega, List.take_length], by omega, allC rfl (allC rfl (allC rfl (allC rfl (all1 rfl))))⟩ ?_ (by with_unfolding_all passes_own)
            clear F8 N8
            rintro n m₃ nx h₁ tk₁ F₁ N₁ ⟨kn', rfl, hln, hm⟩
            rw [knownL hm] at F₁
            have hlen := refE_len (es := ens cs) (j := lv + n) (by omega)
            cases n with
            | zero =>
              k_steps
              all_goals ((rename Fr _ _ _ _ => qF); (rename News _ _ _ _ => qN))
              have et : ens (cs.take lv) = (ens cs).take lv := List.map_take ..
              have hS7 : LawS a k pt nu kl (imm ++ own) c3 σ3 q0 (cs.take lv) l (i + 1) := ⟨R3, by rw [et]; exact sepTake hS9.S lv, hS9.q, I2, fun z hz => hS9.sn z (List.mem_of_mem_take hz)⟩
              have hn7 : NtOk σ3 (cs.take lv) (lv : Int) := hnt.mono (fun d hd => by rw [hx2]; exact hd) bTake
              rw [Nat.add_zero, ← et] at qN
              exact Stop.by ⟨rfl, _, _, _, c3, σ3, q0, kn', cs.take lv, l, imm ++ own, (lv : Int), tn, rfl, qF, qN, hoi, hS7, hn7, allC rfl (allC rfl (allC rfl (allC rfl (all1 rfl))))⟩
            | succ n =>
              have hlt : lv + n < (ens cs).length := by omega
              have e := refE_snoc hlt
              have N₂ := newsCast N₁ (congrArg (fun z => Led a k c3 σ3 (potL pt nu q0 ((kl, listOf (List.toArray z) kn') :: (entsL ((ens cs).take (lv + n + 1)) ++ (imm ++ own))))) e)
              clear N₁
              rw [show lv + (n + 1) = lv + n + 1 by omega, e] at hlen
              have hkl1 := hkl (lv + n + 1)
              have hl0 := refE_len (es := ens cs) (j := lv + n) (by omega)
              k_steps
              all_goals ((rename Fr _ _ _ _ => F9); (rename News _ _ _ _ => N9); exact ⟨_, _, _, _, n, rfl, F9, newsSub N9 (keptPop (kn := kn')), Nat.lt_succ_self n, _, rfl, by omega, allC rfl (allC rfl (allC rfl (allC rfl (all1 rfl))))⟩)
          · obtain rfl : dd = 5 := by assumption
            (rename Fr _ _ _ _ => qF); (rename News _ _ _ _ => qN)
            have hoi : ∀ p ∈ own, p ∈ imm ++ own := fun p hp => List.mem_append.mpr (.inr hp)
            have hS7 : LawS a k pt nu kl (imm ++ own) c σ q0 cs l (i + 1) := ⟨hS9.R, hS9.S, hS9.q, hS9.I.up, hS9.sn⟩
            have hn7 := hnt.mono (σ' := σ) (cs' := cs) (fun _ h => h) (fun _ _ _ => rfl)
            exact Stop.by ⟨rfl, _, _, _, c, _, q0, kn, cs, _, imm ++ own, nt, tn, rfl, qF, qN, hoi, hS7, hn7, allC rfl (allC rfl (allC rfl (allC rfl (all1 rfl))))⟩
          · rcases (show dd = 6 ∨ dd = 7 ∨ dd = 8 ∨ dd = 9 by omega) with rfl | rfl | rfl | rfl
            · skip
              refine Stop.out ?_
              (rename MarkW => mkw); clear mkw
              (rename Fr _ _ _ _ => F5); (rename News _ _ _ _ => N5)
              have hoi : ∀ p ∈ own, p ∈ imm ++ own := fun p hp => List.mem_append.mpr (.inr hp)
              have hcl := hS9.I.z5
              have hzz := hS9.I.z1
              have hzs := hS9.I.z2
              have hok : ∀ i d, At σ.hp i d → kqdOk 8 d = true := fun j d hd => by
                obtain ⟨x, y, rfl⟩ := hS9.I.hc d (List.mem_of_getElem? hd.2)
                rfl
              refine small6_spec (imm := imm ++ own) (rest := keptL kl kn (ens cs) (imm ++ own)) (by k_asm) F5 (by k_asm) N5 (by k_asm) rfl (by ktr_room) (by ktr_units) hS9.R (hS9.I.sm (by omega)) hOA hA immKept' hPA hS9.q hS9.I.h0 hok ?_ ?_
              · intro q' h₁₀ tk₁₀ F6 N6 hq'
                have hS7 : LawS a k pt nu kl (imm ++ own) c σ q' cs l (i + 1) := ⟨hS9.R, hS9.S, hq', hS9.I.up, hS9.sn⟩
                have hn7 := hnt.mono (σ' := σ) (cs' := cs) (fun _ h => h) (fun _ _ _ => rfl)
                clear N5 F5
                k_steps
                all_goals ((rename Fr _ _ _ _ => qF); (rename News _ _ _ _ => qN); exact Stop.by ⟨rfl, _, _, _, c, _, q', kn, cs, _, imm ++ own, nt, tn, rfl, qF, qN, hoi, hS7, hn7, allC rfl (allC rfl (allC rfl (allC rfl (all1 rfl))))⟩)
              · intro q' c' add j v h₁₀ tk₁₀ F6 N6 hq' hj R6 A6
                have hS7 : LawS a k pt nu kl (add ++ (imm ++ own)) c' { σ with hp := σ.hp.set j.toNat (cell 5 v), tr := if j < σ.hb then σ.tr ++ [j] else σ.tr } q' cs l (i + 1) := ⟨R6, sepAdd hS9.S A6, hq', hS9.I.bind hj, fun z hz => (hS9.sn z hz).mono (kvMono fun p hp => List.mem_append.mpr (.inr hp))⟩
                have hn7 := hnt.mono (σ' := { σ with hp := σ.hp.set j.toNat (cell 5 v), tr := if j < σ.hb then σ.tr ++ [j] else σ.tr }) (cs' := cs) (fun _ h => h) (fun _ _ _ => rfl)
                have N7 := newsSub N6 (ledMono (potMono keptIn))
                clear N5 F5 N6
                k_steps
                all_goals ((rename Fr _ _ _ _ => qF); (rename News _ _ _ _ => qN); exact Stop.by ⟨rfl, _, _, _, c', _, q', kn, cs, _, add ++ (imm ++ own), nt, tn, rfl, qF, qN, fun p hp => List.mem_append.mpr (.inr (hoi p hp)), hS7, hn7, allC rfl (allC rfl (allC rfl (allC rfl (all1 rfl))))⟩)
            · skip
              refine Stop.out ?_
              (rename MarkW => mkw); clear mkw
              (rename Fr _ _ _ _ => F5); (rename News _ _ _ _ => N5)
              have hoi : ∀ p ∈ own, p ∈ imm ++ own := fun p hp => List.mem_append.mpr (.inr hp)
              have hcl := hS9.I.z5
              have hzz := hS9.I.z1
              have hzs := hS9.I.z2
              refine small7_spec (imm := imm ++ own) (rest := keptL kl kn (ens cs) (imm ++ own)) (by k_asm) F5 (by k_asm) N5 (by k_asm) rfl (by ktr_room) (by ktr_units) hS9.R (hS9.I.sm (by omega)) hOA hA immKept' hPA hS9.q (by omega) ?_
              intro q' c' add r h₁₀ tk₁₀ F6 N6 hq' r1 r3 R6 A6
              have hS7 : LawS a k pt nu kl (add ++ (imm ++ own)) c' { σ with hp := σ.hp ++ [cell 0 σ.hp.length], x := σ.x.set r.toNat (cell 0 σ.hp.length) } q' cs l (i + 1) := ⟨R6, sepAdd hS9.S A6, hq', hS9.I.newVar, fun z hz => (hS9.sn z hz).mono (kvMono fun p hp => List.mem_append.mpr (.inr hp))⟩
              have hn7 := hnt.mono (σ' := { σ with hp := σ.hp ++ [cell 0 σ.hp.length], x := σ.x.set r.toNat (cell 0 σ.hp.length) }) (cs' := cs) (fun _ h => atSet4 h (by omega) (by omega)) (fun _ _ _ => rfl)
              have N7 := newsSub N6 (ledMono (potMono keptIn))
              clear N5 F5 N6
              k_steps
              all_goals ((rename Fr _ _ _ _ => qF); (rename News _ _ _ _ => qN); exact Stop.by ⟨rfl, _, _, _, c', _, q', kn, cs, _, add ++ (imm ++ own), nt, tn, rfl, qF, qN, fun p hp => List.mem_append.mpr (.inr (hoi p hp)), hS7, hn7, allC rfl (allC rfl (allC rfl (allC rfl (all1 rfl))))⟩)
            · skip
              refine Stop.out ?_
              (rename MarkW => mkw); clear mkw
              (rename Fr _ _ _ _ => F5); (rename News _ _ _ _ => N5)
              have hoi : ∀ p ∈ own, p ∈ imm ++ own := fun p hp => List.mem_append.mpr (.inr hp)
              have hcl := hS9.I.z5
              have hzz := hS9.I.z1
              have hzs := hS9.I.z2
              obtain ⟨T, hT, t0, t1, t2, t3, t4⟩ := hS9.I.top
              refine small8_spec (imm := imm ++ own) (rest := keptL kl kn (ens cs) (imm ++ own)) (by k_asm) F5 (by k_asm) N5 (by k_asm) rfl (by ktr_room) (by ktr_units) hS9.R (hS9.I.sm (by omega)) hOA hA immKept' hPA hS9.q hT t0 t1 (by omega) ?_
              intro q' c' v h₁₀ tk₁₀ F6 N6 hq' v0 v2 R6
              have hS7 : LawS a k pt nu kl (imm ++ own) c' { σ with sk := segS σ.sk T.toNat ([.int σ.e, .int σ.cp] ++ List.replicate v.toNat (cell 5 0)), e := T, cp := v + 1 } q' cs ((T, σ.cp) :: l) (i + 1) := ⟨R6, hS9.S, hq', hS9.I.alloc t0 t1 t2 t3 t4 v0 v2, hS9.sn⟩
              have hn7 := hnt.mono (σ' := { σ with sk := segS σ.sk T.toNat ([.int σ.e, .int σ.cp] ++ List.replicate v.toNat (cell 5 0)), e := T, cp := v + 1 }) (cs' := cs) (fun _ h => h) (fun _ _ _ => rfl)
              clear N5 F5
              k_steps
              all_goals ((rename Fr _ _ _ _ => qF); (rename News _ _ _ _ => qN); exact Stop.by ⟨rfl, _, _, _, c', _, q', kn, cs, _, imm ++ own, nt, tn, rfl, qF, qN, hoi, hS7, hn7, allC rfl (allC rfl (allC rfl (allC rfl (all1 rfl))))⟩)
            · skip
              refine Stop.out ?_
              (rename MarkW => mkw); clear mkw
              (rename Fr _ _ _ _ => F5); (rename News _ _ _ _ => N5)
              have hoi : ∀ p ∈ own, p ∈ imm ++ own := fun p hp => List.mem_append.mpr (.inr hp)
              have hcl := hS9.I.z5
              have hzz := hS9.I.z1
              have hzs := hS9.I.z2
              by_cases he : σ.e < 0
              · refine small9_no (imm := imm ++ own) (rest := keptL kl kn (ens cs) (imm ++ own)) (by k_asm) F5 (by k_asm) N5 (by k_asm) rfl (by ktr_room) (by ktr_units) hS9.R (hS9.I.sm (by omega)) hOA hA immKept' hPA hS9.q he ?_
                intro q' h₁₀ tk₁₀ F6 N6 hq'
                have hS7 : LawS a k pt nu kl (imm ++ own) c σ q' cs l (i + 1) := ⟨hS9.R, hS9.S, hq', hS9.I.up, hS9.sn⟩
                have hn7 := hnt.mono (σ' := σ) (cs' := cs) (fun _ h => h) (fun _ _ _ => rfl)
                clear N5 F5
                k_steps
                all_goals ((rename Fr _ _ _ _ => qF); (rename News _ _ _ _ => qN); exact Stop.by ⟨rfl, _, _, _, c, _, q', kn, cs, _, imm ++ own, nt, tn, rfl, qF, qN, hoi, hS7, hn7, allC rfl (allC rfl (allC rfl (allC rfl (all1 rfl))))⟩)
              · obtain ⟨pe, pc, l', e1, e2, I2⟩ := hS9.I.dealloc (by omega)
                refine small9_yes (imm := imm ++ own) (rest := keptL kl kn (ens cs) (imm ++ own)) (by k_asm) F5 (by k_asm) N5 (by k_asm) rfl (by ktr_room) (by ktr_units) hS9.R (hS9.I.sm (by omega)) hOA hA immKept' hPA hS9.q (by omega) e1 e2 ?_
                intro q' c' h₁₀ tk₁₀ F6 N6 hq' R6
                have hS7 : LawS a k pt nu kl (imm ++ own) c' { σ with e := pe, cp := pc } q' cs l' (i + 1) := ⟨R6, hS9.S, hq', I2, hS9.sn⟩
                have hn7 := hnt.mono (σ' := { σ with e := pe, cp := pc }) (cs' := cs) (fun _ h => h) (fun _ _ _ => rfl)
                clear N5 F5
                k_steps
                all_goals ((rename Fr _ _ _ _ => qF); (rename News _ _ _ _ => qN); exact Stop.by ⟨rfl, _, _, _, c', _, q', kn, cs, _, imm ++ own, nt, tn, rfl, qF, qN, hoi, hS7, hn7, allC rfl (allC rfl (allC rfl (allC rfl (all1 rfl))))⟩)
        case tail =>
          clear F₄ N₄ hS9 hnt hPA hOA e0 e9 hq0
          rintro f s₂ ⟨rfl, h₉, tk₉, m₂, c, σ, q, kn, cs, l, imm, nt, tn, rfl, F₁, N₁, ho, hS, hnt, hm⟩
          rw [knownL hm] at F₁
          have hPA := sepPot (kn := kn) hS.S hA
          have hOA := sepOff (kn := kn) hS.S hA
          have lE : (refE (ens cs)).length = cs.length := by rw [refE, ens, List.length_map, List.length_map]
          have hcl := hS.I.z5
          k_sweep
          have mkf : MarkF := ⟨⟩
          dsimp only
          k_steps
          refine Stop.out ?_
          refine midMonoN a k pt nu kl own i s' F₁ ?inner ?cont
          case inner =>
            k_steps
            · (rename Fr _ _ _ _ => qF); (rename News _ _ _ _ => qN)
              exact Stop.by ⟨rfl, _, _, _, c, σ, q, kn, cs, l, imm, -1, _, rfl, qF, qN, ho, hS, .inl rfl, allC rfl (allC rfl (allC rfl (allC rfl (all1 rfl))))⟩
            · (rename Fr _ _ _ _ => qF); (rename News _ _ _ _ => qN)
              exact Stop.by ⟨rfl, _, _, _, c, σ, q, kn, cs, l, imm, nt, tn, rfl, qF, qN, ho, hS, hnt.fix (by omega), allC rfl (allC rfl (allC rfl (allC rfl (all1 rfl))))⟩
          case cont =>
            clear F₁ N₁ ho hS hnt hm hPA hOA lE hcl
            rintro f s₂ ⟨rfl, h₉, tk₉, m₂, c, σ, q, kn, cs, l, imm, nt, tn, rfl, F₁, N₁, ho, hS, hnt, hm⟩
            rw [knownL hm] at F₁
            have hPA := sepPot (kn := kn) hS.S hA
            have hOA := sepOff (kn := kn) hS.S hA
            have lE : (refE (ens cs)).length = cs.length := by rw [refE, ens, List.length_map, List.length_map]
            have hcl := hS.I.z5
            k_sweep
            have mkw : MarkW := ⟨⟩
            have mkf : MarkF := ⟨⟩
            dsimp only
            k_steps
            refine Stop.out ?_
            (rename MarkW => mkw); clear mkw
            (rename Fr _ _ _ _ => F₂); (rename News _ _ _ _ => N₂)
            refine choices_spec (imm := imm) (rest := potL pt nu q (keptL kl kn (ens cs) imm)) (by k_asm) F₂ (by k_asm) N₂ (by k_asm) rfl (by ktr_room) (by ktr_units) hS.R (hS.I.sm (by omega)) (offPot hPA hA hOA) hA (immPot immKept') hS.I.chb (by rw [List.length_reverse, List.length_map]; omega) ?_
            intro lf vs nf h₁₀ tk₁₀ F₃ N₃ hvs hlf
            clear F₂ N₂
            have hlfo := fun p hp => Nat.ne_of_lt (hlf p hp)
            have hmk : (kl, listOf (refE (ens cs)).toArray kn) ∈ (lf, listOf vs.toArray nf) :: lawL a k pt nu kl imm c σ q kn cs := List.Mem.tail _ (ledIn _ (List.Mem.tail _ (List.Mem.tail _ (List.Mem.head _))))
            refine LCg.ListComp_U (F₀ := F₃) (by with_unfolding_all rfl) (by decide) (by rfl) (by decide) (by rfl) ?_
            k_steps
            refine Stop.out ?_
            refine' rev_lst (vs := refE (ens cs)) (n := kn) ?y1 ?y2 ?y3 ?y4 ?y5 ?y8 ?y6 ?y7
            case y1 => k_asm
            case y2 => k_asm
            case y3 => exact hmk
            case y4 => exact IsPart.int _ _
            case y5 => omega
            case y6 => exact rfl
            case y7 => (intro _; with_unfolding_all rfl)
            case y8 =>
              intro D₁ h₁₁ F₄ N₄ hD₁
              clear F₃ N₃ hmk
              refine LCg.CompSrc.ledger (by rfl) F₄ N₄ (List.Mem.head _) (by rw [List.size_toArray, sizeLine_eq, List.length_reverse]; omega) ?_
              intro g
              refine compInd (refE (ens cs)).reverse.toArray.size (fun i ys news => news = (D₁, listOf (refE (ens cs)).reverse.toArray 0) :: (lf, listOf vs.toArray nf) :: lawL a k pt nu kl imm c σ q kn cs ∧ DatAll [] ys ((((cs.map (·.en.b)).reverse).take i).map Dat.int)) ?step ?fin _ 0 [] _ (Nat.zero_add _) ⟨rfl, .nil⟩
              case step =>
                clear F₄ N₄
                rintro j ys news v I oI C oC D m₃ h tk E' hj ⟨rfl, hys⟩ hP hN hx F2 N2 hO3 hne
                rw [List.size_toArray, List.length_reverse] at hj
                have hjl : j < cs.length := by omega
                have hget : (refE (ens cs)).reverse[j]? = some (Value.ref cs[cs.length - 1 - j].en.ad) := by
                  rw [List.getElem?_reverse (by omega), lE, refE, ens, List.getElem?_map, List.getElem?_map, List.getElem?_eq_getElem (by omega)]; rfl
                have hv : v = Value.ref cs[cs.length - 1 - j].en.ad := by
                  have q1 : (refE (ens cs)).reverse[j]? = some v := by simpa using hP
                  exact (Option.some.inj (hget.symm.trans q1)).symm
                subst hv
                have hme : (cs[cs.length - 1 - j].en.ad, entO cs[cs.length - 1 - j].en) ∈ lawL a k pt nu kl imm c σ q kn cs := ledIn _ (List.Mem.tail _ (List.Mem.tail _ (List.Mem.tail _ (entIn (List.mem_map.mpr ⟨_, List.getElem_mem (by omega), rfl⟩)))))
                have hme2 : (cs[cs.length - 1 - j].en.ad, entO cs[cs.length - 1 - j].en) ∈ (I, oI) :: (C, oC) :: (D, LCg.lst ys) :: (D₁, listOf (refE (ens cs)).reverse.toArray 0) :: (lf, listOf vs.toArray nf) :: lawL a k pt nu kl imm c σ q kn cs := List.Mem.tail _ (List.Mem.tail _ (List.Mem.tail _ (List.Mem.tail _ (List.Mem.tail _ hme))))
                have hbj : ((cs.map (·.en.b)).reverse)[j]? = some cs[cs.length - 1 - j].en.b := by
                  rw [List.getElem?_reverse (by rw [List.length_map]; omega), List.length_map, List.getElem?_map, List.getElem?_eq_getElem (by omega)]; rfl
                have mkf : MarkF := ⟨⟩
                k_steps
                refine Stop.out ?_
                (rename Fr _ _ _ _ => F5); (rename News _ _ _ _ => N5)
                refine item_val' (x := Value.int cs[cs.length - 1 - j].en.b cs[cs.length - 1 - j].en.t1) N5 hme2 (by decide) (by decide) rfl ?_
                refine LCg.CompEnd.intro F5 N5 ((D₁, listOf (refE (ens cs)).reverse.toArray 0) :: (lf, listOf vs.toArray nf) :: lawL a k pt nu kl imm c σ q kn cs) (fun _ h => h) hO3 (.inr ⟨_, List.Mem.head _, rfl, _, rfl⟩) ⟨rfl, ?_⟩
                rw [List.take_add_one, hbj, Option.toList_some, List.map_append]
                exact hys.append (.one (.int _ _))
              case fin =>
                rintro ys news ⟨rfl, hys⟩
                rw [List.size_toArray, List.length_reverse, lE] at hys
                have etk : ((cs.map (·.en.b)).reverse).take cs.length = (cs.map (·.en.b)).reverse := List.take_of_length_le (by rw [List.length_reverse, List.length_map]; omega)
                rw [etk] at hys
                have mkf : MarkF := ⟨⟩
                k_steps
                refine Stop.out ?_
                (rename Fr _ _ _ _ => F5); (rename News _ _ _ _ => N5)
                refine ne_dat (L9 := [(lf, listOf vs.toArray nf), (_, LCg.lst ys)]) (d := .list ((cs.map (·.en.b)).reverse.map Dat.int)) (e := .list ((cs.map (·.en.b)).reverse.map Dat.int)) (allC (N5 _ (List.Mem.tail _ (List.Mem.tail _ (List.Mem.head _)))).1 (all1 (N5 _ (List.Mem.head _)).1)) (DatIn.list (List.Mem.head _) (hvs.mono (List.forall_mem_nil _))) (DatIn.list (List.Mem.tail _ (List.Mem.head _)) (hys.mono (List.forall_mem_nil _))) (intsOk _) (intsOk _) (by ktr_units) ?_
                rw [@decide_eq_true _ (Classical.propDecidable _) rfl]
                have mkf : MarkF := ⟨⟩
                k_steps
                refine Stop.out ?_
                (rename Fr _ _ _ _ => F6); (rename News _ _ _ _ => N6)
                refine ne_dat (d := .list (cs.map entD)) (e := .list []) (mem9s (rest := (_, listOf #[] 0) :: (kl, listOf (refE (ens cs)).toArray kn) :: (entsL (ens cs) ++ imm)) N6 (allC (List.Mem.head _) (fun p hp => List.Mem.tail _ (List.Mem.tail _ (List.Mem.tail _ (List.Mem.tail _ (ledIn p (List.Mem.tail _ (List.Mem.tail _ hp)))))))) (by k_asm) F6) (DatIn.list (List.mem_append.mpr (.inr (List.Mem.tail _ (List.Mem.head _)))) ((keptDat hS.sn).mono (kvMono fun p hp => List.Mem.tail _ (List.Mem.tail _ hp)))) (DatIn.list (vs := []) (n := 0) (List.mem_append.mpr (.inr (List.Mem.head _))) .nil) (keptOk hS.I.gd) rfl (by ktr_units) ?_
                have N7 := newsSub N6 (fun p hp => List.Mem.tail _ (List.Mem.tail _ (List.Mem.tail _ (List.Mem.tail _ hp))))
                clear N6
                rcases snocCases cs with ecs | ⟨cs0, z, ecs⟩
                · subst ecs
                  rw [@decide_eq_true (Dat.list (List.map entD []) = Dat.list []) (Classical.propDecidable _) rfl]
                  k_steps
                  all_goals ((rename Fr _ _ _ _ => qF); (rename News _ _ _ _ => qN); exact turnEnd qF qN ho hown hS hnt (allC rfl (allC rfl (allC rfl (all1 rfl)))))
                · subst ecs
                  rw [@decide_eq_false _ (Classical.propDecidable _) (by intro e; simp at e)]
                  have hb := hS.I.b
                  rw [bLast] at hb
                  have hlz := hS.I.gd.last
                  have mkw : MarkW := ⟨⟩
                  k_steps
                  refine Stop.out ?_
                  (rename MarkW => mkw); clear mkw
                  (rename Fr _ _ _ _ => F8); (rename News _ _ _ _ => N8)
                  refine choice_part_spec (imm := imm) (rest := potL pt nu q (keptL kl kn (ens (cs0 ++ [z])) imm)) (cnt := (z.ds.length : Int)) (v := z.en.alt) (by k_asm) F8 (by k_asm) N8 (by k_asm) rfl (by ktr_room) (by ktr_units) hS.R (hS.I.sm (by omega)) (offPot hPA hA hOA) hA (immPot immKept') (by rw [hb]; exact hlz.cnt) (hlz.at 3 rfl (by rw [hb]; omega)) ?_
                  intro t₁₂ h₁₂ tk₁₂ F9 N9
                  clear F8 N8
                  have ee : refE (ens (cs0 ++ [z])) = refE (ens cs0) ++ [Value.ref z.en.ad] := by simp [refE, ens]
                  have hmk : (kl, listOf (refE (ens cs0) ++ [Value.ref z.en.ad]).toArray kn) ∈ lawL a k pt nu kl imm c σ q kn (cs0 ++ [z]) := by
                    have q := ledIn (a := a) (k := k) (c := c) (σ := σ) (r := potL pt nu q (keptL kl kn (ens (cs0 ++ [z])) imm)) (kl, listOf (refE (ens (cs0 ++ [z]))).toArray kn) (List.Mem.tail _ (List.Mem.tail _ (List.Mem.head _)))
                    rw [ee] at q
                    exact q
                  have hme : (z.en.ad, entO z.en) ∈ lawL a k pt nu kl imm c σ q kn (cs0 ++ [z]) := ledIn _ (List.Mem.tail _ (List.Mem.tail _ (List.Mem.tail _ (entIn (List.mem_map.mpr ⟨z, List.mem_append.mpr (.inr (List.Mem.head _)), rfl⟩)))))
                  have hlc : cs0.length ≤ 100 := by rw [List.length_append, List.length_singleton] at hcl; omega
                  have mkf : MarkF := ⟨⟩
                  k_steps
                  refine Stop.out ?_
                  (rename News _ _ _ _ => N8)
                  refine item_last N8 hmk (by rw [refE, ens, List.length_map, List.length_map]; omega) ?_
                  have mkf : MarkF := ⟨⟩
                  k_steps
                  refine Stop.out ?_
                  refine item_val' (x := Value.int z.en.alt z.en.t4) N8 hme (by decide) (by decide) rfl ?_
                  k_steps
                  all_goals ((rename Fr _ _ _ _ => qF); (rename News _ _ _ _ => qN); first | exact absurd rfl (by assumption : z.en.alt ≠ z.en.alt) | exact turnEnd qF qN ho hown hS hnt (allC rfl (allC rfl (allC rfl (all1 rfl)))))
      · rintro m₁ nx h tk ⟨c, σ, q, kn, cs, l, imm, nt, tn, rfl, hS₀, hnt, hm⟩ F₁ N₁
        rw [knownL hm] at F₁
        k_steps
        dsimp only
        k_steps
        refine goodW_bool (by assumption) hG2 (raisesW_false ?_) ?_ hO2
        · wrow_none_raised
        · wrow_post)
end Mine
theorem PySem.Challenge.cw_sa0158_01_holds : PySem.Challenge.rw_sa0158_01.Holds := by
  exact Mine.row
