import PyProof.Rows.All
import Wide.All
import OpenK.AllK
import Wide.FinOn
import Lean
import PySem.Challenge.RW_qd0022_01
set_option Elab.async false
set_option maxRecDepth 100000
set_option linter.all false
set_option rowWalk.seconds 0
open PySem PySem.W PyProof.Rows
section
local macro_rules | `(tactic| o_head $H) => `(tactic| assumption)
theorem Mine.top (h : PySem.Challenge.rw_qd0022_01.row.Holds) : PySem.Challenge.rw_qd0022_01.row.Holds := by
  k_head
end
def Mine.V : Program :=
  { PySem.Challenge.pw_qd0022_01 with main := { PySem.Challenge.pw_qd0022_01.main with body := (PySem.Challenge.pw_qd0022_01.main.body.drop 1).take 3 ++ (PySem.Challenge.pw_qd0022_01.main.body.drop 5).take 25 ++ PySem.Challenge.pw_qd0022_01.main.body.drop 31 } }
theorem Mine.fin.tw12876116671307685997 : True := trivial
theorem Mine.fin.tw6455845175183424153 : True := trivial
theorem Mine.fin.tw11273041486466551846 : True := trivial
theorem Mine.fin.tw216489041496292469 : True := trivial
theorem Mine.fin.tw8088732932480780420 : True := trivial
theorem Mine.fin.tw1819255440876223710 : True := trivial
theorem Mine.fin.tw1887099378405440850 : True := trivial
theorem Mine.fin.tw9059937348426287209 : True := trivial
theorem Mine.fin.tw10242451874928486539 : True := trivial
theorem Mine.fin.tw10875463905939285979 : True := trivial
theorem Mine.fin.tw13467322939085005891 : True := trivial
theorem Mine.fin.tw16285329926789087883 : True := trivial
theorem Mine.fin.tw4754365596532378047 : True := trivial
theorem Mine.fin.tw8668149382578428375 : True := trivial
theorem Mine.fin.tw452842511749404161 : True := trivial
theorem Mine.fin.tw5776136370200156792 : True := trivial
theorem Mine.fin.tw5897612983314593646 : True := trivial
theorem Mine.fin.tw16269368082590959529 : True := trivial
theorem Mine.fin.tw8399098705505230059 : True := trivial
theorem Mine.fin.tw1613116972386908190 : True := trivial
theorem Mine.fin.tw9610726530385051774 : True := trivial
theorem Mine.fin.tw10007411396671696613 : True := trivial
theorem Mine.fin.tw3004984022683251337 : True := trivial
theorem Mine.fin.tw884059145510264010 : True := trivial
theorem Mine.fin.tw8415677887826043230 : True := trivial
theorem Mine.fin.tw9806666330580929782 : True := trivial
theorem Mine.fin.tw10925335251469727208 : True := trivial
theorem Mine.fin.tw5634151482396758240 : True := trivial
theorem Mine.fin.tw1014637456484912126 : True := trivial
theorem Mine.fin.tw16570786720924097770 : True := trivial
theorem Mine.fin.tw18164189302063226315 : True := trivial
theorem Mine.fin.tw1397303283331804279 : True := trivial
theorem Mine.fin.tw11298980531735778240 : True := trivial
theorem Mine.fin.tw1859308991734951218 : True := trivial
theorem Mine.fin.tw8896352889252549814 : True := trivial
theorem Mine.fin.tw11414674201277728305 : True := trivial
theorem Mine.fin.tw4613182775407389354 : True := trivial
theorem Mine.fin.tw10699407837109476802 : True := trivial
theorem Mine.fin.tw7249652514872940865 : True := trivial
theorem Mine.fin.tw14517287926952318261 : True := trivial
theorem Mine.fin.tw15144710454662140524 : True := trivial
theorem Mine.fin.tw10874316729293906858 : True := trivial
theorem Mine.fin.tw5647864574477489665 : True := trivial
theorem Mine.fin.tw5679570950571409650 : True := trivial
theorem Mine.fin.tw17362494058136835672 : True := trivial
theorem Mine.fin.tw4570111826955561243 : True := trivial
theorem Mine.fin.tw7844069586390513008 : True := trivial
theorem Mine.fin.tw6485783843944922600 : True := trivial
theorem Mine.fin.tw10070804522480449196 : True := trivial
theorem Mine.fin.tw2775396313129547428 : True := trivial
theorem Mine.fin.tw10696652717036330658 : True := trivial
theorem Mine.fin.tw9260378047223084069 : True := trivial
theorem Mine.fin.tw1666694428299288667 : True := trivial
theorem Mine.fin.tw333583748066197110 : True := trivial
theorem Mine.fin.tw16530489862217454893 : True := trivial
theorem Mine.fin.tw480829909506669009 : True := trivial
theorem Mine.fin.tw14560573928864763818 : True := trivial
theorem Mine.fin.tw1252854909445205041 : True := trivial
theorem Mine.fin.tw7675655780812522254 : True := trivial
theorem Mine.fin.tw14497727239971306367 : True := trivial
theorem Mine.fin.tw8269367382603917829 : True := trivial
theorem Mine.fin.tw11777178113538422334 : True := trivial
theorem Mine.fin.tw16401934584784274106 : True := trivial
theorem Mine.fin.tw7684487725183542926 : True := trivial
theorem Mine.fin.tw15815952407149668801 : True := trivial
theorem Mine.fin.tw15837006823960004117 : True := trivial
theorem Mine.fin.tw12356021495744459628 : True := trivial
theorem Mine.fin.tw10939691994893167182 : True := trivial
theorem Mine.fin.tw3817654288837886093 : True := trivial
theorem Mine.fin.tw11607805686811502034 : True := trivial
theorem Mine.fin.tw3810338749695602999 : True := trivial
theorem Mine.fin.tw8614737586434602478 : True := trivial
theorem Mine.fin.tw8331973007464152698 : True := trivial
theorem Mine.fin.tw18230178534529381785 : True := trivial
theorem Mine.fin.tw9445451236469955387 : True := trivial
theorem Mine.fin.tw7830602891274557492 : True := trivial
theorem Mine.fin.tw2537931557510868981 : True := trivial
theorem Mine.fin.tw3029852977388229646 : True := trivial
theorem Mine.fin.tw13423622936843584764 : True := trivial
theorem Mine.fin.tw12448240930570709186 : True := trivial
theorem Mine.fin.tw17164383140453370395 : True := trivial
theorem Mine.fin.tw6310204854330606434 : True := trivial
theorem Mine.fin.tw5678346346211369953 : True := trivial
theorem Mine.fin.tw857469055436470443 : True := trivial
theorem Mine.fin.tw6846200578177281708 : True := trivial
theorem Mine.fin.tw1535588207084551279 : True := trivial
theorem Mine.fin.tw18105285910621931680 : True := trivial
theorem Mine.fin.tw10895054467252067526 : True := trivial
theorem Mine.fin.tw16053909478246549127 : True := trivial
theorem Mine.fin.tw17784850919643140607 : True := trivial
theorem Mine.fin.tw17963964198891936676 : True := trivial
theorem Mine.fin.tw6068950659093879613 : True := trivial
theorem Mine.fin.tw12118000046449163591 : True := trivial
theorem Mine.fin.tw6634307039904815820 : True := trivial
theorem Mine.fin.tw380778119907437045 : True := trivial
theorem Mine.fin.tw11277574374343807151 : True := trivial
theorem Mine.fin.tw13035599975385658867 : True := trivial
theorem Mine.fin.tw11151619158091525091 : True := trivial
theorem Mine.fin.tw4898026214463823928 : True := trivial
theorem Mine.fin.tw4443050520305737185 : True := trivial
theorem Mine.fin.tw11079828417688620724 : True := trivial
theorem Mine.fin.tw8999559765510592377 : True := trivial
theorem Mine.fin.tw13066358836101814915 : True := trivial
theorem Mine.fin.tw7779959011674639804 : True := trivial
theorem Mine.fin.tw8577089030196625639 : True := trivial
theorem Mine.fin.tw3762306804915933987 : True := trivial
theorem Mine.fin.tw3456623496861543869 : True := trivial
theorem Mine.fin.tw5901363791540438844 : True := trivial
theorem Mine.fin.tw14345562132136545540 : True := trivial
theorem Mine.fin.tw12829507556594621215 : True := trivial
theorem Mine.fin.tw10671828304227620169 : True := trivial
theorem Mine.fin.tw3812028171767442716 : True := trivial
theorem Mine.fin.tw17512474026176034454 : True := trivial
theorem Mine.fin.tw15942684835789789487 : True := trivial
theorem Mine.fin.tw8383268338085895543 : True := trivial
theorem Mine.fin.tw11575174756993882273 : True := trivial
theorem Mine.fin.tw17495881415371897999 : True := trivial
theorem Mine.fin.tw1963134401048803436 : True := trivial
theorem Mine.fin.tw6956187926921108005 : True := trivial
theorem Mine.fin.tw12932903420030652473 : True := trivial
theorem Mine.fin.tw3125960719983571848 : True := trivial
theorem Mine.fin.tw12409915417874342407 : True := trivial
theorem Mine.fin.tw7470013935711676318 : True := trivial
theorem Mine.fin.tw8559517257967667466 : True := trivial
theorem Mine.fin.tw251868834278440796 : True := trivial
theorem Mine.fin.tw895571856199123645 : True := trivial
theorem Mine.fin.tw15832999045522443761 : True := trivial
theorem Mine.fin.tw11615019562542576733 : True := trivial
theorem Mine.fin.tw15621619335703214680 : True := trivial
theorem Mine.fin.tw15989303212955285315 : True := trivial
theorem Mine.fin.tw9962418760945406050 : True := trivial
theorem Mine.fin.tw3857263333814641470 : True := trivial
theorem Mine.fin.tw11040825799340251285 : True := trivial
theorem Mine.fin.tw17801579834951734752 : True := trivial
theorem Mine.fin.tw12718612220689870738 : True := trivial
theorem Mine.fin.tw5402249366112354979 : True := trivial
theorem Mine.fin.tw15373703851562958014 : True := trivial
theorem Mine.fin.tw12977279227502587607 : True := trivial
theorem Mine.fin.tw15149952090015108872 : True := trivial
theorem Mine.fin.tw6650461044873433052 : True := trivial
theorem Mine.fin.tw17971676594858020690 : True := trivial
theorem Mine.fin.tw14786503066443513839 : True := trivial
theorem Mine.fin.tw3263211703599914710 : True := trivial
theorem Mine.fin.tw16496857829328116044 : True := trivial
theorem Mine.fin.tw5293390819737331289 : True := trivial
theorem Mine.fin.tw14431720936831517352 : True := trivial
theorem Mine.fin.tw8472697214298850164 : True := trivial
theorem Mine.fin.tw12962497063298326498 : True := trivial
theorem Mine.fin.tw13929302177132474383 : True := trivial
theorem Mine.fin.tw11336253725339858928 : True := trivial
theorem Mine.fin.tw8590288500278120515 : True := trivial
theorem Mine.fin.tw12494888245299231016 : True := trivial
theorem Mine.fin.tw12696600883282566439 : True := trivial
theorem Mine.fin.tw8018989035897545986 : True := trivial
theorem Mine.fin.tw5011121235533021005 : True := trivial
theorem Mine.fin.tw12221555665107904926 : True := trivial
theorem Mine.fin.tw1982079694162106894 : True := trivial
theorem Mine.fin.tw12780881840741157306 : True := trivial
theorem Mine.fin.tw13790858721211988464 : True := trivial
theorem Mine.fin.tw5227809002895711924 : True := trivial
theorem Mine.fin.tw6474043946942992101 : True := trivial
theorem Mine.fin.tw7140950020116457504 : True := trivial
theorem Mine.fin.tw15845795089162586078 : True := trivial
theorem Mine.fin.tw16275787546110486726 : True := trivial
theorem Mine.fin.tw1105837973531982728 : True := trivial
theorem Mine.fin.tw3459265974087741279 : True := trivial
theorem Mine.fin.tw6566618420281934 : True := trivial
theorem Mine.fin.tw7803649310394182010 : True := trivial
theorem Mine.fin.tw16196181902256332553 : True := trivial
theorem Mine.fin.tw3173534031939492945 : True := trivial
theorem Mine.fin.tw7278507554335971580 : True := trivial
theorem Mine.fin.tw114324938638158839 : True := trivial
theorem Mine.fin.tw13814004702073501669 : True := trivial
theorem Mine.fin.tw13294311002278339166 : True := trivial
theorem Mine.fin.tw6388184931127306564 : True := trivial
theorem Mine.fin.tw13162651487661262736 : True := trivial
theorem Mine.fin.tw14574801432027512755 : True := trivial
theorem Mine.fin.tw7773504467932542270 : True := trivial
theorem Mine.fin.tw2671655128345628175 : True := trivial
theorem Mine.fin.tw5734618986648460908 : True := trivial
theorem Mine.fin.tw13383306551100868464 : True := trivial
theorem Mine.fin.tw2367325634123391141 : True := trivial
theorem Mine.fin.tw7321584467024264148 : True := trivial
theorem Mine.fin.tw2316539691658765527 : True := trivial
theorem Mine.fin.tw3975253019698251321 : True := trivial
theorem Mine.fin.tw6385529401280152062 : True := trivial
theorem Mine.fin.tw6127190174262240918 : True := trivial
theorem Mine.fin.tw17869975865946814897 : True := trivial
theorem Mine.fin.tw999798209818781672 : True := trivial
theorem Mine.fin.tw4879674094562380441 : True := trivial
theorem Mine.fin.tw9735714214384596553 : True := trivial
theorem Mine.fin.tw5796354222422608987 : True := trivial
theorem Mine.fin.tw16307707646766795581 : True := trivial
theorem Mine.fin.tw9357874355931990178 : True := trivial
theorem Mine.fin.tw14838103818555229697 : True := trivial
theorem Mine.fin.tw17108682257543074861 : True := trivial
theorem Mine.fin.tw17347454772498655404 : True := trivial
theorem Mine.fin.tw4170516301191304579 : True := trivial
theorem Mine.fin.tw16867096813858660809 : True := trivial
theorem Mine.fin.tw17637551073024348614 : True := trivial
theorem Mine.fin.tw891787732878383699 : True := trivial
theorem Mine.fin.tw4950403968356008110 : True := trivial
theorem Mine.fin.tw11414119711712004833 : True := trivial
theorem Mine.fin.tw2608567993692976607 : True := trivial
theorem Mine.fin.tw5196160543931855155 : True := trivial
theorem Mine.fin.tw17974384156558142227 : True := trivial
theorem Mine.fin.tw14856888987745899463 : True := trivial
theorem Mine.fin.tw15205425988870721313 : True := trivial
theorem Mine.fin.tw7451905468542833597 : True := trivial
theorem Mine.fin.tw17449020081951674710 : True := trivial
theorem Mine.fin.tw5912334543977434280 : True := trivial
theorem Mine.fin.tw4424551920762525699 : True := trivial
theorem Mine.fin.tw14109310954907245088 : True := trivial
theorem Mine.fin.tw11936995450923721628 : True := trivial
theorem Mine.fin.tw13534373051914743626 : True := trivial
theorem Mine.fin.tw807531904560671035 : True := trivial
theorem Mine.fin.tw17719728818120068181 : True := trivial
theorem Mine.fin.tw10751089155417173751 : True := trivial
theorem Mine.fin.tw2976117146107443816 : True := trivial
theorem Mine.fin.tw2086631506510373192 : True := trivial
theorem Mine.fin.tw9924365091441651749 : True := trivial
theorem Mine.fin.tw12809788781938459499 : True := trivial
theorem Mine.fin.tw12237877928780879103 : True := trivial
theorem Mine.fin.tw6968583824967984638 : True := trivial
theorem Mine.fin.tw15094949803261831281 : True := trivial
theorem Mine.fin.tw4565895712905954741 : True := trivial
theorem Mine.fin.tw13870153662132920491 : True := trivial
theorem Mine.fin.tw13516622038369049944 : True := trivial
theorem Mine.fin.tw2617349483901765261 : True := trivial
theorem Mine.fin.tw888132650186811988 : True := trivial
theorem Mine.fin.tw15225332579556243176 : True := trivial
theorem Mine.fin.tw12212933522069011988 : True := trivial
theorem Mine.fin.tw5102460946473063141 : True := trivial
theorem Mine.fin.tw15344004072050561172 : True := trivial
theorem Mine.fin.tw17743408960866722510 : True := trivial
theorem Mine.fin.tw14728723275428758510 : True := trivial
theorem Mine.fin.tw799341379326975648 : True := trivial
theorem Mine.fin.tw17204297501091165112 : True := trivial
theorem Mine.fin.tw12355744275394475900 : True := trivial
theorem Mine.fin.tw13295704053362595847 : True := trivial
theorem Mine.fin.tw5266742908149448401 : True := trivial
theorem Mine.fin.tw4759752924163587094 : True := trivial
theorem Mine.fin.tw13815853411582834384 : True := trivial
theorem Mine.fin.tw18255404467826089762 : True := trivial
theorem Mine.fin.tw6454446336052903152 : True := trivial
theorem Mine.fin.tw4013537778516871869 : True := trivial
theorem Mine.fin.tw14139026862911339306 : True := trivial
theorem Mine.fin.tw10329872625359487480 : True := trivial
theorem Mine.fin.tw18195182924450695511 : True := trivial
theorem Mine.fin.tw16958243865122950064 : True := trivial
theorem Mine.fin.tw4640724917100965312 : True := trivial
theorem Mine.fin.tw12868640280835112553 : True := trivial
theorem Mine.fin.tw15328865355794929244 : True := trivial
theorem Mine.fin.tw500868675978126160 : True := trivial
theorem Mine.fin.tw4265850918314828415 : True := trivial
theorem Mine.fin.tw7055459427971326715 : True := trivial
theorem Mine.fin.tw1012361349325877821 : True := trivial
theorem Mine.fin.tw8947099994592609211 : True := trivial
theorem Mine.fin.tw12629903358213643309 : True := trivial
theorem Mine.fin.tw17260493314774615805 : True := trivial
theorem Mine.fin.tw744865244796547220 : True := trivial
theorem Mine.fin.tw17933470926392208243 : True := trivial
theorem Mine.fin.tw3343445320678177929 : True := trivial
theorem Mine.fin.tw12567809125941998234 : True := trivial
theorem Mine.fin.tw7845872953664198349 : True := trivial
theorem Mine.fin.tw1635022588487117616 : True := trivial
theorem Mine.fin.tw16540275574145912595 : True := trivial
theorem Mine.fin.tw10391319463526535247 : True := trivial
theorem Mine.fin.tw7070210977369740762 : True := trivial
theorem Mine.fin.tw7282745182861764756 : True := trivial
theorem Mine.fin.tw16109372258727991565 : True := trivial
theorem Mine.fin.tw10567028658651823492 : True := trivial
theorem Mine.fin.tw14568449535678555946 : True := trivial
theorem Mine.fin.tw8352470293576582857 : True := trivial
theorem Mine.fin.tw17628183408451194143 : True := trivial
theorem Mine.fin.tw8408514402456403777 : True := trivial
theorem Mine.fin.tw10599938827571368224 : True := trivial
theorem Mine.fin.tw2565351972500760935 : True := trivial
theorem Mine.fin.tw17821466097196317003 : True := trivial
theorem Mine.fin.tw15741700470354863883 : True := trivial
theorem Mine.fin.tw3314143786362844604 : True := trivial
theorem Mine.fin.tw2824846461999071874 : True := trivial
theorem Mine.fin.tw11039862389202566683 : True := trivial
theorem Mine.fin.tw13700621096757390547 : True := trivial
theorem Mine.fin.tw9722632081671974098 : True := trivial
theorem Mine.fin.tw11897717083992391400 : True := trivial
theorem Mine.fin.tw2149071653572219070 : True := trivial
theorem Mine.fin.tw6531376189190222733 : True := trivial
theorem Mine.fin.tw5098551885099359569 : True := trivial
theorem Mine.fin.tw17570509445847580414 : True := trivial
theorem Mine.fin.tw16115155874713506467 : True := trivial
theorem Mine.fin.tw4598667867955821814 : True := trivial
theorem Mine.fin.tw8919302590299486024 : True := trivial
theorem Mine.fin.tw16502652511500755 : True := trivial
theorem Mine.fin.tw11061592194353771069 : True := trivial
theorem Mine.fin.tw7000300075881102575 : True := trivial
theorem Mine.fin.tw12550770813317053977 : True := trivial
theorem Mine.fin.tw12740692763255036000 : True := trivial
theorem Mine.fin.tw14166196953294261902 : True := trivial
theorem Mine.fin.tw6323506392446703087 : True := trivial
theorem Mine.fin.tw17067295170570645592 : True := trivial
theorem Mine.fin.tw10511823565363050587 : True := trivial
theorem Mine.fin.tw16256441300576474876 : True := trivial
theorem Mine.fin.tw16103849850496634939 : True := trivial
theorem Mine.fin.tw8330952907988395303 : True := trivial
theorem Mine.fin.tw7661832156752021035 : True := trivial
theorem Mine.fin.tw9247658263007524724 : True := trivial
theorem Mine.fin.tw17656766251404061198 : True := trivial
theorem Mine.fin.tw4768634762848416435 : True := trivial
theorem Mine.fin.tw16488607150827929282 : True := trivial
theorem Mine.fin.tw15459455144867644326 : True := trivial
theorem Mine.fin.tw111200028466390044 : True := trivial
theorem Mine.fin.tw6707113841082798463 : True := trivial
theorem Mine.fin.tw9913140749668108558 : True := trivial
theorem Mine.fin.tw15399907426655090358 : True := trivial
theorem Mine.fin.tw3404873503106905745 : True := trivial
theorem Mine.fin.tw11293339424137598113 : True := trivial
theorem Mine.fin.tw5115476493328737885 : True := trivial
theorem Mine.fin.tw2103456241558337223 : True := trivial
theorem Mine.fin.tw3794220679723124481 : True := trivial
theorem Mine.fin.tw7716820226725407877 : True := trivial
theorem Mine.fin.tw2051409578822353534 : True := trivial
theorem Mine.fin.tw5073790198343104882 : True := trivial
theorem Mine.fin.tw16437357302060558553 : True := trivial
theorem Mine.fin.tw6435670951450185984 : True := trivial
theorem Mine.fin.tw2305881189932309285 : True := trivial
theorem Mine.fin.tw9173603110224643122 : True := trivial
theorem Mine.fin.tw17662344363894024548 : True := trivial
theorem Mine.fin.tw5486226609284752418 : True := trivial
theorem Mine.fin.tw15675102808854859970 : True := trivial
theorem Mine.fin.tw2304379251839397102 : True := trivial
theorem Mine.fin.tw3767311804947220896 : True := trivial
theorem Mine.fin.tw4804899823659572014 : True := trivial
theorem Mine.fin.tw9757074474933493440 : True := trivial
theorem Mine.fin.tw13093503161671486093 : True := trivial
theorem Mine.fin.tw9746901515087519452 : True := trivial
theorem Mine.fin.tw12751662967071866640 : True := trivial
theorem Mine.fin.tw14855157385224911753 : True := trivial
theorem Mine.fin.tw8272817396058243321 : True := trivial
theorem Mine.fin.tw5071919506433949198 : True := trivial
theorem Mine.fin.tw6766580051018981234 : True := trivial
theorem Mine.fin.tw11227884535216515135 : True := trivial
theorem Mine.fin.tw1035503724928835527 : True := trivial
theorem Mine.fin.tw2656788454239962097 : True := trivial
theorem Mine.fin.tw17698704350827878285 : True := trivial
theorem Mine.fin.tw4162185377826839926 : True := trivial
theorem Mine.fin.tw12876064707754696378 : True := trivial
theorem Mine.fin.tw12669758225909598566 : True := trivial
theorem Mine.fin.tw3222278782482380304 : True := trivial
theorem Mine.fin.tw8119881530291889089 : True := trivial
theorem Mine.fin.tw17041991840579044601 : True := trivial
theorem Mine.fin.tw6289197191216398940 : True := trivial
theorem Mine.fin.tw17570709534508481193 : True := trivial
theorem Mine.fin.tw6515953530934532768 : True := trivial
theorem Mine.fin.tw1713156846745171867 : True := trivial
theorem Mine.fin.tw18105942590061964161 : True := trivial
theorem Mine.fin.tw7613857476909055813 : True := trivial
theorem Mine.fin.tw14134379338385194387 : True := trivial
theorem Mine.fin.tw4924110625330727750 : True := trivial
theorem Mine.fin.tw7613945582906998725 : True := trivial
theorem Mine.fin.tw2789213428527533208 : True := trivial
theorem Mine.fin.tw6577878126316647860 : True := trivial
theorem Mine.fin.tw10279692637995926009 : True := trivial
theorem Mine.fin.tw4040260094072895976 : True := trivial
theorem Mine.fin.tw16503470079419688546 : True := trivial
theorem Mine.fin.tw15201286185872193147 : True := trivial
theorem Mine.fin.tw9746214513668125432 : True := trivial
theorem Mine.fin.tw6498334528663615478 : True := trivial
theorem Mine.fin.tw1422313219903470601 : True := trivial
theorem Mine.fin.tw6144012678527597917 : True := trivial
theorem Mine.fin.tw12711679700452659978 : True := trivial
theorem Mine.fin.tw10818889477481085253 : True := trivial
theorem Mine.fin.tw4719063310657182621 : True := trivial
theorem Mine.fin.tw12847644182280273618 : True := trivial
theorem Mine.fin.tw13898374239775968522 : True := trivial
theorem Mine.fin.tw10782327089294195420 : True := trivial
theorem Mine.fin.tw3998398428148030388 : True := trivial
theorem Mine.fin.tw14679806638718605512 : True := trivial
theorem Mine.fin.tw17186005699333237546 : True := trivial
theorem Mine.fin.tw2377308710366028375 : True := trivial
theorem Mine.fin.tw982560976839675504 : True := trivial
theorem Mine.fin.tw9218923581257491847 : True := trivial
theorem Mine.fin.tw14279960228734115912 : True := trivial
theorem Mine.fin.tw15564276425815640635 : True := trivial
theorem Mine.fin.tw10234915967203826555 : True := trivial
theorem Mine.fin.tw2910385600587045654 : True := trivial
theorem Mine.fin.tw11192643925408225281 : True := trivial
theorem Mine.fin.tw15583698165555649274 : True := trivial
theorem Mine.fin.tw3028926083550364057 : True := trivial
theorem Mine.fin.tw1921391257341544841 : True := trivial
theorem Mine.fin.tw10580198807604790814 : True := trivial
theorem Mine.fin.tw9221430085559818832 : True := trivial
theorem Mine.fin.tw3974152918291533672 : True := trivial
theorem Mine.fin.tw7547296005191728479 : True := trivial
theorem Mine.fin.tw4171678462856256454 : True := trivial
theorem Mine.fin.tw1080700006314346644 : True := trivial
theorem Mine.fin.tw13021059552284102479 : True := trivial
theorem Mine.fin.tw16940033649967425578 : True := trivial
theorem Mine.fin.tw9997704412844104603 : True := trivial
theorem Mine.fin.tw15234240111613058569 : True := trivial
theorem Mine.fin.tw14347400895652799225 : True := trivial
theorem Mine.fin.tw3598329298470268980 : True := trivial
theorem Mine.fin.tw16022077011142191858 : True := trivial
theorem Mine.fin.tw9725021084223525626 : True := trivial
theorem Mine.fin.tw1560641971993327685 : True := trivial
theorem Mine.fin.tw14075178694198228753 : True := trivial
theorem Mine.fin.tw10907391636593693970 : True := trivial
theorem Mine.fin.tw803859442106103436 : True := trivial
theorem Mine.fin.tw13360279666012451719 : True := trivial
theorem Mine.fin.tw6718411051458867188 : True := trivial
theorem Mine.fin.tw3105451386036433885 : True := trivial
theorem Mine.fin.tw12347537446847802165 : True := trivial
theorem Mine.fin.tw3599858809825778643 : True := trivial
theorem Mine.fin.tw8776770756819070316 : True := trivial
theorem Mine.fin.tw3506512066687448480 : True := trivial
theorem Mine.fin.tw5962627729488381771 : True := trivial
theorem Mine.fin.tw7380833856163905736 : True := trivial
theorem Mine.fin.tw5250828734511838712 : True := trivial
theorem Mine.fin.tw16205109500356779066 : True := trivial
theorem Mine.fin.tw16448676403291746579 : True := trivial
theorem Mine.fin.tw4769821431679368130 : True := trivial
theorem Mine.fin.tw6766378078585498003 : True := trivial
theorem Mine.fin.tw4878226113927451544 : True := trivial
theorem Mine.fin.tw16237762584071213788 : True := trivial
theorem Mine.fin.tw2462912638960843985 : True := trivial
theorem Mine.fin.tw3112429581023547943 : True := trivial
theorem Mine.fin.tw15309079848183770524 : True := trivial
theorem Mine.fin.tw4180101509539245183 : True := trivial
theorem Mine.fin.tw18295790063311454060 : True := trivial
theorem Mine.fin.tw10852849658779182186 : True := trivial
theorem Mine.fin.tw4588413851689716618 : True := trivial
theorem Mine.fin.tw17430205856086898164 : True := trivial
theorem Mine.fin.tw7830629276484211593 : True := trivial
theorem Mine.fin.tw9001875181463519149 : True := trivial
theorem Mine.fin.tw16252508478716706905 : True := trivial
theorem Mine.fin.tw15566928917628492161 : True := trivial
theorem Mine.fin.tw13199158710529813207 : True := trivial
theorem Mine.fin.tw1544503264643628384 : True := trivial
theorem Mine.fin.tw2067723777617599883 : True := trivial
theorem Mine.fin.tw6712194924023145494 : True := trivial
theorem Mine.fin.tw6341822008880759003 : True := trivial
theorem Mine.fin.tw3147549801543308875 : True := trivial
theorem Mine.fin.tw14793013804824869981 : True := trivial
theorem Mine.fin.tw17416127249078093707 : True := trivial
theorem Mine.fin.tw6058378993454661626 : True := trivial
theorem Mine.fin.tw4928979718650693569 : True := trivial
theorem Mine.fin.tw544173102793226557 : True := trivial
theorem Mine.fin.tw3199103547748192838 : True := trivial
theorem Mine.fin.tw16510490156224867327 : True := trivial
theorem Mine.fin.tw16906536467411238026 : True := trivial
theorem Mine.fin.tw428092273266315144 : True := trivial
theorem Mine.fin.tw3955986520655104412 : True := trivial
theorem Mine.fin.tw17896612028031085017 : True := trivial
theorem Mine.fin.tw2512408688544751470 : True := trivial
theorem Mine.fin.tw6667815254911646788 : True := trivial
theorem Mine.fin.tw16229209127682248589 : True := trivial
theorem Mine.fin.tw7976502392129159676 : True := trivial
theorem Mine.fin.tw16175276709679454751 : True := trivial
theorem Mine.fin.tw7439575562449295702 : True := trivial
theorem Mine.fin.tw876206183137641144 : True := trivial
theorem Mine.fin.tw4723787954990577340 : True := trivial
theorem Mine.fin.tw4209717502836232480 : True := trivial
theorem Mine.fin.tw15688172546075569117 : True := trivial
theorem Mine.fin.tw2409761835889866131 : True := trivial
theorem Mine.fin.tw4312942655851389009 : True := trivial
theorem Mine.fin.tw7930893340574950883 : True := trivial
theorem Mine.fin.tw1951045429614898598 : True := trivial
theorem Mine.fin.tw17717364068325071970 : True := trivial
theorem Mine.fin.tw3211687289105081006 : True := trivial
theorem Mine.fin.tw8569027658895312972 : True := trivial
namespace Mine
open PySem PySem.W PyProof.Rows PySem.Calls PyProof.V PySem.Spec

noncomputable abbrev loose : List Str := looseW Mine.V [Str.ofString "FORMS", Str.ofString "PAIRS"]
noncomputable abbrev prog : Program := PySem.Challenge.rw_qd0022_01.row.prog

/-- the feed's dict: the cells, the place -/
abbrev FeedIs (w : World) (o : Obj) (c : Addr) (p : Int) (t : Tok) : Prop := o.IsDictOf (strKind prog w) [(Str.ofString "cells", .ref c), (Str.ofString "place", .int p t)]

section
variable {pg : Program} {w : World} {A : Around} {E : Value → Shared → Prop} {zh : Heap} {zg : Array GenState} {zd : Drawn} {zt : Nat} {zo : OsState} {h₀ : Heap} {L d : Addr} {m : Str → Option Value} {news : List (Addr × Obj)} {o : Obj} {kvs : List (Str × Value)} {x : Str} {t : Tok} {v : Value}

theorem newsSub {h : Heap} {l l' : List (Addr × Obj)} (N : News h₀ L h l) (hs : ∀ p ∈ l', p ∈ l) : News h₀ L h l' := fun p hp => N p (hs p hp)

theorem allLt_mem {b : Addr} : ∀ {l : List (Addr × Obj)}, AllLt b l → ∀ q ∈ l, q.1 < b
  | [], _, _, h => nomatch h
  | _ :: _, h, q, hq => by
    rcases List.mem_cons.mp hq with rfl | hq
    · exact h.1
    · exact allLt_mem h.2 q hq

theorem memOf {α : Type} {x : α} {l : List α} (h : x ∈ l) : List.Mem x l := h

theorem d_get {value slice : PySem.Expr} {Q : Value → Shared → Prop} (N : News h₀ L zh news) (hm : (d, o) ∈ news) (ho : o.IsDictOf (strKind pg w) kvs) (hf : valueAt kvs x = some v)
    (h : Q v ⟨zh, zg, zd, Nat.succ zt, zo⟩)
    (hs : subscripted slice false (.ref d) (.str x t) = operate [.ref d, .str x t] (getItem (.ref d) (.str x t)) := by with_unfolding_all rfl) :
    wpAny (model pg w) A (subscriptTail value slice (.ref d) (.str x t)) Q E ⟨zh, zg, zd, zt, zo⟩ :=
  have hd : zh.DictOf (strKind pg w) d kvs := Heap.dictOf_iff.mpr ⟨o, (N _ hm).1, ho⟩
  tail_any hd.typeIs slot_dict_getitem.lookup (wpAny_getItem_of (strKind_is pg w x t) hd.mapOf hf h) hs

theorem d_set {g : Obj → List (Addr × Obj)} {Q : Unit → Shared → Prop} (F : Fr h₀ L zh m) (N : News h₀ L zh news) (U : UpdF d o news g) (ho : o.IsDictOf (strKind pg w) kvs)
    (h : ∀ h' o', Fr h₀ L h' m → News h₀ L h' (g o') → o'.IsDictOf (strKind pg w) (stored kvs x v) → Q () ⟨h', zg, zd, Nat.succ zt, zo⟩)
    (hsz : kvs.length ≤ sizeLine := by size_fits) : wpAny (model pg w) A (setItem (.ref d) (.str x t) v) Q E ⟨zh, zg, zd, zt, zo⟩ := by
  obtain ⟨pre, post, rfl, hg, a, b⟩ := U.split
  have hm := N (d, o) (List.mem_append_right _ (.head _))
  refine wpAny_setItem_pairs (hsz := hsz) (strKind_is pg w x t) (Heap.dictOf_iff.mpr ⟨o, hm.1, ho⟩) fun h' hmm hs => ?_
  obtain ⟨o', ho', hd'⟩ := Heap.dictOf_iff.mp hmm
  exact h h' o' (F.change hs hm.2.1 hm.2.2) (hg o' ▸ N.setIn a b hs ho') hd'

theorem len_L {l : Addr} {vs : List Value} {nn : Nat} {Q : Value → Shared → Prop} (N : News h₀ L zh news) (hm : (l, listOf vs.toArray nn) ∈ news) (hb : (vs.length : Int) < 2 ^ 62)
    (h : Q (.int vs.length (Nat.succ zt)) ⟨zh, zg, zd, Nat.succ (Nat.succ zt), zo⟩) : wpAny (model pg w) A (call (.builtin "len") [.ref l]) Q E ⟨zh, zg, zd, zt, zo⟩ :=
  len_list (items := vs.toArray) ⟨_, (N _ hm).1, rfl, _, rfl⟩ (by rw [List.size_toArray]; omega) (by rw [List.size_toArray]; exact h)

theorem item_L {l : Addr} {vs : List Value} {nn : Nat} {k : Int} {u : Tok} {value slice : PySem.Expr} {Q : Value → Shared → Prop} (N : News h₀ L zh news) (hm : (l, listOf vs.toArray nn) ∈ news)
    (h0 : 0 ≤ k) (h1 : k < vs.length) (hb : (vs.length : Int) < 2 ^ 62) (h : ∀ x, vs[k.toNat]? = some x → Q x ⟨zh, zg, zd, zt, zo⟩)
    (hs : subscripted slice false (.ref l) (.int k u) = operate [.ref l, .int k u] (getItem (.ref l) (.int k u)) := by with_unfolding_all rfl) :
    wpAny (model pg w) A (subscriptTail value slice (.ref l) (.int k u)) Q E ⟨zh, zg, zd, zt, zo⟩ := by
  have hl : zh.IsList l vs.toArray := ⟨_, (N _ hm).1, rfl, _, rfl⟩
  have hk : k.toNat < vs.length := by omega
  have e : vs[k.toNat]? = some vs[k.toNat] := List.getElem?_eq_getElem hk
  exact tail_any hl.typeIs slot_list_getitem.lookup (wpAny_getItem_list hl h0 (by omega) (by simp [e]) (h _ e)) hs

theorem item_LI {l : Addr} {vs : List Value} {ns : List Int} {nn : Nat} {k : Int} {u : Tok} {value slice : PySem.Expr} {Q : Value → Shared → Prop} (N : News h₀ L zh news) (hm : (l, listOf vs.toArray nn) ∈ news) (hI : IntsAre vs ns)
    (h0 : 0 ≤ k) (h1 : k < vs.length) (hb : (vs.length : Int) < 2 ^ 62) (h : ∀ n tn, Q (.int n tn) ⟨zh, zg, zd, zt, zo⟩)
    (hs : subscripted slice false (.ref l) (.int k u) = operate [.ref l, .int k u] (getItem (.ref l) (.int k u)) := by with_unfolding_all rfl) :
    wpAny (model pg w) A (subscriptTail value slice (.ref l) (.int k u)) Q E ⟨zh, zg, zd, zt, zo⟩ := by
  refine item_L N hm h0 h1 hb (fun x hx => ?_) hs
  have hlen := hI.length
  have hk : k.toNat < ns.length := by omega
  obtain ⟨t, ht⟩ := hI.get k.toNat (ns[k.toNat]'hk) (List.getElem?_eq_getElem hk)
  rw [hx] at ht
  cases ht
  exact h _ _
end
section
variable {M : Model} {pg : Program} {w : World} {A : Around} {E : Value → Shared → Prop} {env : Env} {Q : Value → Shared → Prop} {zh : Heap} {zg : Array GenState} {zd : Drawn} {zt : Nat} {zo : OsState}
theorem constI {i : Int} {k : Nat} {pos : Pos} (h : Q (.int i zt) ⟨zh, zg, zd, Nat.succ zt, zo⟩) : wpAny M A (eval (.Constant (.int i) k pos) env) Q E ⟨zh, zg, zd, zt, zo⟩ := wpAny_Constant_int h
theorem constS {x : Str} {k : Nat} {pos : Pos} (h : Q (.str x zt) ⟨zh, zg, zd, Nat.succ zt, zo⟩) : wpAny M A (eval (.Constant (.str x) k pos) env) Q E ⟨zh, zg, zd, zt, zo⟩ := PySem.Calls.Constant_str h
theorem addI {a b : Int} {t u : Tok} (h : Q (.int (a + b) zt) ⟨zh, zg, zd, Nat.succ zt, zo⟩) : wpAny (model pg w) A (binaryOp .Add (.int a t) (.int b u)) Q E ⟨zh, zg, zd, zt, zo⟩ := add_int h
end
theorem fmod_in {a b : Int} (h : 0 < b) : 0 ≤ a.fmod b ∧ a.fmod b < b := ⟨Int.fmod_nonneg_of_pos a h, Int.fmod_lt_of_pos a h⟩
theorem gtA {zaz zbz : Nat} {zpz : Prop} (zhz : zaz < zbz ∧ zpz) : zbz ≠ zaz := Nat.ne_of_gt zhz.1
theorem gtB {zaz zbz : Nat} {zpz zqz : Prop} (zhz : zpz ∧ zaz < zbz ∧ zqz) : zbz ≠ zaz := Nat.ne_of_gt zhz.2.1
theorem gtC {zaz zbz : Nat} {zpz zqz zrz : Prop} (zhz : zpz ∧ zqz ∧ zaz < zbz ∧ zrz) : zbz ≠ zaz := Nat.ne_of_gt zhz.2.2.1
theorem ltA {zaz zbz : Nat} {zpz : Prop} (zhz : zaz < zbz ∧ zpz) : zaz ≠ zbz := Nat.ne_of_lt zhz.1
theorem ltB {zaz zbz : Nat} {zpz zqz : Prop} (zhz : zpz ∧ zaz < zbz ∧ zqz) : zaz ≠ zbz := Nat.ne_of_lt zhz.2.1
theorem ltC {zaz zbz : Nat} {zpz zqz zrz : Prop} (zhz : zpz ∧ zqz ∧ zaz < zbz ∧ zrz) : zaz ≠ zbz := Nat.ne_of_lt zhz.2.2.1
theorem al1 {zlz : List (Addr × Obj)} {zdz : Addr} {z1z : Prop} (zhz : z1z ∧ AllLt zdz zlz) : AllLt zdz zlz := zhz.2
theorem al2 {zlz : List (Addr × Obj)} {zdz : Addr} {z1z z2z : Prop} (zhz : z1z ∧ z2z ∧ AllLt zdz zlz) : AllLt zdz zlz := zhz.2.2
theorem al3 {zlz : List (Addr × Obj)} {zdz : Addr} {z1z z2z z3z : Prop} (zhz : z1z ∧ z2z ∧ z3z ∧ AllLt zdz zlz) : AllLt zdz zlz := zhz.2.2.2
theorem al4 {zlz : List (Addr × Obj)} {zdz : Addr} {z1z z2z z3z z4z : Prop} (zhz : z1z ∧ z2z ∧ z3z ∧ z4z ∧ AllLt zdz zlz) : AllLt zdz zlz := zhz.2.2.2.2
theorem al5 {zlz : List (Addr × Obj)} {zdz : Addr} {z1z z2z z3z z4z z5z : Prop} (zhz : z1z ∧ z2z ∧ z3z ∧ z4z ∧ z5z ∧ AllLt zdz zlz) : AllLt zdz zlz := zhz.2.2.2.2.2
theorem al6 {zlz : List (Addr × Obj)} {zdz : Addr} {z1z z2z z3z z4z z5z z6z : Prop} (zhz : z1z ∧ z2z ∧ z3z ∧ z4z ∧ z5z ∧ z6z ∧ AllLt zdz zlz) : AllLt zdz zlz := zhz.2.2.2.2.2.2
theorem al7 {zlz : List (Addr × Obj)} {zdz : Addr} {z1z z2z z3z z4z z5z z6z z7z : Prop} (zhz : z1z ∧ z2z ∧ z3z ∧ z4z ∧ z5z ∧ z6z ∧ z7z ∧ AllLt zdz zlz) : AllLt zdz zlz := zhz.2.2.2.2.2.2.2
theorem al8 {zlz : List (Addr × Obj)} {zdz : Addr} {z1z z2z z3z z4z z5z z6z z7z z8z : Prop} (zhz : z1z ∧ z2z ∧ z3z ∧ z4z ∧ z5z ∧ z6z ∧ z7z ∧ z8z ∧ AllLt zdz zlz) : AllLt zdz zlz := zhz.2.2.2.2.2.2.2.2
theorem cj1 {z1z z2z : Prop} (zhz : z1z ∧ z2z) : z1z := zhz.1
theorem cj2 {z1z z2z z3z : Prop} (zhz : z1z ∧ z2z ∧ z3z) : z2z := zhz.2.1
theorem cj3 {z1z z2z z3z z4z : Prop} (zhz : z1z ∧ z2z ∧ z3z ∧ z4z) : z3z := zhz.2.2.1
theorem cj4 {z1z z2z z3z z4z z5z : Prop} (zhz : z1z ∧ z2z ∧ z3z ∧ z4z ∧ z5z) : z4z := zhz.2.2.2.1
theorem cj5 {z1z z2z z3z z4z z5z z6z : Prop} (zhz : z1z ∧ z2z ∧ z3z ∧ z4z ∧ z5z ∧ z6z) : z5z := zhz.2.2.2.2.1
theorem cj6 {z1z z2z z3z z4z z5z z6z z7z : Prop} (zhz : z1z ∧ z2z ∧ z3z ∧ z4z ∧ z5z ∧ z6z ∧ z7z) : z6z := zhz.2.2.2.2.2.1
theorem cj7 {z1z z2z z3z z4z z5z z6z z7z z8z : Prop} (zhz : z1z ∧ z2z ∧ z3z ∧ z4z ∧ z5z ∧ z6z ∧ z7z ∧ z8z) : z7z := zhz.2.2.2.2.2.2.1
theorem cj8 {z1z z2z z3z z4z z5z z6z z7z z8z z9z : Prop} (zhz : z1z ∧ z2z ∧ z3z ∧ z4z ∧ z5z ∧ z6z ∧ z7z ∧ z8z ∧ z9z) : z8z := zhz.2.2.2.2.2.2.2.1
theorem gtD {zaz zbz : Nat} {z1z z2z z3z zrz : Prop} (zhz : z1z ∧ z2z ∧ z3z ∧ zaz < zbz ∧ zrz) : zbz ≠ zaz := Nat.ne_of_gt zhz.2.2.2.1
theorem ltD {zaz zbz : Nat} {z1z z2z z3z zrz : Prop} (zhz : z1z ∧ z2z ∧ z3z ∧ zaz < zbz ∧ zrz) : zaz ≠ zbz := Nat.ne_of_lt zhz.2.2.2.1
theorem gtE {zaz zbz : Nat} {z1z z2z z3z z4z zrz : Prop} (zhz : z1z ∧ z2z ∧ z3z ∧ z4z ∧ zaz < zbz ∧ zrz) : zbz ≠ zaz := Nat.ne_of_gt zhz.2.2.2.2.1
theorem ltE {zaz zbz : Nat} {z1z z2z z3z z4z zrz : Prop} (zhz : z1z ∧ z2z ∧ z3z ∧ z4z ∧ zaz < zbz ∧ zrz) : zaz ≠ zbz := Nat.ne_of_lt zhz.2.2.2.2.1
theorem gtF {zaz zbz : Nat} {z1z z2z z3z z4z z5z zrz : Prop} (zhz : z1z ∧ z2z ∧ z3z ∧ z4z ∧ z5z ∧ zaz < zbz ∧ zrz) : zbz ≠ zaz := Nat.ne_of_gt zhz.2.2.2.2.2.1
theorem ltF {zaz zbz : Nat} {z1z z2z z3z z4z z5z zrz : Prop} (zhz : z1z ∧ z2z ∧ z3z ∧ z4z ∧ z5z ∧ zaz < zbz ∧ zrz) : zaz ≠ zbz := Nat.ne_of_lt zhz.2.2.2.2.2.1
theorem roomY {z1z z2z zLz : Nat} (zhz : z1z + z2z < zLz) : z1z < zLz := Nat.lt_of_le_of_lt (Nat.le_add_right _ _) zhz
theorem nnS {a : Int} (h : 0 ≤ a) : 0 ≤ a + 1 := by omega
theorem ltS {a c : Int} (h : a < c - 1) : a + 1 < c := by omega
theorem ltT {z1z z2z z3z : Int} (zhz : z1z < z2z) (zkz : z2z ≤ z3z) : z1z < z3z := Int.lt_of_lt_of_le zhz zkz
theorem leT {z1z z2z z3z : Nat} (zhz : z1z ≤ z2z) (zkz : z2z ≤ z3z) : z1z ≤ z3z := Nat.le_trans zhz zkz
theorem roomV {zAz : Around} {zez : Env} {z2z z3z zLz : Nat} (zhz : zAz.units + z2z < zLz) (zkz : 3 + z3z ≤ z2z) : (zAz.deeper zez).units + z3z < zLz := by rw [units_deeper]; omega
theorem roomW {zAz : Around} {zez : Env} {z2z z3z zLz : Nat} (zhz : zAz.depth + z2z < zLz) (zkz : 1 + z3z ≤ z2z) : (zAz.deeper zez).depth + z3z < zLz := by rw [depth_deeper]; omega
theorem roomX {zAz : Around} {zez : Env} {z2z zLz : Nat} (zhz : zAz.depth + z2z < zLz) (zkz : 1 ≤ z2z) : (zAz.deeper zez).depth < zLz := by rw [depth_deeper]; omega
theorem roomU {z1z z2z z3z zLz : Nat} (zhz : z1z + z2z < zLz) (zkz : z3z ≤ z2z) : z1z + z3z < zLz := by omega
theorem roomD {z1z z2z z3z z4z zLz : Nat} (zhz : z1z + z2z < zLz) (zkz : z3z + z4z ≤ z2z) : z1z + z3z + z4z < zLz := by omega
end Mine
local macro_rules | `(tactic| k_all) => `(tactic| with_reducible assumption)
local macro_rules | `(tactic| k_mem) => `(tactic| first | with_reducible assumption | (with_reducible refine Mine.memOf ?_; with_reducible assumption))
local macro_rules | `(tactic| k_ne) => `(tactic| first | with_reducible assumption | (with_reducible refine Ne.symm ?_; with_reducible assumption) | (with_reducible refine Nat.ne_of_lt ?_; with_reducible assumption) | (with_reducible refine Nat.ne_of_gt ?_; with_reducible assumption))
local macro_rules | `(tactic| ktr_room) => `(tactic| first | (with_reducible apply Mine.roomY; with_reducible assumption) | (with_reducible apply Mine.roomD; (with_reducible assumption); decide) | (with_reducible apply Mine.roomU; (with_reducible assumption); decide) | (with_reducible apply Mine.roomV; (with_reducible assumption); decide) | (with_reducible apply Mine.roomW; (with_reducible assumption); decide) | (with_reducible apply Mine.roomX; (with_reducible assumption); decide))
local macro_rules | `(tactic| ktr_units) => `(tactic| first | (with_reducible apply Mine.roomD; (with_reducible assumption); decide) | (with_reducible apply Mine.roomU; (with_reducible assumption); decide) | (with_reducible apply Mine.roomV; (with_reducible assumption); decide) | (with_reducible apply Mine.roomW; (with_reducible assumption); decide) | (with_reducible apply Mine.roomX; (with_reducible assumption); decide))
local macro_rules | `(tactic| omega) => `(tactic| first
  | with_reducible assumption
  | decide
  | (with_reducible refine Ne.symm ?_; with_reducible assumption)
  | (with_reducible refine Nat.ne_of_lt ?_; with_reducible assumption)
  | (with_reducible refine Nat.ne_of_gt ?_; with_reducible assumption)
  | (with_reducible apply Mine.gtA; with_reducible assumption)
  | (with_reducible apply Mine.gtB; with_reducible assumption)
  | (with_reducible apply Mine.gtC; with_reducible assumption)
  | (with_reducible apply Mine.ltA; with_reducible assumption)
  | (with_reducible apply Mine.ltB; with_reducible assumption)
  | (with_reducible apply Mine.ltC; with_reducible assumption)
  | (with_reducible apply Mine.gtD; with_reducible assumption)
  | (with_reducible apply Mine.gtE; with_reducible assumption)
  | (with_reducible apply Mine.gtF; with_reducible assumption)
  | (with_reducible apply Mine.ltD; with_reducible assumption)
  | (with_reducible apply Mine.ltE; with_reducible assumption)
  | (with_reducible apply Mine.ltF; with_reducible assumption)
  | with_reducible exact Int.natCast_nonneg _
  | ((repeat with_reducible refine Mine.nnS ?_); with_reducible assumption)
  | (with_reducible apply Mine.leT; (with_reducible assumption); decide)
  | ((repeat with_reducible refine Mine.ltS ?_); with_reducible apply Mine.ltT; (with_reducible assumption); decide))
local macro_rules | `(tactic| k_lt $h:ident) => `(tactic| (replace $h := allLt_of $h; dsimp only [AllLt] at $h:ident))
local macro_rules | `(tactic| walk_at $s:str) => `(tactic| k_extra $s)
theorem Mine.rw_P02_dip : True := by
  k_with_none
  (k_with "subscriptTail" => (k_here; (fail_if_success fail_if_success with_reducible show wpAny _ _ (subscriptTail _ _ (Value.ref _) (Value.str _ _)) _ _ _); k_dflt (refine' Mine.d_get ?zzN ?zzm ?zzo ?zzf ?_; (case zzN => k_asm); (case zzm => k_mem); (case zzo => with_reducible assumption); (case zzf => exact rfl); k_whole)))
  (k_with "setItem ref str" => (k_here; (fail_if_success fail_if_success with_reducible show wpAny _ _ (setItem (Value.ref _) (Value.str _ _) _) _ _ _); k_dflt (refine' Mine.d_set ?zzF ?zzN ?zzU ?zzo ?_ ?zzz; (case zzF => k_asm); (case zzN => k_asm); (case zzU => k_updF); (case zzo => with_reducible assumption); (case zzz => exact Nat.le_of_ble_eq_true rfl)); intro _ _ _ _ _; (try k_sweep)))
  (k_with "call builtin:len" => (k_here; (fail_if_success fail_if_success with_reducible show wpAny _ _ (call (Value.builtin "len") [Value.ref _]) _ _ _); k_dflt (refine' Mine.len_L ?zzN ?zzm ?zzb ?_; (case zzN => k_asm); (case zzm => k_mem); (case zzb => omega); k_whole)))
  (k_with "subscriptTail" => (k_here; (fail_if_success fail_if_success with_reducible show wpAny _ _ (subscriptTail _ _ (Value.ref _) (Value.int _ _)) _ _ _); k_dflt (refine' Mine.item_L ?zzN ?zzm ?zza ?zzb ?zzc ?_; (case zzN => k_asm); (case zzm => k_mem); (case zza => omega); (case zzb => omega); (case zzc => omega); k_whole); intro _ _))
  (k_with "subscriptTail" => (k_here; (fail_if_success fail_if_success with_reducible show wpAny _ _ (subscriptTail _ _ (Value.ref _) (Value.int _ _)) _ _ _); k_dflt (refine' Mine.item_LI ?zzN ?zzm ?zzi ?zza ?zzb ?zzc ?_; (case zzN => k_asm); (case zzm => k_mem); (case zzi => with_reducible assumption); (case zza => omega); (case zzb => omega); (case zzc => omega); k_whole); intro _ _))
  (k_with "ite" => first | with_reducible refine PyProof.Rows.ite_tt ?_ | with_reducible refine PyProof.Rows.ite_ff ?_)
  (k_with "execs cons" => (k_here; (try k_gentoks); (with_reducible refine wpAny_execs_cons ?_); (try dsimp only); k_fold))
  (k_with "eval Constant int" => (with_reducible refine Mine.constI ?_))
  (k_with "eval Constant str" => (with_reducible refine Mine.constS ?_))
  (k_with "binaryOp Add int int" => (with_reducible refine Mine.addI ?_))
  trivial
namespace Mine
open PySem PySem.W PyProof.Rows PySem.Calls PyProof.V PySem.Spec
set_option maxHeartbeats 4000000 in
theorem dip_body {w : World} {mean : ExcName → Option Value} {mg mb : Str → Option Value} {dp un : Nat} {gd : Option (List Code)} {cn : Str} {cs : Scope} {a : Addr} {ccd : Value} {cl : List (Str × Addr)} {outer : List Env} {A₀ : Around} {base h₀ : Heap} {L : Addr} {m : Str → Option Value} {zh : Heap} {zg : Array GenState} {zd : Drawn} {zt : Nat} {zo : OsState} {Q E : Value → Shared → Prop}
    {d c : Addr} {o : Obj} {t tm : Tok} {p many : Int} {vs : List Value} {ns : List Int} {nn : Nat} {rest : List (Addr × Obj)}
    (B : Below A₀ base outer h₀) (F : Fr h₀ L zh m) (X : (Mine.top.heap_1 w.params).In h₀) (T : Top Mine.V loose mean mg mb h₀) (hk : cs.kind = .function) (hdp : dp + 1 < recursionLimit) (hun : un + 8 < cLine)
    (N : News h₀ L zh ((d, o) :: rest)) (hfd : FeedIs w o c p t) (hcm : (c, listOf vs.toArray nn) ∈ rest) (hoff : ∀ q ∈ rest, q.1 ≠ d)
    (hI : IntsAre vs ns) 
    (hlen : vs.length ≤ 1000) (hp0 : 0 ≤ p) (hp1 : p < 1000) (hm0 : 0 < many) (hm1 : many < 1000)
    (hQ : ∀ v t1 t2 o' h' tk', 0 ≤ v → v < many → FeedIs w o' c (p + 1) t1 → Fr h₀ L h' m → News h₀ L h' ((d, o') :: rest) → Q (.int v t2) ⟨h', zg, zd, tk', zo⟩) :
    wpAny (model prog w) (ktrTop dp un gd cn cs L a ccd cl outer) (call (.ref 455) [.ref d, .int many tm]) Q E ⟨zh, zg, zd, zt, zo⟩ := by
  refine wpAny_call ?_
  k_dflt (refine' code_def (binds := [(Str.ofString "feed", .ref d), (Str.ofString "many", .int many tm)]) ?k1 ?k2 ?k3 ?k4 ?k5 ?kA ?kF ?kK ?k6 ?k7 ?k8 ?k9 ?kB ?_ ?c2 ?c3 ?c4 ?c5; (case kA => exact rfl); (case kF => exact rfl); (case kK => assumption); (case k1 => k_asm); (case k2 => k_asm); (case k3 => k_asm); (case k4 => k_asm); (case k5 => k_asm); (case k6 => k_is); (case k7 => k_is); (case k8 => ktr_room); (case k9 => exact BindsTo.of_eq rfl); (case c5 => decide); (case kB => exact locs rfl); (case c2 => exact rfl); (case c3 => exact rfl); (case c4 => exact rfl); k_whole; intro g' L' h' FG' F' N' B' X' T'; (try dsimp only); (try k_fold); (show let Ab : PySem.Around := ktrTop dp un gd cn cs L a ccd cl outer; let ev : PySem.Env := _; let Ac : PySem.Around := PySem.Around.deeper Ab ev; wpAny _ Ac (PySem.execs _ ev) _ _ _); intro Ab ev Ac; (replace hdp : PySem.Around.depth Ab + _ < _ := hdp); (replace hun : PySem.Around.units Ab + _ < _ := hun))
  k_steps
  all_goals exact hQ _ _ _ _ _ _ (fmod_in hm0).1 (fmod_in hm0).2 (by assumption) (by k_asm) (newsSub (by assumption) (fun p hp => List.Mem.tail _ hp))

theorem dip_K {w : World} {mean : ExcName → Option Value} {mg mb : Str → Option Value} {dp un : Nat} {gd : Option (List Code)} {cn : Str} {cs : Scope} {a : Addr} {ccd : Value} {cl : List (Str × Addr)} {outer : List Env} {A₀ : Around} {base h₀ : Heap} {L : Addr} {m : Str → Option Value} {zh : Heap} {zg : Array GenState} {zd : Drawn} {zt : Nat} {zo : OsState} {Q E : Value → Shared → Prop} {news : List (Addr × Obj)}
    {d c : Addr} {o : Obj} {t tm : Tok} {p many : Int} {vs : List Value} {ns : List Int} {nn : Nat} {g : Obj → List (Addr × Obj)}
    (B : Below A₀ base outer h₀) (F : Fr h₀ L zh m) (X : (Mine.top.heap_1 w.params).In h₀) (T : Top Mine.V loose mean mg mb h₀) (hk : cs.kind = .function) (hdp : dp + 1 < recursionLimit) (hun : un + 8 < cLine)
    (N : News h₀ L zh news) (U : UpdF d o news g) (hfd : FeedIs w o c p t) (hcm : (c, listOf vs.toArray nn) ∈ news) (hcd : @Ne Nat c d)
    (hI : IntsAre vs ns) 
    (hlen : vs.length ≤ 1000) (hp0 : 0 ≤ p) (hp1 : p < 1000) (hm0 : 0 < many) (hm1 : many < 1000)
    (hQ : ∀ v t1 t2 o' h' tk', 0 ≤ v → v < many → FeedIs w o' c (p + 1) t1 → Fr h₀ L h' m → News h₀ L h' (g o') → Q (.int v t2) ⟨h', zg, zd, tk', zo⟩) :
    wpAny (model prog w) (ktrTop dp un gd cn cs L a ccd cl outer) (call (.ref 455) [.ref d, .int many tm]) Q E ⟨zh, zg, zd, zt, zo⟩ := by
  obtain ⟨pre, post, rfl, hg, x, y⟩ := U.split
  refine dip_body (c := c) (vs := vs) (nn := nn) (rest := pre ++ post) B F X T hk hdp hun (newsSub N fun q hq => ?_) hfd ?_ (fun q hq => ?_) hI hlen hp0 hp1 hm0 hm1 fun v t1 t2 o' h' tk' a1 a2 a3 F' N' => hQ v t1 t2 o' h' tk' a1 a2 a3 F' (newsSub N' fun q hq => ?_)
  · rcases List.mem_cons.mp hq with rfl | hq
    · exact List.mem_append_right _ (.head _)
    · rcases List.mem_append.mp hq with hq | hq
      · exact List.mem_append_left _ hq
      · exact List.mem_append_right _ (.tail _ hq)
  · rcases List.mem_append.mp hcm with hq | hq
    · exact List.mem_append_left _ hq
    · rcases List.mem_cons.mp hq with e | hq
      · exact absurd (congrArg Prod.fst e) hcd
      · exact List.mem_append_right _ hq
  · rcases List.mem_append.mp hq with hq | hq
    · exact x q hq
    · exact y q hq
  · rw [hg] at hq
    rcases List.mem_append.mp hq with hq | hq
    · exact .tail _ (List.mem_append_left _ hq)
    · rcases List.mem_cons.mp hq with rfl | hq
      · exact .head _
      · exact .tail _ (List.mem_append_right _ hq)
end Mine
namespace Mine
open PySem PySem.W PyProof.Rows PySem.Calls PyProof.V PySem.Spec PySem.NumText

/-- a number without a minus, as str tells it -/
def DigW (n : Int) (x : Str) : Prop := AllDigits x.cps.toList ∧ x.cps.toList ≠ [] ∧ ((digitsVal x.cps.toList : Nat) : Int) = n
/-- the body of a written number: a minus or none, then digits -/
def bodyOf (neg : Bool) (ds : List Nat) : List Nat := if neg then 45 :: ds else ds
def valOf (neg : Bool) (ds : List Nat) : Int := if neg then -((digitsVal ds : Nat) : Int) else ((digitsVal ds : Nat) : Int)
/-- a written number: noughts ahead are free -/
def NumW (n : Int) (cs : List Nat) : Prop := ∃ neg ds, cs = bodyOf neg ds ∧ AllDigits ds ∧ ds ≠ [] ∧ ds.length ≤ 60 ∧ n = valOf neg ds

theorem digW_toString {n : Int} (h0 : 0 ≤ n) : DigW n (Str.ofString (toString n)) := by
  obtain ⟨k, rfl⟩ := Int.eq_ofNat_of_zero_le h0
  refine ⟨?_, ?_, ?_⟩
  · intro c hc
    rw [KIN.signs_num] at hc
    obtain ⟨ch, hch, e⟩ := List.mem_map.mp hc
    have r := digit_range (Nat.isDigit_of_mem_toDigits (by decide) (by decide) hch)
    rw [← e]
    exact r
  · rw [KIN.signs_num]
    exact fun e => Nat.toDigits_ne_nil (List.map_eq_nil_iff.mp e)
  · rw [KIN.signs_num, KIN.val_back]
theorem len_toString {n : Int} (h0 : 0 ≤ n) (h1 : n < 10 ^ 40) : (Str.ofString (toString n)).length ≤ 40 := toString_length_le h0 (by decide) h1

theorem numW_pos {n : Int} {x : Str} (h : DigW n x) (hl : x.length ≤ 40) : NumW n x.cps.toList := by
  obtain ⟨a, b, c⟩ := h
  have e : x.cps.toList.length = x.length := by simp [Str.length]
  exact ⟨false, x.cps.toList, rfl, a, b, by omega, c.symm⟩
theorem numW_neg {n : Int} {x : Str} (h : DigW (0 - n) x) (hl : x.length ≤ 40) : NumW n (45 :: x.cps.toList) := by
  obtain ⟨a, b, c⟩ := h
  refine ⟨true, x.cps.toList, rfl, a, b, ?_, ?_⟩
  · have : x.cps.toList.length = x.length := by simp [Str.length]
    omega
  · show n = -((digitsVal x.cps.toList : Nat) : Int)
    omega
theorem digitsVal_00 (ds : List Nat) : digitsVal (48 :: 48 :: ds) = digitsVal ds := rfl
theorem all_00 {ds : List Nat} (h : AllDigits ds) : AllDigits (48 :: 48 :: ds) := by
  intro c hc
  rcases List.mem_cons.mp hc with rfl | hc
  · omega
  · rcases List.mem_cons.mp hc with rfl | hc
    · omega
    · exact h c hc
theorem numW_pos00 {n : Int} {x : Str} (h : DigW n x) (hl : x.length ≤ 40) : NumW n (48 :: 48 :: x.cps.toList) := by
  obtain ⟨a, b, c⟩ := h
  refine ⟨false, 48 :: 48 :: x.cps.toList, rfl, all_00 a, by simp, ?_, ?_⟩
  · have : x.cps.toList.length = x.length := by simp [Str.length]
    simp only [List.length_cons]
    omega
  · show n = ((digitsVal (48 :: 48 :: x.cps.toList) : Nat) : Int)
    rw [digitsVal_00]
    exact c.symm
theorem numW_neg00 {n : Int} {x : Str} (h : DigW (0 - n) x) (hl : x.length ≤ 40) : NumW n (45 :: 48 :: 48 :: x.cps.toList) := by
  obtain ⟨a, b, c⟩ := h
  refine ⟨true, 48 :: 48 :: x.cps.toList, rfl, all_00 a, by simp, ?_, ?_⟩
  · have : x.cps.toList.length = x.length := by simp [Str.length]
    simp only [List.length_cons]
    omega
  · show n = -((digitsVal (48 :: 48 :: x.cps.toList) : Nat) : Int)
    rw [digitsVal_00]
    omega
theorem cps_app (x y : Str) : (x ++ y).cps.toList = x.cps.toList ++ y.cps.toList := by rw [Str.cps_append]; simp
theorem cps_min : (Str.ofString "-").cps.toList = [45] := by decide +kernel
theorem cps_00 : (Str.ofString "00").cps.toList = [48, 48] := by decide +kernel
theorem cps_nil : (Str.ofString "").cps.toList = [] := by decide +kernel

section
variable {pg : Program} {w : World} {A : Around} {E : Value → Shared → Prop} {zh : Heap} {zg : Array GenState} {zd : Drawn} {zt : Nat} {zo : OsState}
theorem str_I {n : Int} {t : Tok} {Q : Value → Shared → Prop} (h0 : 0 ≤ n) (h1 : n < 10 ^ 40) (h : ∀ x, DigW n x → x.length ≤ 40 → Q (.str x zt) ⟨zh, zg, zd, zt + 1, zo⟩) :
    wpAny (model pg w) A (call (.type "str") [.int n t]) Q E ⟨zh, zg, zd, zt, zo⟩ := by
  refine P.str_of_int ?_ (h _ (digW_toString h0) (len_toString h0 h1))
  obtain ⟨k, rfl⟩ := Int.eq_ofNat_of_zero_le h0
  have hk : k < 2 ^ 1920 := by
    have : k < 10 ^ 40 := by exact_mod_cast h1
    exact Nat.lt_of_lt_of_le this (by decide +kernel)
  rcases Nat.eq_zero_or_pos k with rfl | hp
  · decide
  · exact (Nat.log2_lt (by omega)).mpr hk
end
end Mine
namespace Mine
open PySem PySem.W PyProof.Rows PySem.Calls PyProof.V PySem.Spec

theorem canonF {news : List (Addr × Obj)} {d : Addr} {o : Obj} {g : Obj → List (Addr × Obj)} (U : UpdF d o news g) :
    ∃ rest, (∀ p ∈ (d, o) :: rest, p ∈ news) ∧ (∀ q ∈ rest, q.1 ≠ d) ∧ (∀ o', ∀ p ∈ g o', p ∈ (d, o') :: rest) ∧ (∀ p ∈ news, p.1 ≠ d → p ∈ rest) ∧ ∀ q ∈ rest, q ∈ news := by
  obtain ⟨pre, post, rfl, hg, x, y⟩ := U.split
  refine ⟨pre ++ post, fun q hq => ?_, fun q hq => ?_, fun o' q hq => ?_, fun q hq hne => ?_, fun q hq => ?_⟩
  · rcases List.mem_cons.mp hq with rfl | hq
    · exact List.mem_append_right _ (.head _)
    · rcases List.mem_append.mp hq with hq | hq
      · exact List.mem_append_left _ hq
      · exact List.mem_append_right _ (.tail _ hq)
  · rcases List.mem_append.mp hq with hq | hq
    · exact x q hq
    · exact y q hq
  · rw [hg] at hq
    rcases List.mem_append.mp hq with hq | hq
    · exact .tail _ (List.mem_append_left _ hq)
    · rcases List.mem_cons.mp hq with rfl | hq
      · exact .head _
      · exact .tail _ (List.mem_append_right _ hq)
  · rcases List.mem_append.mp hq with hq | hq
    · exact List.mem_append_left _ hq
    · rcases List.mem_cons.mp hq with rfl | hq
      · exact absurd rfl hne
      · exact List.mem_append_right _ hq
  · rcases List.mem_append.mp hq with hq | hq
    · exact List.mem_append_left _ hq
    · exact List.mem_append_right _ (.tail _ hq)

theorem updOf {d : Addr} {o o' : Obj} : ∀ {pre post : List (Addr × Obj)}, (∀ p ∈ pre, p.1 ≠ d) → (∀ p ∈ post, p.1 ≠ d) → Upd d o o' (pre ++ (d, o) :: post) (pre ++ (d, o') :: post)
  | [], _, _, c => Upd.head c
  | p :: r, post, a, c => Upd.tail (a p (.head _)) (updOf (fun q hq => a q (.tail _ hq)) c)

section
variable {pg : Program} {w : World} {A : Around} {E : Value → Shared → Prop} {zh : Heap} {zg : Array GenState} {zd : Drawn} {zt : Nat} {zo : OsState} {h₀ : Heap} {L D b : Addr} {m : Str → Option Value} {news : List (Addr × Obj)} {vs ws : List Value} {n n2 : Nat} {x : Value} {g : Obj → List (Addr × Obj)}
theorem append_V {Q : Value → Shared → Prop} (F : Fr h₀ L zh m) (N : News h₀ L zh news) (U : UpdF D (listOf vs.toArray n) news g) (hsz : vs.length ≤ 100000)
    (h : ∀ h', Fr h₀ L h' m → News h₀ L h' (g (listOf (vs ++ [x]).toArray (n + 1))) → Q .none ⟨h', zg, zd, zt, zo⟩) : wpAny (model pg w) A (call (.builtin "list.append") [.ref D, x]) Q E ⟨zh, zg, zd, zt, zo⟩ := by
  obtain ⟨pre, post, rfl, hg, a, c⟩ := U.split
  have z := N (D, listOf vs.toArray n) (List.mem_append.mpr (.inr (.head _)))
  have e : (vs ++ [x]).toArray = vs.toArray.push x := by simp
  have hz : vs.toArray.size ≤ sizeLine := by
    have : vs.toArray.size = vs.length := by simp
    rw [sizeLine_eq]
    omega
  refine append_at (hsz := hz) z.1 fun h' hs ho' => h h' (F.change hs z.2.1 z.2.2) ?_
  rw [hg, e]
  exact news_set N a c hs ho'
theorem extend_V {Q : Value → Shared → Prop} (F : Fr h₀ L zh m) (N : News h₀ L zh news) (hb : (b, listOf ws.toArray n2) ∈ news) (hne : ws.length ≠ 0) (U : UpdF D (listOf vs.toArray n) news g) (hsz : vs.length ≤ 100000) (hsz2 : ws.length ≤ 100000)
    (h : ∀ h', Fr h₀ L h' m → News h₀ L h' (g (listOf (vs ++ ws).toArray (n + 1))) → Q .none ⟨h', zg, zd, zt, zo⟩) : wpAny (model pg w) A (call (.builtin "list.extend") [.ref D, .ref b]) Q E ⟨zh, zg, zd, zt, zo⟩ := by
  obtain ⟨pre, post, rfl, hg, a, c⟩ := U.split
  have z := N (D, listOf vs.toArray n) (List.mem_append.mpr (.inr (.head _)))
  have e1 : vs.toArray.size = vs.length := List.size_toArray
  have e2 : ws.toArray.size = ws.length := List.size_toArray
  refine kl_extend (its := vs.toArray) (n := n) (its2 := ws.toArray) (l := vs ++ ws) (news' := pre ++ (D, listOf (vs ++ ws).toArray (n + 1)) :: post) F N hb (by simp) (by simpa using hne) ?_ ?_ ?_ ?_ fun h' F' N' => h h' F' (by rw [hg]; exact N')
  · exact updOf a c
  · rw [e1, e2]
    intro hc
    have h2 := (Bool.and_eq_true_iff.mp hc).2
    unfold Builtin.List.listTooLong at h2
    have h3 := of_decide_eq_true h2
    rw [sizeLine_eq] at h3
    omega
  · rw [sizeLine_eq]
    have : vs.toArray.toList.length = vs.length := by simp
    omega
  · have e3 := sizeLine_eq
    omega
end
end Mine
theorem Mine.rw_P03_number : True := by
  k_with_none
  (k_with "subscriptTail" => (k_here; (fail_if_success fail_if_success with_reducible show wpAny _ _ (subscriptTail _ _ (Value.ref _) (Value.str _ _)) _ _ _); k_dflt (refine' Mine.d_get ?zzN ?zzm ?zzo ?zzf ?_; (case zzN => k_asm); (case zzm => k_mem); (case zzo => with_reducible assumption); (case zzf => exact rfl); k_whole)))
  (k_with "setItem ref str" => (k_here; (fail_if_success fail_if_success with_reducible show wpAny _ _ (setItem (Value.ref _) (Value.str _ _) _) _ _ _); k_dflt (refine' Mine.d_set ?zzF ?zzN ?zzU ?zzo ?_ ?zzz; (case zzF => k_asm); (case zzN => k_asm); (case zzU => k_updF); (case zzo => with_reducible assumption); (case zzz => exact Nat.le_of_ble_eq_true rfl)); intro _ _ _ _ _; (try k_sweep)))
  (k_with "call builtin:len" => (k_here; (fail_if_success fail_if_success with_reducible show wpAny _ _ (call (Value.builtin "len") [Value.ref _]) _ _ _); k_dflt (refine' Mine.len_L ?zzN ?zzm ?zzb ?_; (case zzN => k_asm); (case zzm => k_mem); (case zzb => omega); k_whole)))
  (k_with "subscriptTail" => (k_here; (fail_if_success fail_if_success with_reducible show wpAny _ _ (subscriptTail _ _ (Value.ref _) (Value.int _ _)) _ _ _); k_dflt (refine' Mine.item_L ?zzN ?zzm ?zza ?zzb ?zzc ?_; (case zzN => k_asm); (case zzm => k_mem); (case zza => omega); (case zzb => omega); (case zzc => omega); k_whole); intro _ _))
  (k_with "subscriptTail" => (k_here; (fail_if_success fail_if_success with_reducible show wpAny _ _ (subscriptTail _ _ (Value.ref _) (Value.int _ _)) _ _ _); k_dflt (refine' Mine.item_LI ?zzN ?zzm ?zzi ?zza ?zzb ?zzc ?_; (case zzN => k_asm); (case zzm => k_mem); (case zzi => with_reducible assumption); (case zza => omega); (case zzb => omega); (case zzc => omega); k_whole); intro _ _))
  (k_with "ite" => first | with_reducible refine PyProof.Rows.ite_tt ?_ | with_reducible refine PyProof.Rows.ite_ff ?_)
  (k_with "execs cons" => (k_here; (try k_gentoks); (with_reducible refine wpAny_execs_cons ?_); (try dsimp only); k_fold))
  (k_with "eval Constant int" => (with_reducible refine Mine.constI ?_))
  (k_with "eval Constant str" => (with_reducible refine Mine.constS ?_))
  (k_with "binaryOp Add int int" => (with_reducible refine Mine.addI ?_))
  (k_with "call ref" => (k_here; (fail_if_success fail_if_success with_reducible show wpAny _ _ (call (Value.ref 455) [Value.ref _, Value.int _ _]) _ _ _); k_dflt (refine' Mine.dip_K ?zzB ?zzF ?zzX ?zzT ?zzhk ?zzhd ?zzhu ?zzN ?zzU ?zzfd ?zzc ?zzcd ?zzhI ?zzl ?zzp0 ?zzp1 ?zzm0 ?zzm1 ?_; (case zzB => k_asm); (case zzF => k_asm); (case zzX => k_asm); (case zzT => k_asm); (case zzhk => first | exact rfl | assumption); (case zzN => k_asm); (case zzU => k_updF); (case zzfd => with_reducible assumption); (case zzc => k_mem); (case zzcd => omega); (case zzhI => with_reducible assumption); (case zzhd => ktr_room); (case zzhu => ktr_units); (case zzl => omega); (case zzp0 => omega); (case zzp1 => omega); (case zzm0 => omega); (case zzm1 => omega)); intro _ _ _ _ _ _ _ _ _ _ _; (try dsimp only); (try k_fold); (try k_sweep)))
  (k_with "call type:str" => (k_here; (fail_if_success fail_if_success with_reducible show wpAny _ _ (call (Value.type "str") [Value.int _ _]) _ _ _); (refine Mine.str_I ?zzz0 ?zzz1 ?_; (case zzz0 => omega); (case zzz1 => omega)); intro _ _ _; (try dsimp only)))
  trivial
namespace Mine
open PySem PySem.W PyProof.Rows PySem.Calls PyProof.V PySem.Spec PySem.NumText
abbrev tupO (vs : List Value) : Obj := { cls := .type "tuple", data := .seq vs.toArray }

theorem nw1 {n : Int} {x : Str} (h : DigW (0 - n) x) (hl : x.length ≤ 40) : NumW n (Str.ofString "-" ++ Str.ofString "00" ++ x).cps.toList := by
  rw [cps_app, cps_app, cps_min, cps_00]; exact numW_neg00 h hl
theorem nw2 {n : Int} {x : Str} (h : DigW (0 - n) x) (hl : x.length ≤ 40) : NumW n (Str.ofString "-" ++ Str.ofString "" ++ x).cps.toList := by
  rw [cps_app, cps_app, cps_min, cps_nil]; exact numW_neg h hl
theorem nw3 {n : Int} {x : Str} (h : DigW n x) (hl : x.length ≤ 40) : NumW n (Str.ofString "00" ++ x).cps.toList := by
  rw [cps_app, cps_00]; exact numW_pos00 h hl
theorem nw4 {n : Int} {x : Str} (h : DigW n x) (hl : x.length ≤ 40) : NumW n (Str.ofString "" ++ x).cps.toList := by
  rw [cps_app, cps_nil]; exact numW_pos h hl

set_option maxHeartbeats 4000000 in
theorem number_body {w : World} {mean : ExcName → Option Value} {mg mb : Str → Option Value} {dp un : Nat} {gd : Option (List Code)} {cn : Str} {cs : Scope} {a : Addr} {ccd : Value} {cl : List (Str × Addr)} {outer : List Env} {A₀ : Around} {base h₀ : Heap} {L : Addr} {m : Str → Option Value} {zh : Heap} {zg : Array GenState} {zd : Drawn} {zt : Nat} {zo : OsState} {Q E : Value → Shared → Prop}
    {d c : Addr} {o : Obj} {t tm : Tok} {p n : Int} {vs : List Value} {ns : List Int} {nn : Nat} {rest : List (Addr × Obj)}
    (B : Below A₀ base outer h₀) (F : Fr h₀ L zh m) (X : (Mine.top.heap_1 w.params).In h₀) (T : Top Mine.V loose mean mg mb h₀) (hk : cs.kind = .function) (hdp : dp + 5 < recursionLimit) (hun : un + 50 < cLine)
    (N : News h₀ L zh ((d, o) :: rest)) (hfd : FeedIs w o c p t) (hcm : (c, listOf vs.toArray nn) ∈ rest) (hoff : ∀ q ∈ rest, q.1 ≠ d) (hcd : @Ne Nat c d)
    (hI : IntsAre vs ns) 
    (hlen : vs.length ≤ 1000) (hp0 : 0 ≤ p) (hp1 : p < 1000) (hn0 : -10 ^ 32 < n) (hn1 : n < 10 ^ 32)
    (hQ : ∀ r x t1 t2 t3 o' h' tk', NumW n x.cps.toList → FeedIs w o' c (p + 1) t3 → Fr h₀ L h' m → News h₀ L h' ((r, tupO [.int n t1, .str x t2]) :: (d, o') :: rest) →
      d < r → (∀ q ∈ rest, q.1 < r) → Q (.ref r) ⟨h', zg, zd, tk', zo⟩) :
    wpAny (model prog w) (ktrTop dp un gd cn cs L a ccd cl outer) (call (.ref 462) [.ref d, .int n tm]) Q E ⟨zh, zg, zd, zt, zo⟩ := by
  refine wpAny_call ?_
  k_dflt (refine' code_def (binds := [(Str.ofString "feed", .ref d), (Str.ofString "n", .int n tm)]) ?k1 ?k2 ?k3 ?k4 ?k5 ?kA ?kF ?kK ?k6 ?k7 ?k8 ?k9 ?kB ?_ ?c2 ?c3 ?c4 ?c5; (case kA => exact rfl); (case kF => exact rfl); (case kK => assumption); (case k1 => k_asm); (case k2 => k_asm); (case k3 => k_asm); (case k4 => k_asm); (case k5 => k_asm); (case k6 => k_is); (case k7 => k_is); (case k8 => ktr_room); (case k9 => exact BindsTo.of_eq rfl); (case c5 => decide); (case kB => exact locs rfl); (case c2 => exact rfl); (case c3 => exact rfl); (case c4 => exact rfl); k_whole; intro g' L' h' FG' F' N' B' X' T'; (try dsimp only); (try k_fold); (show let Ab : PySem.Around := ktrTop dp un gd cn cs L a ccd cl outer; let ev : PySem.Env := _; let Ac : PySem.Around := PySem.Around.deeper Ab ev; wpAny _ Ac (PySem.execs _ ev) _ _ _); intro Ab ev Ac; (replace hdp : PySem.Around.depth Ab + _ < _ := hdp); (replace hun : PySem.Around.units Ab + _ < _ := hun))
  k_steps
  all_goals (rename d < _ ∧ AllLt _ _ => hl; refine hQ _ _ _ _ _ _ _ _ ?_ (by assumption) (by k_asm) (by assumption) hl.1 (allLt_mem hl.2))
  all_goals first | exact nw1 (by assumption) (by assumption) | exact nw2 (by assumption) (by assumption) | exact nw3 (by assumption) (by assumption) | exact nw4 (by assumption) (by assumption)

theorem number_K {w : World} {mean : ExcName → Option Value} {mg mb : Str → Option Value} {dp un : Nat} {gd : Option (List Code)} {cn : Str} {cs : Scope} {a : Addr} {ccd : Value} {cl : List (Str × Addr)} {outer : List Env} {A₀ : Around} {base h₀ : Heap} {L : Addr} {m : Str → Option Value} {zh : Heap} {zg : Array GenState} {zd : Drawn} {zt : Nat} {zo : OsState} {Q E : Value → Shared → Prop} {news : List (Addr × Obj)}
    {d c : Addr} {o : Obj} {t tm : Tok} {p n : Int} {vs : List Value} {ns : List Int} {nn : Nat} {g : Obj → List (Addr × Obj)}
    (B : Below A₀ base outer h₀) (F : Fr h₀ L zh m) (X : (Mine.top.heap_1 w.params).In h₀) (T : Top Mine.V loose mean mg mb h₀) (hk : cs.kind = .function) (hdp : dp + 5 < recursionLimit) (hun : un + 50 < cLine)
    (N : News h₀ L zh news) (U : UpdF d o news g) (hfd : FeedIs w o c p t) (hcm : (c, listOf vs.toArray nn) ∈ news) (hcd : @Ne Nat c d)
    (hI : IntsAre vs ns) 
    (hlen : vs.length ≤ 1000) (hp0 : 0 ≤ p) (hp1 : p < 1000) (hn0 : -10 ^ 32 < n) (hn1 : n < 10 ^ 32)
    (hQ : ∀ r x t1 t2 t3 o' h' tk', NumW n x.cps.toList → FeedIs w o' c (p + 1) t3 → Fr h₀ L h' m → News h₀ L h' ((r, tupO [.int n t1, .str x t2]) :: g o') →
      (∀ q ∈ news, q.1 < r) → Q (.ref r) ⟨h', zg, zd, tk', zo⟩) :
    wpAny (model prog w) (ktrTop dp un gd cn cs L a ccd cl outer) (call (.ref 462) [.ref d, .int n tm]) Q E ⟨zh, zg, zd, zt, zo⟩ := by
  obtain ⟨rest, r1, r2, r3, r4, r5⟩ := canonF U
  refine number_body (c := c) (vs := vs) (nn := nn) (rest := rest) B F X T hk hdp hun (newsSub N r1) hfd (r4 _ hcm hcd) r2 hcd hI hlen hp0 hp1 hn0 hn1 fun r x t1 t2 t3 o' h' tk' a1 a2 F' N' a3 a4 => hQ r x t1 t2 t3 o' h' tk' a1 a2 F' (newsSub N' fun q hq => ?_) fun q hq => ?_
  · rcases List.mem_cons.mp hq with rfl | hq
    · exact .head _
    · exact .tail _ (r3 _ _ hq)
  · by_cases e : q.1 = d
    · rw [e]; exact a3
    · exact a4 q (r4 q hq e)
end Mine
namespace Mine
open PySem PySem.W PyProof.Rows PySem.Calls PyProof.V PySem.Spec
section
variable {pg : Program} {w : World} {A : Around} {E : Value → Shared → Prop} {zh : Heap} {zg : Array GenState} {zd : Drawn} {zt : Nat} {zo : OsState} {env : Env} {h₀ : Heap} {x : Str} {body : List Stmt} {Q : Flow → Shared → Prop}
/-- a for over range(n) by any word over the turn, the frame, the ledger -/
theorem range_J {r : Addr} {b₀ : Int} {t₀ u₀ v₀ : Tok} {n : Nat} {m₀ : Str → Option Value} {news : List (Addr × Obj)} (J : Nat → (Str → Option Value) → List (Addr × Obj) → Prop)
    (hh : A.handled = none) (hr : IsRange zh r 0 b₀ 1 t₀ u₀ v₀) (hb : b₀ = (n : Int)) (hn : n < 100000) (F : Fr h₀ env.locals zh m₀) (N : News h₀ env.locals zh news) (hj : J 0 m₀ news)
    (turn : ∀ i t m₁ nx h tk own, i < n → OwnOff own (nx.map (·.1)) → J i m₁ nx → Fr h₀ env.locals h (fun y => if y = x then some (.int (i : Int) t) else m₁ y) → News h₀ env.locals h (nx ++ own) →
      wpAny (model pg w) A (execs body env) (InvPostG h₀ env.locals (J (i + 1)) own ⟨h, zg, zd, tk, zo⟩ Q) E ⟨h, zg, zd, tk, zo⟩)
    (done : ∀ m₁ nx h tk, J n m₁ nx → Fr h₀ env.locals h m₁ → News h₀ env.locals h nx → Q .next ⟨h, zg, zd, tk, zo⟩) :
    wpAny (model pg w) A (pyIter (.ref r)) (fun it s₂ => LoopAtV pg w A h₀ env x body Q E it s₂) E ⟨zh, zg, zd, zt, zo⟩ := by
  subst hb
  have hsz : Builtin.Range.rangeSize 0 (n : Int) 1 = (n : Int) := by
    unfold Builtin.Range.rangeSize
    rw [if_pos (by decide)]
    by_cases h : (0 : Int) < (n : Int)
    · rw [if_pos h]; omega
    · rw [if_neg h]; omega
  have hf : ∀ k : Int, -5 ≤ k → k ≤ 200000 → Builtin.Range.rangeFitsLong k = true := by
    intro k h1 h2
    unfold Builtin.Range.rangeFitsLong
    simp
    omega
  have hsmall : Builtin.Range.small 0 (n : Int) 1 = true := by
    unfold Builtin.Range.small
    rw [hsz, hf 0 (by omega) (by omega), hf n (by omega) (by omega), hf 1 (by omega) (by omega), if_pos (by decide), hf _ (by omega) (by omega)]
    simp
  refine wpAny_pyIter_range hr hsmall ?_
  have W : Walks pg w A zh.objs.size [zh.objs.size] [zh.objs.size] n (fun i v => i < n ∧ ∃ t, v = .int ((0 : Int) + i * 1) t)
      (fun i h => IsRangeIter h zh.objs.size ((0 : Int) + (i : Nat) * 1) ((n : Int) - (i : Nat)) 1) := (Walks.range hh _ 0 1 n).bound
  refine kdr_loop J W (fun _ h => h) (fun _ h => h) ?_ ?_ ?_ ?_ (by show IsRangeIter _ _ _ _ _; rw [hsz]; simpa using Heap.get?_push_size _ rfl) (F.push _) (fun p hp => ⟨Heap.get?_push_of_some _ (N p hp).1, (N p hp).2⟩) hj ?_ ?_
  · intro i h hi b hb
    rw [List.mem_singleton.mp hb]
    exact ⟨_, hi⟩
  · intro hm
    exact absurd F.ns.lt ((List.mem_singleton.mp hm) ▸ Nat.lt_irrefl _)
  · intro b hb
    rw [List.mem_singleton.mp hb]
    exact next_is_new F
  · intro p hp hI
    exact absurd (Heap.lt_size (N p hp).1) ((List.mem_singleton.mp hI) ▸ Nat.lt_irrefl _)
  · rintro i v m₁ nx h tk own hi ⟨_, t, rfl⟩ hoff hJ F₁ N₁
    have e1 : (0 : Int) + (i : Int) * 1 = (i : Int) := by omega
    rw [e1] at F₁
    exact turn i t m₁ nx h tk own hi hoff hJ F₁ N₁
  · intro m₁ nx h tk hJ F₁ N₁
    exact done m₁ nx h tk hJ F₁ N₁
theorem range_Z {r : Addr} {b₀ : Int} {t₀ u₀ v₀ : Tok} {m₀ : Str → Option Value} {news : List (Addr × Obj)} (J : Nat → (Str → Option Value) → List (Addr × Obj) → Prop)
    (hh : A.handled = none) (hr : IsRange zh r 0 b₀ 1 t₀ u₀ v₀) (hb : 0 ≤ b₀) (hn : b₀ < 100000) (F : Fr h₀ env.locals zh m₀) (N : News h₀ env.locals zh news) (hj : J 0 m₀ news)
    (turn : ∀ i t m₁ nx h tk own, i < b₀.toNat → OwnOff own (nx.map (·.1)) → J i m₁ nx → Fr h₀ env.locals h (fun y => if y = x then some (.int (i : Int) t) else m₁ y) → News h₀ env.locals h (nx ++ own) →
      wpAny (model pg w) A (execs body env) (InvPostG h₀ env.locals (J (i + 1)) own ⟨h, zg, zd, tk, zo⟩ Q) E ⟨h, zg, zd, tk, zo⟩)
    (done : ∀ m₁ nx h tk, J b₀.toNat m₁ nx → Fr h₀ env.locals h m₁ → News h₀ env.locals h nx → Q .next ⟨h, zg, zd, tk, zo⟩) :
    wpAny (model pg w) A (pyIter (.ref r)) (fun it s₂ => LoopAtV pg w A h₀ env x body Q E it s₂) E ⟨zh, zg, zd, zt, zo⟩ := range_J J hh hr (by omega) (by omega) F N hj turn done
end
end Mine
namespace Mine
open PySem PySem.W PyProof.Rows PySem.Calls PyProof.V PySem.Spec
/-- a goal that the walk leaves standing -/
structure Stop (P : Prop) : Prop where
  out : P
theorem stop_intro {P : Prop} (h : Stop P) : P := h.out
theorem stop_of {P : Prop} (h : P) : Stop P := ⟨h⟩

/-- what stays behind a part of the walk whose ways meet: the frame's names, the ledger; P of what it gives -/
structure KeepV {α : Type} (P : α → Prop) (g : Heap) (L : Addr) (m : Str → Option Value) (l : List (Addr × Obj)) (s0 : Shared) (a : α) (s' : Shared) : Prop where
  out : ∃ (h' : Heap) (tk' : Nat), s' = { s0 with heap := h', toks := tk' } ∧ P a ∧ Fr g L h' m ∧ News g L h' l
section
variable {M : Model} {A : Around} {E : Value → Shared → Prop} {zh : Heap} {zg : Array GenState} {zd : Drawn} {zt : Nat} {zo : OsState} {s0 : Shared} {g hz h' : Heap} {L : Addr} {m mz : Str → Option Value} {l l' lz : List (Addr × Obj)} {tk : Nat}
theorem keep_join {α : Type} {t : Sem α} {Q : α → Shared → Prop} (P : α → Prop) (F : Fr g L hz mz) (N : News g L hz lz) (h : wpAny M A t (KeepV P g L mz lz s0) E ⟨zh, zg, zd, zt, zo⟩)
    (k : ∀ a h' tk', P a → Fr g L h' mz → News g L h' lz → Q a { s0 with heap := h', toks := tk' }) : wpAny M A t Q E ⟨zh, zg, zd, zt, zo⟩ :=
  wpAny_mono h (fun a s' hJ => by
    obtain ⟨h', tk', rfl, p, F', N'⟩ := hJ.out
    exact k a h' tk' p F' N') fun _ _ z => z
theorem keep_end {α : Type} {P : α → Prop} {a : α} (F : Fr g L h' m) (N : News g L h' l') (hs : ∀ q ∈ l, q ∈ l') (p : P a) : KeepV P g L m l s0 a { s0 with heap := h', toks := tk } :=
  ⟨h', tk, rfl, p, F, fun q hq => N q (hs q hq)⟩
/-- the ways of a statement meet where it goes on -/
theorem joinN {t : Sem Flow} {Q : Flow → Shared → Prop} (J : Shared → Prop) (h : wpAny M A t (fun fl s' => match fl with | .next => J s' | f => Q f s') E ⟨zh, zg, zd, zt, zo⟩) (k : ∀ s', J s' → Q .next s') : wpAny M A t Q E ⟨zh, zg, zd, zt, zo⟩ :=
  wpAny_mono h (fun fl s' hJ => by cases fl <;> first | exact k s' hJ | exact hJ) fun _ _ z => z
end
theorem fr_put {h₀ h : Heap} {L : Addr} {m : Str → Option Value} (F : Fr h₀ L h m) (x : Str) {v : Value} (e : m x = some v) : Fr h₀ L h (fun y => if y = x then some v else m y) := by
  have : (fun y => if y = x then some v else m y) = m := by
    funext y
    by_cases hy : y = x
    · rw [if_pos hy, hy, e]
    · rw [if_neg hy]
  rw [this]
  exact F

def keepOff (M : List Addr) (own l : List (Addr × Obj)) : List (Addr × Obj) := l.filter fun q => !M.contains q.1 && !(own.map (·.1)).contains q.1
theorem keepOff_mem {M : List Addr} {own l : List (Addr × Obj)} {q : Addr × Obj} (h : q ∈ l) (h1 : q.1 ∉ M) (h2 : ∀ p ∈ own, p.1 ≠ q.1) : q ∈ keepOff M own l := by
  refine List.mem_filter.mpr ⟨h, ?_⟩
  have a : M.contains q.1 = false := by
    cases e : M.contains q.1 with
    | false => rfl
    | true => exact absurd (List.contains_iff_mem.mp e) h1
  have b : (own.map (·.1)).contains q.1 = false := by
    cases e : (own.map (·.1)).contains q.1 with
    | false => rfl
    | true =>
      obtain ⟨p, hp, he⟩ := List.mem_map.mp (List.contains_iff_mem.mp e)
      exact absurd he (h2 p hp)
  rw [a, b]
  rfl
theorem keepOff_sub {M : List Addr} {own l : List (Addr × Obj)} {q : Addr × Obj} (h : q ∈ keepOff M own l) : q ∈ l := (List.mem_filter.mp h).1
theorem keepOff_off {M : List Addr} {own l : List (Addr × Obj)} {q : Addr × Obj} (h : q ∈ keepOff M own l) : q.1 ∉ M := by
  have := (List.mem_filter.mp h).2
  intro hm
  rw [List.contains_iff_mem.mpr hm] at this
  exact absurd this (by simp)
theorem keepOff_own {M : List Addr} {own l : List (Addr × Obj)} {q : Addr × Obj} (h : q ∈ keepOff M own l) : ∀ p ∈ own, p.1 ≠ q.1 := by
  have := (List.mem_filter.mp h).2
  intro p hp he
  rw [show (own.map (·.1)).contains q.1 = true from List.contains_iff_mem.mpr (List.mem_map.mpr ⟨p, hp, he⟩)] at this
  simp at this

inductive IntsIn (lo hi : Int) : List Value → Prop
  | nil : IntsIn lo hi []
  | cons {n : Int} {t : Tok} {vs : List Value} : lo ≤ n → n ≤ hi → IntsIn lo hi vs → IntsIn lo hi (.int n t :: vs)
theorem IntsIn.get {lo hi : Int} {vs : List Value} (h : IntsIn lo hi vs) : ∀ {k : Nat} {v : Value}, vs[k]? = some v → ∃ n t, v = .int n t ∧ lo ≤ n ∧ n ≤ hi := by
  induction h with
  | nil => intro k v e; cases e
  | cons a b _ ih =>
    intro k v e
    cases k with
    | zero => cases e; exact ⟨_, _, rfl, a, b⟩
    | succ k => exact ih e

section
variable {pg : Program} {w : World} {A : Around} {E : Value → Shared → Prop} {zh : Heap} {zg : Array GenState} {zd : Drawn} {zt : Nat} {zo : OsState} {h₀ : Heap} {L : Addr} {m : Str → Option Value} {news : List (Addr × Obj)}
theorem pick_T {value slice : PySem.Expr} {a : Addr} {l : List Value} {nn : Nat} {k : Int} {u : Tok} {Q : Value → Shared → Prop} (lo hi : Int) (N : News h₀ L zh news) (hm : (a, ({ cls := .type "tuple", data := .seq l.toArray nn } : Obj)) ∈ news)
    (hi' : IntsIn lo hi l) (h0 : 0 ≤ k) (h1 : k < l.length) (hb : l.length < 100) (h : ∀ n t, lo ≤ n → n ≤ hi → Q (.int n t) ⟨zh, zg, zd, zt, zo⟩)
    (hs : subscripted slice false (.ref a) (.int k u) = operate [.ref a, .int k u] (getItem (.ref a) (.int k u)) := by with_unfolding_all rfl) :
    wpAny (model pg w) A (subscriptTail value slice (.ref a) (.int k u)) Q E ⟨zh, zg, zd, zt, zo⟩ := by
  have hk : k.toNat < l.length := by omega
  obtain ⟨n, t, e, a1, a2⟩ := hi'.get (List.getElem?_eq_getElem hk)
  refine item_tupleT (j := k.toNat) (x := l[k.toNat]) ⟨_, (N _ hm).1, rfl, _, rfl⟩ (by omega) (by omega) ?_ (List.getElem?_eq_getElem hk) (e ▸ h n t a1 a2) hs
  unfold seqIndex?
  have e1 : ¬ (k < 0) := by omega
  simp [e1]
  omega
theorem range_1 {Q : Value → Shared → Prop} {n : Int} {t : Tok} (F : Fr h₀ L zh m) (N : News h₀ L zh news)
    (h : ∀ h' tk t₁ u₁ v₁, IsRange h' zh.objs.size 0 n 1 t₁ u₁ v₁ → Fr h₀ L h' m → News h₀ L h' news → Q (.ref zh.objs.size) ⟨h', zg, zd, tk, zo⟩) :
    wpAny (model pg w) A (call (.type "range") [.int n t]) Q E ⟨zh, zg, zd, zt, zo⟩ := range1_rows F N fun h' tk t₁ u₁ v₁ a b c _ => h h' tk t₁ u₁ v₁ a b c
end
end Mine
theorem Mine.rw_P04_domain : True := by
  k_with_none
  (k_with "subscriptTail" => (k_here; (fail_if_success fail_if_success with_reducible show wpAny _ _ (subscriptTail _ _ (Value.ref _) (Value.str _ _)) _ _ _); k_dflt (refine' Mine.d_get ?zzN ?zzm ?zzo ?zzf ?_; (case zzN => k_asm); (case zzm => k_mem); (case zzo => with_reducible assumption); (case zzf => exact rfl); k_whole)))
  (k_with "setItem ref str" => (k_here; (fail_if_success fail_if_success with_reducible show wpAny _ _ (setItem (Value.ref _) (Value.str _ _) _) _ _ _); k_dflt (refine' Mine.d_set ?zzF ?zzN ?zzU ?zzo ?_ ?zzz; (case zzF => k_asm); (case zzN => k_asm); (case zzU => k_updF); (case zzo => with_reducible assumption); (case zzz => exact Nat.le_of_ble_eq_true rfl)); intro _ _ _ _ _; (try k_sweep)))
  (k_with "call builtin:len" => (k_here; (fail_if_success fail_if_success with_reducible show wpAny _ _ (call (Value.builtin "len") [Value.ref _]) _ _ _); k_dflt (refine' Mine.len_L ?zzN ?zzm ?zzb ?_; (case zzN => k_asm); (case zzm => k_mem); (case zzb => omega); k_whole)))
  (k_with "subscriptTail" => (k_here; (fail_if_success fail_if_success with_reducible show wpAny _ _ (subscriptTail _ _ (Value.ref _) (Value.int _ _)) _ _ _); k_dflt (refine' Mine.item_L ?zzN ?zzm ?zza ?zzb ?zzc ?_; (case zzN => k_asm); (case zzm => k_mem); (case zza => omega); (case zzb => omega); (case zzc => omega); k_whole); intro _ _))
  (k_with "subscriptTail" => (k_here; (fail_if_success fail_if_success with_reducible show wpAny _ _ (subscriptTail _ _ (Value.ref _) (Value.int _ _)) _ _ _); k_dflt (refine' Mine.item_LI ?zzN ?zzm ?zzi ?zza ?zzb ?zzc ?_; (case zzN => k_asm); (case zzm => k_mem); (case zzi => with_reducible assumption); (case zza => omega); (case zzb => omega); (case zzc => omega); k_whole); intro _ _))
  (k_with "ite" => first | with_reducible refine PyProof.Rows.ite_tt ?_ | with_reducible refine PyProof.Rows.ite_ff ?_)
  (k_with "execs cons" => (k_here; (try k_gentoks); (with_reducible refine wpAny_execs_cons ?_); (try dsimp only); k_fold))
  (k_with "eval Constant int" => (with_reducible refine Mine.constI ?_))
  (k_with "eval Constant str" => (with_reducible refine Mine.constS ?_))
  (k_with "binaryOp Add int int" => (with_reducible refine Mine.addI ?_))
  (k_with "call ref" => (k_here; (fail_if_success fail_if_success with_reducible show wpAny _ _ (call (Value.ref 455) [Value.ref _, Value.int _ _]) _ _ _); k_dflt (refine' Mine.dip_K ?zzB ?zzF ?zzX ?zzT ?zzhk ?zzhd ?zzhu ?zzN ?zzU ?zzfd ?zzc ?zzcd ?zzhI ?zzl ?zzp0 ?zzp1 ?zzm0 ?zzm1 ?_; (case zzB => k_asm); (case zzF => k_asm); (case zzX => k_asm); (case zzT => k_asm); (case zzhk => first | exact rfl | assumption); (case zzN => k_asm); (case zzU => k_updF); (case zzfd => with_reducible assumption); (case zzc => k_mem); (case zzcd => omega); (case zzhI => with_reducible assumption); (case zzhd => ktr_room); (case zzhu => ktr_units); (case zzl => omega); (case zzp0 => omega); (case zzp1 => omega); (case zzm0 => omega); (case zzm1 => omega)); intro _ _ _ _ _ _ _ _ _ _ _; (try dsimp only); (try k_fold); (try k_sweep)))
  (k_with "call type:str" => (k_here; (fail_if_success fail_if_success with_reducible show wpAny _ _ (call (Value.type "str") [Value.int _ _]) _ _ _); (refine Mine.str_I ?zzz0 ?zzz1 ?_; (case zzz0 => omega); (case zzz1 => omega)); intro _ _ _; (try dsimp only)))
  (k_with "call ref" => (k_here; (fail_if_success fail_if_success with_reducible show wpAny _ _ (call (Value.ref 462) [Value.ref _, Value.int _ _]) _ _ _); k_dflt (refine' Mine.number_K ?zzB ?zzF ?zzX ?zzT ?zzhk ?zzhd ?zzhu ?zzN ?zzU ?zzfd ?zzc ?zzcd ?zzhI ?zzl ?zzp0 ?zzp1 ?zzm0 ?zzm1 ?_; (case zzB => k_asm); (case zzF => k_asm); (case zzX => k_asm); (case zzT => k_asm); (case zzhk => first | exact rfl | assumption); (case zzN => k_asm); (case zzU => k_updF); (case zzfd => with_reducible assumption); (case zzc => k_mem); (case zzcd => omega); (case zzhI => with_reducible assumption); (case zzhd => ktr_room); (case zzhu => ktr_units); (case zzl => omega); (case zzp0 => omega); (case zzp1 => omega); (case zzm0 => omega); (case zzm1 => omega)); intro _ _ _ _ _ _ _ _ _ _ _ _ hlt9; k_lt hlt9; (try dsimp only); (try k_fold); (try k_sweep)))
  (k_with "call builtin:list.append" => (k_here; (fail_if_success fail_if_success with_reducible show wpAny _ _ (call (Value.builtin _) [Value.ref _, _]) _ _ _); k_dflt (refine' Mine.append_V ?zzF ?zzN ?zzU ?zzz ?_; (case zzF => k_asm); (case zzN => k_asm); (case zzU => k_updF); (case zzz => first | omega | (simp only [List.length_append, List.length_cons, List.length_nil]; omega))); intro _ _ N'; (try dsimp only at N'); (try k_sweep)))
  (k_with "call builtin:list.extend" => (k_here; (fail_if_success fail_if_success with_reducible show wpAny _ _ (call (Value.builtin _) [Value.ref _, Value.ref _]) _ _ _); k_dflt (refine' Mine.extend_V ?zzF ?zzN ?zzb ?zze ?zzU ?zzz ?zzy ?_; (case zzF => k_asm); (case zzN => k_asm); (case zzb => k_mem); (case zzU => k_updF); (case zze => exact Nat.succ_ne_zero _); (case zzz => first | omega | (simp only [List.length_append, List.length_cons, List.length_nil]; omega)); (case zzy => exact Nat.le_of_ble_eq_true rfl)); intro _ _ N'; (try dsimp only at N'); (try k_sweep)))
  (k_with "pyIter ref" => (refine Mine.stop_intro ?_))
  (k_with "exec For Name Call cons nil" => (k_here; (rename Fr _ _ _ _ => lF'); (with_unfolding_all refine' For_invVF lF' ?zzk1 ?zzk2 ?_; (case zzk1 => exact rfl); (case zzk2 => exact rfl); k_whole)))
  (k_with "call type:range" => (k_here; (fail_if_success fail_if_success with_reducible show wpAny _ _ (call _ [Value.int _ _]) _ _ _); k_dflt (refine' Mine.range_1 ?zzF ?zzN ?_; (case zzF => k_asm); (case zzN => k_asm)); intro _ _ _ _ _ _ _ _; (try k_sweep)))
  (k_with "subscriptTail" => (k_here; (fail_if_success fail_if_success with_reducible show wpAny _ _ (subscriptTail _ _ (Value.ref _) (Value.int _ _)) _ _ _); k_dflt (first | (refine' Mine.pick_T (-3) 9 ?zzN ?zzm ?zzi ?zza ?zzb ?zzc ?_; (case zzN => k_asm); (case zzm => k_mem); (case zzi => repeat' (first | exact Mine.IntsIn.nil | (refine Mine.IntsIn.cons (by decide) (by decide) ?_))); (case zza => assumption); (case zzb => assumption); (case zzc => exact Nat.le_of_ble_eq_true rfl); k_whole) | (refine' Mine.pick_T (-3) (10 ^ 30) ?zzN ?zzm ?zzi ?zza ?zzb ?zzc ?_; (case zzN => k_asm); (case zzm => k_mem); (case zzi => repeat' (first | exact Mine.IntsIn.nil | (refine Mine.IntsIn.cons (by decide) (by decide) ?_))); (case zza => assumption); (case zzb => assumption); (case zzc => exact Nat.le_of_ble_eq_true rfl); k_whole)); intro _ _ _ _))
  (k_with "eval IfExp" => (refine Mine.stop_intro ?_))
  (k_with "exec If" => (refine Mine.stop_intro ?_))
  trivial
namespace Mine
open PySem PySem.W PyProof.Rows PySem.Calls PyProof.V PySem.Spec PySem.NumText

def signsW : List Str := [Str.ofString "..", Str.ofString "{", Str.ofString "}", Str.ofString ",", Str.ofString "x", Str.ofString ":"]
def RowOk (wv : Value) (x : Str) : Prop := (wv = .none ∧ x ∈ signsW) ∨ ∃ n t, wv = .int n t ∧ NumW n x.cps.toList ∧ -10 ^ 33 < n ∧ n < 10 ^ 33
def RowV (news : List (Addr × Obj)) (v : Value) : Prop := ∃ a wv x t, v = .ref a ∧ (a, tupO [wv, .str x t]) ∈ news ∧ RowOk wv x
def RowsIn (news : List (Addr × Obj)) (vs : List Value) : Prop := ∀ v ∈ vs, RowV news v
theorem RowV.mono {l l' : List (Addr × Obj)} {v : Value} (h : RowV l v) (hs : ∀ q ∈ l, q ∈ l') : RowV l' v := by
  obtain ⟨a, wv, x, t, e, hm, ok⟩ := h
  exact ⟨a, wv, x, t, e, hs _ hm, ok⟩
theorem RowsIn.mono {l l' : List (Addr × Obj)} {vs : List Value} (h : RowsIn l vs) (hs : ∀ q ∈ l, q ∈ l') : RowsIn l' vs := fun v hv => (h v hv).mono hs
theorem RowsIn.nil {l : List (Addr × Obj)} : RowsIn l [] := fun _ h => absurd h List.not_mem_nil
theorem RowsIn.cons {l : List (Addr × Obj)} {v : Value} {vs : List Value} (h : RowV l v) (k : RowsIn l vs) : RowsIn l (v :: vs) := List.forall_mem_cons.mpr ⟨h, k⟩
theorem RowsIn.app {l : List (Addr × Obj)} {vs ws : List Value} (h : RowsIn l vs) (k : RowsIn l ws) : RowsIn l (vs ++ ws) := fun v hv => (List.mem_append.mp hv).elim (h v) (k v)
theorem RowV.sign {l own : List (Addr × Obj)} {M : List Addr} {a : Addr} {x : Str} {t : Tok} {nn : Nat} (h : (a, ({ cls := .type "tuple", data := .seq #[.none, .str x t] nn } : Obj)) ∈ l) (h0 : nn = 0) (h1 : a ∉ M) (h2 : ∀ p ∈ own, p.1 ≠ a) (hx : x ∈ signsW) : RowV (keepOff M own l) (.ref a) := by
  subst h0
  exact ⟨a, .none, x, t, rfl, keepOff_mem h h1 h2, .inl ⟨rfl, hx⟩⟩
theorem RowV.num {l own : List (Addr × Obj)} {M : List Addr} {a : Addr} {n : Int} {x : Str} {t u : Tok} (h : (a, tupO [.int n u, .str x t]) ∈ l) (h1 : a ∉ M) (h2 : ∀ p ∈ own, p.1 ≠ a) (hx : NumW n x.cps.toList) (b1 : -10 ^ 33 < n) (b2 : n < 10 ^ 33) : RowV (keepOff M own l) (.ref a) :=
  ⟨a, _, x, t, rfl, keepOff_mem h h1 h2, .inr ⟨n, u, rfl, hx, b1, b2⟩⟩
theorem off_of {own T : List (Addr × Obj)} {r : Addr} (hl : AllLt r T) (hs : ∀ q ∈ own, q ∈ T) : ∀ p ∈ own, p.1 ≠ r := fun p hp => Nat.ne_of_lt (allLt_mem hl p (hs p hp))
theorem off2 {a d rl : Addr} (h1 : @Ne Nat a d) (h2 : @Ne Nat a rl) : a ∉ [d, rl] := by
  intro h
  rcases List.mem_cons.mp h with e | h
  · exact h1 e
  · rcases List.mem_cons.mp h with e | h
    · exact h2 e
    · cases h

/-- what a turn of the domain's loop leaves -/
structure DomJ (w : World) (d c rl : Addr) (rest : List (Addr × Obj)) (len0 : Nat) (p0 : Int) (i : Nat) (m : Str → Option Value) (nx : List (Addr × Obj)) : Prop where
  out : ∃ (o' : Obj) (p' : Int) (t' : Tok) (vs' : List Value) (nn' : Nat) (tl : List (Addr × Obj)) (low way : Int) (tlow tway : Tok), nx = (d, o') :: (rl, listOf vs'.toArray nn') :: tl ∧ FeedIs w o' c p' t' ∧ p0 ≤ p' ∧ p' ≤ p0 + 4 * (i : Int) ∧ vs'.length ≤ len0 + 4 * i ∧ len0 + 3 * i ≤ vs'.length ∧
    (∀ q ∈ rest, q ∈ tl) ∧ (∀ q ∈ tl, q.1 ≠ d) ∧ (∀ q ∈ tl, q.1 ≠ rl) ∧ RowsIn tl vs' ∧ -10 - 10 * (i : Int) ≤ low ∧ low ≤ 10 ^ 30 + 20 * (i : Int) ∧
    m (Str.ofString "feed") = some (.ref d) ∧ m (Str.ofString "rows") = some (.ref rl) ∧ m (Str.ofString "low") = some (.int low tlow) ∧ m (Str.ofString "way") = some (.int way tway)

theorem keep_rest {d rl : Addr} {rest l : List (Addr × Obj)} (hs : ∀ q ∈ rest, q ∈ l) (hoff : ∀ q ∈ rest, q.1 ≠ d) (hoff2 : ∀ q ∈ rest, q.1 ≠ rl) {own : List (Addr × Obj)} (ho : ∀ q ∈ rest, ∀ p ∈ own, p.1 ≠ q.1) : ∀ q ∈ rest, q ∈ keepOff [d, rl] own l :=
  fun q hq => keepOff_mem (hs q hq) (off2 (hoff q hq) (hoff2 q hq)) (ho q hq)
theorem keep_restN {g h : Heap} {L d rl : Addr} {rest l : List (Addr × Obj)} (N : News g L h l) (hs : ∀ q ∈ rest, q ∈ l) (hoff : ∀ q ∈ rest, q.1 ≠ d) (hoff2 : ∀ q ∈ rest, q.1 ≠ rl) {own : List (Addr × Obj)} (ho : ∀ q ∈ rest, ∀ p ∈ own, p.1 ≠ q.1) : ∀ q ∈ rest, q ∈ keepOff [d, rl] own l := keep_rest hs hoff hoff2 ho
theorem keep_d {d rl : Addr} {own l : List (Addr × Obj)} : ∀ q ∈ keepOff [d, rl] own l, q.1 ≠ d := fun q hq e => keepOff_off hq (e ▸ .head _)
theorem keep_rl {d rl : Addr} {own l : List (Addr × Obj)} : ∀ q ∈ keepOff [d, rl] own l, q.1 ≠ rl := fun q hq e => keepOff_off hq (e ▸ .tail _ (.head _))
theorem keep_own {d rl : Addr} {o1 o2 : Obj} {own l : List (Addr × Obj)} (h1 : ∀ p ∈ own, p.1 ≠ d) (h2 : ∀ p ∈ own, p.1 ≠ rl) : OwnOff own (((d, o1) :: (rl, o2) :: keepOff [d, rl] own l).map (·.1)) := by
  intro p hp b hb
  rcases List.mem_cons.mp hb with rfl | hb
  · exact h1 p hp
  · rcases List.mem_cons.mp hb with rfl | hb
    · exact h2 p hp
    · obtain ⟨q, hq, rfl⟩ := List.mem_map.mp hb
      exact keepOff_own hq p hp
theorem keep_sub {d rl : Addr} {o1 o2 : Obj} {own l : List (Addr × Obj)} (h1 : (d, o1) ∈ l) (h2 : (rl, o2) ∈ l) : ∀ p ∈ (d, o1) :: (rl, o2) :: keepOff [d, rl] own l, p ∈ l := by
  intro p hp
  rcases List.mem_cons.mp hp with rfl | hp
  · exact h1
  · rcases List.mem_cons.mp hp with rfl | hp
    · exact h2
    · exact keepOff_sub hp

theorem dom_start {w : World} {d c rl : Addr} {rest : List (Addr × Obj)} {len0 : Nat} {p0 : Int} {news' : List (Addr × Obj)} {g h' : Heap} {L : Nat} {m' : Str → Option Value} {o' : Obj} {p' : Int} {t' : Tok} {vs' : List Value} {nn' : Nat} {low way : Int} {tlow tway : Tok}
    (N : News g L h' news') (hd : (d, o') ∈ news') (hr : (rl, listOf vs'.toArray nn') ∈ news') (hf : FeedIs w o' c p' t')
    (e3 : m' (Str.ofString "low") = some (.int low tlow)) (e4 : m' (Str.ofString "way") = some (.int way tway)) (e1 : m' (Str.ofString "feed") = some (.ref d)) (e2 : m' (Str.ofString "rows") = some (.ref rl))
    (b1 : p' = p0) (b3 : vs'.length = len0) (b5 : -10 ≤ low) (b6 : low ≤ 10 ^ 30)
    (hrest : ∀ q ∈ rest, q ∈ keepOff [d, rl] [] news') (hrows : RowsIn (keepOff [d, rl] [] news') vs') :
    DomJ w d c rl rest len0 p0 0 m' ((d, o') :: (rl, listOf vs'.toArray nn') :: keepOff [d, rl] [] news') :=
  ⟨_, _, _, _, _, _, _, _, _, _, rfl, hf, by omega, by omega, by omega, by omega, hrest, keep_d, keep_rl, hrows, by omega, by omega, e1, e2, e3, e4⟩
theorem dom_end {w : World} {d c rl : Addr} {rest : List (Addr × Obj)} {len0 : Nat} {p0 : Int} {i : Nat} {own news' : List (Addr × Obj)} {g h' : Heap} {L tk : Nat} {m' : Str → Option Value} {s₁ : Shared} {o' : Obj} {p' : Int} {t' : Tok} {vs' : List Value} {nn' : Nat} {low way : Int} {tlow tway : Tok}
    (F : Fr g L h' m') (N : News g L h' news') (hd : (d, o') ∈ news') (hr : (rl, listOf vs'.toArray nn') ∈ news') (hf : FeedIs w o' c p' t')
    (e3 : m' (Str.ofString "low") = some (.int low tlow)) (e4 : m' (Str.ofString "way") = some (.int way tway)) (e1 : m' (Str.ofString "feed") = some (.ref d)) (e2 : m' (Str.ofString "rows") = some (.ref rl))
    (b1 : p0 ≤ p') (b2 : p' ≤ p0 + 4 * ((i + 1 : Nat) : Int)) (b3 : vs'.length ≤ len0 + 4 * (i + 1)) (b4 : len0 + 3 * (i + 1) ≤ vs'.length) (b5 : -10 - 10 * ((i + 1 : Nat) : Int) ≤ low) (b6 : low ≤ 10 ^ 30 + 20 * ((i + 1 : Nat) : Int))
    (hrest : ∀ q ∈ rest, q ∈ keepOff [d, rl] own news') (w1 : ∀ p ∈ own, p.1 ≠ d) (w2 : ∀ p ∈ own, p.1 ≠ rl) (ho : ∀ p ∈ own, p ∈ news') (hrows : RowsIn (keepOff [d, rl] own news') vs') :
    InvEndG g L (DomJ w d c rl rest len0 p0 (i + 1)) own s₁ { s₁ with heap := h', toks := tk } :=
  InvEndG.intro F N ⟨_, _, _, _, _, _, _, _, _, _, rfl, hf, b1, b2, b3, b4, hrest, keep_d, keep_rl, hrows, b5, b6, e1, e2, e3, e4⟩ (keep_own w1 w2) (keep_sub hd hr) ho

/-- behind an `if x > 0: rows.append(..)` -/
structure DomF (d rl : Addr) (o2 : Obj) (rest own : List (Addr × Obj)) (len : Nat) (x : Int) (g : Heap) (L : Addr) (m : Str → Option Value) (s0 : Shared) (fl : Flow) (s' : Shared) : Prop where
  out : ∃ (vs' : List Value) (nn' : Nat) (tl : List (Addr × Obj)) (h' : Heap) (tk' : Nat), fl = .next ∧ s' = { s0 with heap := h', toks := tk' } ∧ len ≤ vs'.length ∧ vs'.length ≤ len + 1 ∧ (x ≤ 0 ∨ len + 1 ≤ vs'.length) ∧
    (∀ q ∈ rest, q ∈ tl) ∧ (∀ q ∈ tl, q.1 ≠ d) ∧ (∀ q ∈ tl, q.1 ≠ rl) ∧ (∀ q ∈ tl, ∀ p ∈ own, p.1 ≠ q.1) ∧ RowsIn tl vs' ∧ Fr g L h' m ∧ News g L h' ((d, o2) :: (rl, listOf vs'.toArray nn') :: (tl ++ own))
/-- behind `many = ..` -/
structure DomV (w : World) (d c rl : Addr) (rest : List (Addr × Obj)) (vs : List Value) (nn : Nat) (p way : Int) (g : Heap) (L : Addr) (m : Str → Option Value) (s0 : Shared) (v : Value) (s' : Shared) : Prop where
  out : ∃ (n : Int) (t : Tok) (o' : Obj) (p' : Int) (t' : Tok) (h' : Heap) (tk' : Nat), v = .int n t ∧ s' = { s0 with heap := h', toks := tk' } ∧ 0 ≤ n ∧ n ≤ 3 ∧ (1 ≤ way ∨ n = 1) ∧ FeedIs w o' c p' t' ∧ p ≤ p' ∧ p' ≤ p + 1 ∧ Fr g L h' m ∧ News g L h' ((d, o') :: (rl, listOf vs.toArray nn) :: rest)
section
variable {M : Model} {A : Around} {E : Value → Shared → Prop} {zh : Heap} {zg : Array GenState} {zd : Drawn} {zt : Nat} {zo : OsState} {s0 : Shared} {w : World} {d c rl : Addr} {o2 : Obj} {rest own news' : List (Addr × Obj)} {len : Nat} {x : Int} {g hz h' : Heap} {L : Addr} {m mz : Str → Option Value} {tk : Nat}
theorem dom_F {vs' : List Value} {nn' : Nat} (F : Fr g L h' m) (N : News g L h' news') (hd : (d, o2) ∈ news') (hr : (rl, listOf vs'.toArray nn') ∈ news') (ho : ∀ p ∈ own, p ∈ news') (hrest : ∀ q ∈ rest, q ∈ keepOff [d, rl] own news') (hrows : RowsIn (keepOff [d, rl] own news') vs')
    (b1 : len ≤ vs'.length) (b2 : vs'.length ≤ len + 1) (b3 : x ≤ 0 ∨ len + 1 ≤ vs'.length) : DomF d rl o2 rest own len x g L m s0 .next { s0 with heap := h', toks := tk } :=
  ⟨vs', nn', _, h', tk, rfl, rfl, b1, b2, b3, hrest, keep_d, keep_rl, fun q hq p hp => keepOff_own hq p hp, hrows, F, newsSub N fun q hq => by
    rcases List.mem_cons.mp hq with rfl | hq
    · exact hd
    · rcases List.mem_cons.mp hq with rfl | hq
      · exact hr
      · rcases List.mem_append.mp hq with hq | hq
        · exact keepOff_sub hq
        · exact ho q hq⟩
theorem domF_join {t : Sem Flow} {Q : Flow → Shared → Prop} {X : Str} {tx : Tok} (F : Fr g L hz mz) (ex : mz X = some (.int x tx)) (h : wpAny M A t (DomF d rl o2 rest own len x g L mz s0) E ⟨zh, zg, zd, zt, zo⟩)
    (k : ∀ vs' nn' tl h' tk', len ≤ vs'.length → vs'.length ≤ len + 1 → (x ≤ 0 ∨ len + 1 ≤ vs'.length) → (∀ q ∈ rest, q ∈ tl) → (∀ q ∈ tl, q.1 ≠ d) → (∀ q ∈ tl, q.1 ≠ rl) → (∀ q ∈ tl, ∀ p ∈ own, p.1 ≠ q.1) → RowsIn tl vs' → Fr g L h' mz →
      News g L h' ((d, o2) :: (rl, listOf vs'.toArray nn') :: (tl ++ own)) → Q .next { s0 with heap := h', toks := tk' }) : wpAny M A t Q E ⟨zh, zg, zd, zt, zo⟩ :=
  wpAny_mono h (fun fl s' hJ => by
    obtain ⟨vs', nn', tl, h', tk', rfl, rfl, a1, a2, a3, a4, a5, a6, a7, a8, a9, a10⟩ := hJ.out
    exact k _ _ _ _ _ a1 a2 a3 a4 a5 a6 a7 a8 a9 a10) fun _ _ z => z
theorem domF_join0 {t : Sem Flow} {Q : Flow → Shared → Prop} {X : Str} {tx : Tok} (F : Fr g L hz mz) (ex : mz X = some (.int x tx)) (h : wpAny M A t (DomF d rl o2 rest [] len x g L mz s0) E ⟨zh, zg, zd, zt, zo⟩)
    (k : ∀ vs' nn' tl h' tk', len ≤ vs'.length → vs'.length ≤ len + 1 → (x ≤ 0 ∨ len + 1 ≤ vs'.length) → (∀ q ∈ rest, q ∈ tl) → (∀ q ∈ tl, q.1 ≠ d) → (∀ q ∈ tl, q.1 ≠ rl) → RowsIn tl vs' → Fr g L h' mz →
      News g L h' ((d, o2) :: (rl, listOf vs'.toArray nn') :: tl) → Q .next { s0 with heap := h', toks := tk' }) : wpAny M A t Q E ⟨zh, zg, zd, zt, zo⟩ :=
  domF_join F ex h fun vs' nn' tl h' tk' a1 a2 a3 a4 a5 a6 _ a8 a9 a10 => k vs' nn' tl h' tk' a1 a2 a3 a4 a5 a6 a8 a9 (by rw [List.append_nil] at a10; exact a10)
theorem dom_V {o' : Obj} {vs : List Value} {nn : Nat} {p p' way n : Int} {t t' : Tok} (F : Fr g L h' m) (N : News g L h' news') (hd : (d, o') ∈ news') (hr : (rl, listOf vs.toArray nn) ∈ news') (hs : ∀ q ∈ rest, q ∈ news') (hf : FeedIs w o' c p' t')
    (b1 : 0 ≤ n) (b2 : n ≤ 3) (b3 : 1 ≤ way ∨ n = 1) (b4 : p ≤ p') (b5 : p' ≤ p + 1) : DomV w d c rl rest vs nn p way g L m s0 (.int n t) { s0 with heap := h', toks := tk } :=
  ⟨n, t, o', p', t', h', tk, rfl, rfl, b1, b2, b3, hf, b4, b5, F, newsSub N fun q hq => by
    rcases List.mem_cons.mp hq with rfl | hq
    · exact hd
    · rcases List.mem_cons.mp hq with rfl | hq
      · exact hr
      · exact hs q hq⟩
theorem domV_join {t : Sem Value} {Q : Value → Shared → Prop} {tx : Tok} {vs : List Value} {nn : Nat} {p way : Int} (F : Fr g L hz mz) (ex : mz (Str.ofString "way") = some (.int way tx)) (h : wpAny M A t (DomV w d c rl rest vs nn p way g L mz s0) E ⟨zh, zg, zd, zt, zo⟩)
    (k : ∀ n tn o' p' t' h' tk', 0 ≤ n → n ≤ 3 → (1 ≤ way ∨ n = 1) → FeedIs w o' c p' t' → p ≤ p' → p' ≤ p + 1 → Fr g L h' mz → News g L h' ((d, o') :: (rl, listOf vs.toArray nn) :: rest) → Q (.int n tn) { s0 with heap := h', toks := tk' }) : wpAny M A t Q E ⟨zh, zg, zd, zt, zo⟩ :=
  wpAny_mono h (fun v s' hJ => by
    obtain ⟨n, tn, o', p', t', h', tk', rfl, rfl, a1, a2, a3, a4, a5, a6, a7, a8⟩ := hJ.out
    exact k _ _ _ _ _ _ _ a1 a2 a3 a4 a5 a6 a7 a8) fun _ _ z => z
end
set_option maxHeartbeats 8000000 in
theorem domain_body {w : World} {mean : ExcName → Option Value} {mg mb : Str → Option Value} {dp un : Nat} {gd : Option (List Code)} {cn : Str} {cs : Scope} {a : Addr} {ccd : Value} {cl : List (Str × Addr)} {outer : List Env} {A₀ : Around} {base h₀ : Heap} {L : Addr} {m : Str → Option Value} {zh : Heap} {zg : Array GenState} {zd : Drawn} {zt : Nat} {zo : OsState} {Q E : Value → Shared → Prop}
    {d c rl : Addr} {o : Obj} {t tm : Tok} {p : Int} {cvs : List Value} {ns : List Int} {cn2 : Nat} {vs : List Value} {nn : Nat} {rest : List (Addr × Obj)}
    (B : Below A₀ base outer h₀) (F : Fr h₀ L zh m) (X : (Mine.top.heap_1 w.params).In h₀) (T : Top Mine.V loose mean mg mb h₀) (hk : cs.kind = .function) (hdp : dp + 10 < recursionLimit) (hun : un + 100 < cLine)
    (N : News h₀ L zh ((d, o) :: (rl, listOf vs.toArray nn) :: rest)) (hfd : FeedIs w o c p t) (hcm : (c, listOf cvs.toArray cn2) ∈ rest) (hoff : ∀ q ∈ rest, q.1 ≠ d) (hoff2 : ∀ q ∈ rest, q.1 ≠ rl) (hcd : @Ne Nat c d) (hcr : @Ne Nat c rl) (hdr : @Ne Nat d rl) 
    (hI : IntsAre cvs ns) 
    (hlen : cvs.length ≤ 1000) (hp0 : 0 ≤ p) (hp1 : p < 900) (hrows : RowsIn rest vs) (hvl : vs.length ≤ 100)
    (hQ : ∀ o' p' t' vs' nn' tl h' tk', FeedIs w o' c p' t' → p ≤ p' → p' ≤ p + 20 → vs'.length ≤ vs.length + 20 → 1 ≤ vs'.length → (∀ q ∈ rest, q ∈ tl) → (∀ q ∈ tl, q.1 ≠ d) → (∀ q ∈ tl, q.1 ≠ rl) → RowsIn tl vs' →
      Fr h₀ L h' m → News h₀ L h' ((d, o') :: (rl, listOf vs'.toArray nn') :: tl) → Q .none ⟨h', zg, zd, tk', zo⟩) :
    wpAny (model prog w) (ktrTop dp un gd cn cs L a ccd cl outer) (call (.ref 469) [.ref d, .ref rl]) Q E ⟨zh, zg, zd, zt, zo⟩ := by
  refine wpAny_call ?_
  k_dflt (refine' code_def (binds := [(Str.ofString "feed", .ref d), (Str.ofString "rows", .ref rl)]) ?k1 ?k2 ?k3 ?k4 ?k5 ?kA ?kF ?kK ?k6 ?k7 ?k8 ?k9 ?kB ?_ ?c2 ?c3 ?c4 ?c5; (case kA => exact rfl); (case kF => exact rfl); (case kK => assumption); (case k1 => k_asm); (case k2 => k_asm); (case k3 => k_asm); (case k4 => k_asm); (case k5 => k_asm); (case k6 => k_is); (case k7 => k_is); (case k8 => ktr_room); (case k9 => exact BindsTo.of_eq rfl); (case c5 => decide); (case kB => exact locs rfl); (case c2 => exact rfl); (case c3 => exact rfl); (case c4 => exact rfl); k_whole; intro g' L' h' FG' F' N' B' X' T'; (try dsimp only); (try k_fold); (show let Ab : PySem.Around := ktrTop dp un gd cn cs L a ccd cl outer; let ev : PySem.Env := _; let Ac : PySem.Around := PySem.Around.deeper Ab ev; wpAny _ Ac (PySem.execs _ ev) _ _ _); intro Ab ev Ac; (replace hdp : PySem.Around.depth Ab + _ < _ := hdp); (replace hun : PySem.Around.units Ab + _ < _ := hun))
  k_steps
  refine Stop.mk ?_
  (with_reducible rename Fr _ _ _ _ => Fz)
  (with_reducible rename News _ _ _ _ => Nz)
  refine' domV_join (c := c) (d := d) (rl := rl) (rest := rest) (vs := vs) (nn := nn) (p := p + 1 + 1) (w := w) (s0 := ⟨zh, zg, zd, zt, zo⟩) Fz ?ew (wpAny_IfExp ?hv) ?_
  case ew => exact rfl
  case hv =>
    k_steps
    all_goals (
      (with_reducible rename Fr _ _ _ _ => Fy)
      (with_reducible rename News _ _ _ _ => Ny)
      refine' dom_V Fy Ny ?hd ?hr (fun q hq => ?hs) ?hf ?b1 ?b2 ?b3 ?b4 ?b5
      case hd => k_mem
      case hr => k_mem
      case hs => k_mem
      case hf => assumption
      case b1 => omega
      case b2 => omega
      case b3 => omega
      case b4 => omega
      case b5 => omega)
  intro n0 tn0 o1 p1 t1 h1 tk1 n1 n2 n3 f1 p2 p3 F1 N1
  clear Fz Nz
  (try dsimp only)
  k_steps
  refine Stop.mk ?_
  (with_reducible rename Fr _ _ _ _ => Fz)
  (with_reducible rename News _ _ _ _ => Nz)
  refine' domF_join0 (d := d) (rl := rl) (o2 := o1) (rest := rest) (len := vs.length) (X := Str.ofString "way") (s0 := ⟨zh, zg, zd, zt, zo⟩) Fz ?ew (wpAny_If ?hv) ?_
  case ew => exact rfl
  case hv =>
    k_steps
    all_goals (
      (with_reducible rename Fr _ _ _ _ => Fy)
      (with_reducible rename News _ _ _ _ => Ny)
      have hrest := keep_restN (d := d) (rl := rl) (own := []) (rest := rest) Ny (fun q hq => by skip; k_mem) hoff hoff2 (fun _ _ _ h => absurd h List.not_mem_nil)
      refine' dom_F Fy Ny ?hd ?hr ?ho hrest ?rows ?b1 ?b2 ?b3
      case hd => k_mem
      case hr => k_mem
      case ho => (intro q h; exact absurd h List.not_mem_nil)
      case b1 => first | omega | (simp only [List.length_append, List.length_cons, List.length_nil]; omega)
      case b2 => first | omega | (simp only [List.length_append, List.length_cons, List.length_nil]; omega)
      case b3 => first | omega | (simp only [List.length_append, List.length_cons, List.length_nil]; omega)
      case rows =>
        repeat' (first
          | with_reducible exact RowsIn.nil
          | with_reducible refine RowsIn.cons ?_ ?_
          | with_reducible refine RowsIn.app ?_ ?_
          | with_reducible exact RowsIn.mono hrows hrest
          | exact RowV.num (by k_mem) (off2 (by omega) (by omega)) (off_of (by (first | with_reducible assumption | exact Mine.al1 (by with_reducible assumption) | exact Mine.al2 (by with_reducible assumption) | exact Mine.al3 (by with_reducible assumption) | exact Mine.al4 (by with_reducible assumption) | exact Mine.al5 (by with_reducible assumption) | exact Mine.al6 (by with_reducible assumption) | exact Mine.al7 (by with_reducible assumption) | exact Mine.al8 (by with_reducible assumption))) g2) (by assumption) (by omega) (by omega)
          | exact RowV.sign (by k_mem) rfl (off2 (by omega) (by omega)) (fun _ h => absurd h List.not_mem_nil) (by unfold Mine.signsW; k_mem)))
  intro vs1 nn1 tl1 h2 tk2 v1 v2 v3 v4 v5 v6 v7 F2 N2
  have v8 : (c, listOf cvs.toArray cn2) ∈ tl1 := v4 _ hcm
  have hone : 1 ≤ vs1.length ∨ n0 = 1 := by omega
  have hv1 : vs1.length ≤ 101 := by omega
  have hp1' : p1 < 903 := by omega
  have hp0' : 0 ≤ p1 := by omega
  clear v1 v3 n3
  clear Fz Nz
  (try dsimp only)
  k_steps
  refine Stop.mk ?_
  rename_i hR F1 N1
  have hrest0 := keep_restN (d := d) (rl := rl) (own := []) (rest := tl1) N1 (fun q hq => by k_mem) v5 v6 (fun _ _ _ h => absurd h List.not_mem_nil)
  refine' range_Z (DomJ w d c rl tl1 vs1.length p1) rfl hR (by omega) (by omega) F1 (newsSub N1 (keep_sub (d := d) (rl := rl) (own := []) ?hd ?hr)) (dom_start N1 ?hd ?hr ?hf ?e3 ?e4 ?e1 ?e2 ?b1 ?b3 ?b5 ?b6 hrest0 ?rows) ?turn ?fin
  case hd => k_mem
  case hr => k_mem
  case hf => assumption
  case e3 => exact rfl
  case e4 => exact rfl
  case e1 => exact rfl
  case e2 => exact rfl
  case b1 => rfl
  case b3 => rfl
  case b5 => omega
  case b6 => omega
  case rows => with_reducible exact RowsIn.mono v7 hrest0
  case turn =>
    intro i t0 m₁ nx h tk own hi hoffo hJ F2 N2
    obtain ⟨o2, p2', t2, vs2, nn2, tl, low, way, tlow, tway, rfl, f1, f2, f3, f4, f5, f6, f7, f8, f9, f10, f11, e1, e2, e3, e4⟩ := hJ.out
    have w1 : ∀ p ∈ own, p.1 ≠ d := fun p hp => hoffo p hp d (List.Mem.head _)
    have w2 : ∀ p ∈ own, p.1 ≠ rl := fun p hp => hoffo p hp rl (.tail _ (.head _))
    have w3 : ∀ q ∈ tl, ∀ p ∈ own, p.1 ≠ q.1 := fun q hq p hp => hoffo p hp q.1 (.tail _ (.tail _ (List.mem_map.mpr ⟨q, hq, rfl⟩)))
    have N3 : News g' L' h ((d, o2) :: (rl, listOf vs2.toArray nn2) :: (tl ++ own)) := N2
    have F3 := fr_put (fr_put (fr_put (fr_put F2 (Str.ofString "feed") e1) (Str.ofString "rows") e2) (Str.ofString "low") e3) (Str.ofString "way") e4
    have g1 : ∀ q ∈ tl, q ∈ tl ++ own := fun q hq => List.mem_append_left _ hq
    have g2 : ∀ q ∈ own, q ∈ tl ++ own := fun q hq => List.mem_append_right _ hq
    have g3 : ∀ q ∈ tl ++ own, q.1 ≠ d := fun q hq => (List.mem_append.mp hq).elim (f7 q) (w1 q)
    have g4 : ∀ q ∈ tl ++ own, q.1 ≠ rl := fun q hq => (List.mem_append.mp hq).elim (f8 q) (w2 q)
    generalize tl ++ own = T at N3 g1 g2 g3 g4
    have hi3 : i < 3 := by omega
    clear hi hone
    have q0 : 0 ≤ p2' := by omega
    have q1 : p2' < 930 := by omega
    have q2 : vs2.length ≤ 120 := by omega
    have q3 : vs2.length < 120000 := by omega
    clear F2 N2 hJ F1 N1 N hR hoffo
    k_steps
    refine Stop.mk ?_
    (with_reducible rename Fr _ _ _ _ => Fz)
    (with_reducible rename News _ _ _ _ => Nz)
    refine' domF_join (d := d) (rl := rl) (o2 := o2) (rest := tl) (own := own) (len := vs2.length) (X := Str.ofString "lap") (s0 := ⟨zh, zg, zd, zt, zo⟩) Fz ?ew (wpAny_If ?hv) ?_
    case ew => exact rfl
    case hv =>
      k_steps
      all_goals (
        (with_reducible rename Fr _ _ _ _ => Fy)
        (with_reducible rename News _ _ _ _ => Ny)
        have hrest := keep_restN (d := d) (rl := rl) (own := own) (rest := tl) Ny (fun q hq => by have := g1 q hq; k_mem) f7 f8 w3
        refine' dom_F Fy Ny ?hd ?hr ?ho hrest ?rows ?b1 ?b2 ?b3
        case hd => k_mem
        case hr => k_mem
        case ho => (intro q hq; have := g2 q hq; k_mem)
        case b1 => first | omega | (simp only [List.length_append, List.length_cons, List.length_nil]; omega)
        case b2 => first | omega | (simp only [List.length_append, List.length_cons, List.length_nil]; omega)
        case b3 => first | omega | (simp only [List.length_append, List.length_cons, List.length_nil]; omega)
        case rows =>
          repeat' (first
            | with_reducible exact RowsIn.nil
            | with_reducible refine RowsIn.cons ?_ ?_
            | with_reducible refine RowsIn.app ?_ ?_
            | with_reducible exact RowsIn.mono f9 hrest
            | exact RowV.num (by k_mem) (off2 (by omega) (by omega)) (off_of (by (first | with_reducible assumption | exact Mine.al1 (by with_reducible assumption) | exact Mine.al2 (by with_reducible assumption) | exact Mine.al3 (by with_reducible assumption) | exact Mine.al4 (by with_reducible assumption) | exact Mine.al5 (by with_reducible assumption) | exact Mine.al6 (by with_reducible assumption) | exact Mine.al7 (by with_reducible assumption) | exact Mine.al8 (by with_reducible assumption))) g2) (by assumption) (by omega) (by omega)
            | exact RowV.sign (by k_mem) rfl (off2 (by omega) (by omega)) (off_of (by (first | with_reducible assumption | exact Mine.al1 (by with_reducible assumption) | exact Mine.al2 (by with_reducible assumption) | exact Mine.al3 (by with_reducible assumption) | exact Mine.al4 (by with_reducible assumption) | exact Mine.al5 (by with_reducible assumption) | exact Mine.al6 (by with_reducible assumption) | exact Mine.al7 (by with_reducible assumption) | exact Mine.al8 (by with_reducible assumption))) g2) (by unfold Mine.signsW; k_mem)))
    intro vs3 nn3 tl3 h3 tk3 z1 z2 z3 z4 z5 z6 z7 z8 F4 N4
    clear Fz Nz g1 g2 g3 g4 w3
    (try clear F3)
    (try clear N3)
    have g1 : ∀ q ∈ tl3, q ∈ tl3 ++ own := fun q hq => List.mem_append_left _ hq
    have g2 : ∀ q ∈ own, q ∈ tl3 ++ own := fun q hq => List.mem_append_right _ hq
    have g3 : ∀ q ∈ tl3 ++ own, q.1 ≠ d := fun q hq => (List.mem_append.mp hq).elim (z5 q) (w1 q)
    have g4 : ∀ q ∈ tl3 ++ own, q.1 ≠ rl := fun q hq => (List.mem_append.mp hq).elim (z6 q) (w2 q)
    have g5 : (c, listOf cvs.toArray cn2) ∈ tl3 ++ own := g1 _ (z4 _ (f6 _ v8))
    generalize tl3 ++ own = T at N4 g1 g2 g3 g4 g5
    (try dsimp only)
    k_steps
    all_goals (
      (with_reducible rename Fr _ _ _ _ => Fz)
      (with_reducible rename News _ _ _ _ => Nz)
      have hrest := keep_restN (d := d) (rl := rl) (own := own) Nz (fun q hq => by have := g1 q hq; k_mem) z5 z6 z7
      refine' dom_end Fz Nz ?hd ?hr ?hf ?e3 ?e4 ?e1 ?e2 ?b1 ?b2 ?b3 ?b4 ?b5 ?b6 (fun q hq => hrest q (z4 q (f6 q hq))) w1 w2 (fun q hq => by have := g2 q hq; k_mem) ?rows
      case hd => k_mem
      case hr => k_mem
      case hf => assumption
      case e3 => exact rfl
      case e4 => exact rfl
      case e1 => exact rfl
      case e2 => exact rfl
      case b1 => omega
      case b2 => omega
      case b3 => first | omega | (simp only [List.length_append, List.length_cons, List.length_nil]; omega)
      case b4 => first | omega | (simp only [List.length_append, List.length_cons, List.length_nil]; omega)
      case b5 => omega
      case b6 => omega
      case rows =>
        repeat' (first
          | with_reducible exact RowsIn.nil
          | with_reducible refine RowsIn.cons ?_ ?_
          | with_reducible refine RowsIn.app ?_ ?_
          | with_reducible exact RowsIn.mono z8 hrest
          | exact RowV.num (by k_mem) (off2 (by omega) (by omega)) (off_of (by (first | with_reducible assumption | exact Mine.al1 (by with_reducible assumption) | exact Mine.al2 (by with_reducible assumption) | exact Mine.al3 (by with_reducible assumption) | exact Mine.al4 (by with_reducible assumption) | exact Mine.al5 (by with_reducible assumption) | exact Mine.al6 (by with_reducible assumption) | exact Mine.al7 (by with_reducible assumption) | exact Mine.al8 (by with_reducible assumption))) g2) (by assumption) (by omega) (by omega)
          | exact RowV.sign (by k_mem) rfl (off2 (by omega) (by omega)) (off_of (by (first | with_reducible assumption | exact Mine.al1 (by with_reducible assumption) | exact Mine.al2 (by with_reducible assumption) | exact Mine.al3 (by with_reducible assumption) | exact Mine.al4 (by with_reducible assumption) | exact Mine.al5 (by with_reducible assumption) | exact Mine.al6 (by with_reducible assumption) | exact Mine.al7 (by with_reducible assumption) | exact Mine.al8 (by with_reducible assumption))) g2) (by unfold Mine.signsW; k_mem)))
  case fin =>
    intro m₁ nx h tk hJ F2 N2
    obtain ⟨o2, p2', t2, vs2, nn2, tl, low, way, tlow, tway, rfl, f1, f2, f3, f4, f5, f6, f7, f8, f9, f10, f11, e1, e2, e3, e4⟩ := hJ.out
    have F3 := fr_put (fr_put (fr_put (fr_put F2 (Str.ofString "feed") e1) (Str.ofString "rows") e2) (Str.ofString "low") e3) (Str.ofString "way") e4
    clear F2 hJ F1 N1 N hR
    (try dsimp only)
    k_steps
    refine Stop.mk ?_
    (with_reducible rename Fr _ _ _ _ => Fz)
    (with_reducible rename News _ _ _ _ => Nz)
    refine' domF_join0 (d := d) (rl := rl) (o2 := o2) (rest := tl) (len := vs2.length) (X := Str.ofString "way") (s0 := ⟨zh, zg, zd, zt, zo⟩) Fz ?ew (wpAny_If ?hv) ?_
    case ew => exact rfl
    case hv =>
      k_steps
      all_goals (
        (with_reducible rename Fr _ _ _ _ => Fy)
        (with_reducible rename News _ _ _ _ => Ny)
        have hrest := keep_restN (d := d) (rl := rl) (own := []) (rest := tl) Ny (fun q hq => by skip; k_mem) f7 f8 (fun _ _ _ h => absurd h List.not_mem_nil)
        refine' dom_F Fy Ny ?hd ?hr ?ho hrest ?rows ?b1 ?b2 ?b3
        case hd => k_mem
        case hr => k_mem
        case ho => (intro q h; exact absurd h List.not_mem_nil)
        case b1 => first | omega | (simp only [List.length_append, List.length_cons, List.length_nil]; omega)
        case b2 => first | omega | (simp only [List.length_append, List.length_cons, List.length_nil]; omega)
        case b3 => first | omega | (simp only [List.length_append, List.length_cons, List.length_nil]; omega)
        case rows =>
          repeat' (first
            | with_reducible exact RowsIn.nil
            | with_reducible refine RowsIn.cons ?_ ?_
            | with_reducible refine RowsIn.app ?_ ?_
            | with_reducible exact RowsIn.mono f9 hrest
            | exact RowV.num (by k_mem) (off2 (by omega) (by omega)) (off_of (by (first | with_reducible assumption | exact Mine.al1 (by with_reducible assumption) | exact Mine.al2 (by with_reducible assumption) | exact Mine.al3 (by with_reducible assumption) | exact Mine.al4 (by with_reducible assumption) | exact Mine.al5 (by with_reducible assumption) | exact Mine.al6 (by with_reducible assumption) | exact Mine.al7 (by with_reducible assumption) | exact Mine.al8 (by with_reducible assumption))) g2) (by assumption) (by omega) (by omega)
            | exact RowV.sign (by k_mem) rfl (off2 (by omega) (by omega)) (fun _ h => absurd h List.not_mem_nil) (by unfold Mine.signsW; k_mem)))
    intro vs3 nn3 tl3 h3 tk3 z1 z2 z3 z4 z5 z6 z8 F4 N4
    clear Fz Nz
    (try clear F3)
    (try clear N2)
    (try dsimp only)
    k_steps
    (with_reducible rename Fr _ _ _ _ => Fz)
    (with_reducible rename News _ _ _ _ => Nz)
    exact hQ _ _ _ _ _ _ _ _ f1 (by omega) (by omega) (by omega) (by omega) (fun q hq => z4 q (f6 q (v4 q hq))) z5 z6 z8 Fz Nz
end Mine
namespace Mine
open PySem PySem.W PyProof.Rows PySem.Calls PyProof.V PySem.Spec PySem.NumText
section
variable {pg : Program} {w : World} {A : Around} {E : Value → Shared → Prop} {s : Shared} {h₀ : Heap} {L l b : Addr} {m : Str → Option Value} {news : List (Addr × Obj)} {value slice : PySem.Expr} {vs ws : List Value} {vl vu : Value} {lo hi : Option Int} {n1 n2 : Nat} {Q : Value → Shared → Prop}
theorem pick_sub {items : Array Value} {v : Value} (h : v ∈ (slicePick items lo hi none).toList) : v ∈ items.toList := by
  unfold slicePick at h
  obtain ⟨i, _, hi⟩ := List.mem_filterMap.mp (by simpa using h)
  obtain ⟨h1, h2⟩ := Array.getElem?_eq_some_iff.mp hi
  rw [← h2]
  exact Array.mem_toList_iff.mpr (Array.getElem_mem h1)
theorem slice_V (F : Fr h₀ L s.heap m) (N : News h₀ L s.heap news) (hm : (l, listOf vs.toArray n1) ∈ news) (hz : vs.length ≤ 100000) (pl : IsPart vl lo) (pu : IsPart vu hi)
    (h : ∀ (D : Addr) (h' : Heap) (zs : List Value), Fr h₀ L h' m → News h₀ L h' ((D, listOf zs.toArray 0) :: news) → (∀ p ∈ news, p.1 < D) → (∀ v ∈ zs, v ∈ vs) → zs.length ≤ vs.length → Q (.ref D) { s with heap := h' })
    (hs : subscripted slice false (.ref l) (.ref s.heap.objs.size) = operate [.ref s.heap.objs.size, .ref l] (getItem (.ref l) (.ref s.heap.objs.size))) (ht : ∀ r, letTemporaryGo value (.ref l) r = pure ()) :
    wpAny (model pg w) A (subscriptTail value slice (.ref l) (.ref s.heap.objs.size)) Q E { s with heap := s.heap.push { cls := .type "slice", data := .fields #[vl, vu, .none] } } := by
  have q := slicePick_size_le vs.toArray lo hi none
  have q1 : (slicePick vs.toArray lo hi none).toList.length ≤ vs.length := by simpa using q
  have q2 : ∀ v ∈ (slicePick vs.toArray lo hi none).toList, v ∈ vs := fun v hv => by
    have := pick_sub hv
    simpa using this
  refine kmk_slice_lit (its := vs.toArray) F N ⟨_, (N _ hm).1, rfl, _, rfl⟩ pl pu rfl (fun D h' F' N' l1 => h D h' _ F' N' l1 q2 q1) hs ht ?_
  · rw [sizeLine_eq, List.size_toArray]
    omega
theorem add_V (F : Fr h₀ L s.heap m) (N : News h₀ L s.heap news) (ha : (l, listOf vs.toArray n1) ∈ news) (hb : (b, listOf ws.toArray n2) ∈ news) (hz : vs.length ≤ 100000) (hz2 : ws.length ≤ 100000)
    (h : ∀ D h', Fr h₀ L h' m → News h₀ L h' ((D, listOf (vs ++ ws).toArray 0) :: news) → (∀ p ∈ news, p.1 < D) → Q (.ref D) { s with heap := h' }) :
    wpAny (model pg w) A (binaryOp .Add (.ref l) (.ref b)) Q E s :=
  add_arrays (its := vs.toArray) (its2 := ws.toArray) (hsz := by rw [sizeLine_eq, List.size_toArray, List.size_toArray]; omega) F N ⟨_, (N _ ha).1, rfl, _, rfl⟩ ⟨_, (N _ hb).1, rfl, _, rfl⟩
    fun h' F' N' => h _ h' F' (by simpa using N') fun p hp => Heap.lt_size (N p hp).1
theorem pick_R {a : Addr} {us : List Value} {nn : Nat} {k : Int} {u : Tok} (P : Value → Prop) (N : News h₀ L s.heap news) (hm : (a, ({ cls := .type "tuple", data := .seq us.toArray nn } : Obj)) ∈ news)
    (h0 : 0 ≤ k) (h1 : k < us.length) (hb : us.length < 100) (hP : ∀ v ∈ us, P v) (h : ∀ v, P v → Q v s)
    (hs : subscripted slice false (.ref a) (.int k u) = operate [.ref a, .int k u] (getItem (.ref a) (.int k u)) := by with_unfolding_all rfl) :
    wpAny (model pg w) A (subscriptTail value slice (.ref a) (.int k u)) Q E s := by
  have hk : k.toNat < us.length := by omega
  refine item_tupleT (j := k.toNat) (x := us[k.toNat]) ⟨_, (N _ hm).1, rfl, _, rfl⟩ (by omega) (by omega) ?_ (List.getElem?_eq_getElem hk) (h _ (hP _ (List.getElem_mem hk))) hs
  unfold seqIndex?
  have e1 : ¬ (k < 0) := by omega
  simp [e1]
  omega
theorem RowsIn.sub {l' : List (Addr × Obj)} {us vs : List Value} (h : RowsIn l' vs) (hs : ∀ v ∈ us, v ∈ vs) : RowsIn l' us := fun v hv => h v (hs v hv)
end
def RowM (M : List Addr) (news : List (Addr × Obj)) (v : Value) : Prop := ∃ a wv x t, v = .ref a ∧ (a, tupO [wv, .str x t]) ∈ news ∧ a ∉ M ∧ RowOk wv x
theorem RowM.keep {M : List Addr} {l l' : List (Addr × Obj)} {v : Value} (h : RowM M l v) (hs : ∀ q ∈ l, q ∈ l') : RowV (keepOff M [] l') v := by
  obtain ⟨a, wv, x, t, e, hm, hM, ok⟩ := h
  exact ⟨a, wv, x, t, e, keepOff_mem (hs _ hm) hM (fun _ h => absurd h List.not_mem_nil), ok⟩
theorem RowM.sign {l : List (Addr × Obj)} {M : List Addr} {a : Addr} {x : Str} {t : Tok} {nn : Nat} (h : (a, ({ cls := .type "tuple", data := .seq #[.none, .str x t] nn } : Obj)) ∈ l) (h0 : nn = 0) (h1 : a ∉ M) (hx : x ∈ signsW) : RowM M l (.ref a) := by
  subst h0
  exact ⟨a, .none, x, t, rfl, h, h1, .inl ⟨rfl, hx⟩⟩
theorem RowM.num {l : List (Addr × Obj)} {M : List Addr} {a : Addr} {n : Int} {x : Str} {t u : Tok} (h : (a, tupO [.int n u, .str x t]) ∈ l) (h1 : a ∉ M) (hx : NumW n x.cps.toList) (b1 : -10 ^ 33 < n) (b2 : n < 10 ^ 33) : RowM M l (.ref a) :=
  ⟨a, _, x, t, rfl, h, h1, .inr ⟨n, u, rfl, hx, b1, b2⟩⟩
theorem pick_RM {pg : Program} {w : World} {A : Around} {E : Value → Shared → Prop} {s : Shared} {h₀ : Heap} {L : Addr} {news : List (Addr × Obj)} {value slice : PySem.Expr} {Q : Value → Shared → Prop} {a : Addr} {us : List Value} {nn : Nat} {k : Int} {u : Tok} (M : List Addr) (N : News h₀ L s.heap news) (hm : (a, ({ cls := .type "tuple", data := .seq us.toArray nn } : Obj)) ∈ news)
    (h0 : 0 ≤ k) (h1 : k < us.length) (hb : us.length < 100) (hP : ∀ v ∈ us, RowM M news v) (h : ∀ v, RowM M news v → Q v s)
    (hs : subscripted slice false (.ref a) (.int k u) = operate [.ref a, .int k u] (getItem (.ref a) (.int k u)) := by with_unfolding_all rfl) :
    wpAny (model pg w) A (subscriptTail value slice (.ref a) (.int k u)) Q E s := pick_R (RowM M news) N hm h0 h1 hb hP h hs
theorem keep1_restN {g h : Heap} {L d : Addr} {rest l : List (Addr × Obj)} (N : News g L h l) (hs : ∀ q ∈ rest, q ∈ l) (hoff : ∀ q ∈ rest, q.1 ≠ d) : ∀ q ∈ rest, q ∈ keepOff [d] [] l :=
  fun q hq => keepOff_mem (hs q hq) (fun h => (List.mem_cons.mp h).elim (hoff q hq) fun h => absurd h List.not_mem_nil) (fun _ h => absurd h List.not_mem_nil)
theorem off1 {a d : Addr} (h1 : @Ne Nat a d) : a ∉ [d] := by
  intro h
  rcases List.mem_cons.mp h with e | h
  · exact h1 e
  · cases h
theorem nw_4 : NumW 4 (Str.ofString "4").cps.toList := ⟨false, [52], by decide +kernel, by intro c hc; simp at hc; omega, by simp, by simp, by decide +kernel⟩
theorem nw_m2 : NumW (-2) (Str.ofString "-2").cps.toList := ⟨true, [50], by decide +kernel, by intro c hc; simp at hc; omega, by simp, by simp, by decide +kernel⟩
theorem all_nil {P : Value → Prop} : ∀ v ∈ ([] : List Value), P v := fun _ h => absurd h List.not_mem_nil
theorem all_cons {P : Value → Prop} {v : Value} {vs : List Value} (h : P v) (k : ∀ v ∈ vs, P v) : ∀ u ∈ v :: vs, P u := List.forall_mem_cons.mpr ⟨h, k⟩
theorem keep1_d {d : Addr} {own l : List (Addr × Obj)} : ∀ q ∈ keepOff [d] own l, q.1 ≠ d := fun q hq e => keepOff_off hq (e ▸ .head _)
theorem keep1_sub {d : Addr} {o1 : Obj} {own l : List (Addr × Obj)} (h1 : (d, o1) ∈ l) : ∀ p ∈ (d, o1) :: keepOff [d] own l, p ∈ l := by
  intro p hp
  rcases List.mem_cons.mp hp with rfl | hp
  · exact h1
  · exact keepOff_sub hp
end Mine
theorem Mine.rw_P05b_bent : True := by
  k_with_none
  (k_with "subscriptTail" => (k_here; (fail_if_success fail_if_success with_reducible show wpAny _ _ (subscriptTail _ _ (Value.ref _) (Value.str _ _)) _ _ _); k_dflt (refine' Mine.d_get ?zzN ?zzm ?zzo ?zzf ?_; (case zzN => k_asm); (case zzm => k_mem); (case zzo => with_reducible assumption); (case zzf => exact rfl); k_whole)))
  (k_with "setItem ref str" => (k_here; (fail_if_success fail_if_success with_reducible show wpAny _ _ (setItem (Value.ref _) (Value.str _ _) _) _ _ _); k_dflt (refine' Mine.d_set ?zzF ?zzN ?zzU ?zzo ?_ ?zzz; (case zzF => k_asm); (case zzN => k_asm); (case zzU => k_updF); (case zzo => with_reducible assumption); (case zzz => exact Nat.le_of_ble_eq_true rfl)); intro _ _ _ _ _; (try k_sweep)))
  (k_with "call builtin:len" => (k_here; (fail_if_success fail_if_success with_reducible show wpAny _ _ (call (Value.builtin "len") [Value.ref _]) _ _ _); k_dflt (refine' Mine.len_L ?zzN ?zzm ?zzb ?_; (case zzN => k_asm); (case zzm => k_mem); (case zzb => omega); k_whole)))
  (k_with "subscriptTail" => (k_here; (fail_if_success fail_if_success with_reducible show wpAny _ _ (subscriptTail _ _ (Value.ref _) (Value.int _ _)) _ _ _); k_dflt (refine' Mine.item_L ?zzN ?zzm ?zza ?zzb ?zzc ?_; (case zzN => k_asm); (case zzm => k_mem); (case zza => omega); (case zzb => omega); (case zzc => omega); k_whole); intro _ _))
  (k_with "subscriptTail" => (k_here; (fail_if_success fail_if_success with_reducible show wpAny _ _ (subscriptTail _ _ (Value.ref _) (Value.int _ _)) _ _ _); k_dflt (refine' Mine.item_LI ?zzN ?zzm ?zzi ?zza ?zzb ?zzc ?_; (case zzN => k_asm); (case zzm => k_mem); (case zzi => with_reducible assumption); (case zza => omega); (case zzb => omega); (case zzc => omega); k_whole); intro _ _))
  (k_with "ite" => first | with_reducible refine PyProof.Rows.ite_tt ?_ | with_reducible refine PyProof.Rows.ite_ff ?_)
  (k_with "execs cons" => (k_here; (try k_gentoks); (with_reducible refine wpAny_execs_cons ?_); (try dsimp only); k_fold))
  (k_with "eval Constant int" => (with_reducible refine Mine.constI ?_))
  (k_with "eval Constant str" => (with_reducible refine Mine.constS ?_))
  (k_with "binaryOp Add int int" => (with_reducible refine Mine.addI ?_))
  (k_with "call ref" => (k_here; (fail_if_success fail_if_success with_reducible show wpAny _ _ (call (Value.ref 455) [Value.ref _, Value.int _ _]) _ _ _); k_dflt (refine' Mine.dip_K ?zzB ?zzF ?zzX ?zzT ?zzhk ?zzhd ?zzhu ?zzN ?zzU ?zzfd ?zzc ?zzcd ?zzhI ?zzl ?zzp0 ?zzp1 ?zzm0 ?zzm1 ?_; (case zzB => k_asm); (case zzF => k_asm); (case zzX => k_asm); (case zzT => k_asm); (case zzhk => first | exact rfl | assumption); (case zzN => k_asm); (case zzU => k_updF); (case zzfd => with_reducible assumption); (case zzc => k_mem); (case zzcd => omega); (case zzhI => with_reducible assumption); (case zzhd => ktr_room); (case zzhu => ktr_units); (case zzl => omega); (case zzp0 => omega); (case zzp1 => omega); (case zzm0 => omega); (case zzm1 => omega)); intro _ _ _ _ _ _ _ _ _ _ _; (try dsimp only); (try k_fold); (try k_sweep)))
  (k_with "call type:str" => (k_here; (fail_if_success fail_if_success with_reducible show wpAny _ _ (call (Value.type "str") [Value.int _ _]) _ _ _); (refine Mine.str_I ?zzz0 ?zzz1 ?_; (case zzz0 => omega); (case zzz1 => omega)); intro _ _ _; (try dsimp only)))
  (k_with "call ref" => (k_here; (fail_if_success fail_if_success with_reducible show wpAny _ _ (call (Value.ref 462) [Value.ref _, Value.int _ _]) _ _ _); k_dflt (refine' Mine.number_K ?zzB ?zzF ?zzX ?zzT ?zzhk ?zzhd ?zzhu ?zzN ?zzU ?zzfd ?zzc ?zzcd ?zzhI ?zzl ?zzp0 ?zzp1 ?zzm0 ?zzm1 ?_; (case zzB => k_asm); (case zzF => k_asm); (case zzX => k_asm); (case zzT => k_asm); (case zzhk => first | exact rfl | assumption); (case zzN => k_asm); (case zzU => k_updF); (case zzfd => with_reducible assumption); (case zzc => k_mem); (case zzcd => omega); (case zzhI => with_reducible assumption); (case zzhd => ktr_room); (case zzhu => ktr_units); (case zzl => omega); (case zzp0 => omega); (case zzp1 => omega); (case zzm0 => omega); (case zzm1 => omega)); intro _ _ _ _ _ _ _ _ _ _ _ _ hlt9; k_lt hlt9; (try dsimp only); (try k_fold); (try k_sweep)))
  (k_with "call builtin:list.append" => (k_here; (fail_if_success fail_if_success with_reducible show wpAny _ _ (call (Value.builtin _) [Value.ref _, _]) _ _ _); k_dflt (refine' Mine.append_V ?zzF ?zzN ?zzU ?zzz ?_; (case zzF => k_asm); (case zzN => k_asm); (case zzU => k_updF); (case zzz => first | omega | (simp only [List.length_append, List.length_cons, List.length_nil]; omega))); intro _ _ N'; (try dsimp only at N'); (try k_sweep)))
  (k_with "call builtin:list.extend" => (k_here; (fail_if_success fail_if_success with_reducible show wpAny _ _ (call (Value.builtin _) [Value.ref _, Value.ref _]) _ _ _); k_dflt (refine' Mine.extend_V ?zzF ?zzN ?zzb ?zze ?zzU ?zzz ?zzy ?_; (case zzF => k_asm); (case zzN => k_asm); (case zzb => k_mem); (case zzU => k_updF); (case zze => exact Nat.succ_ne_zero _); (case zzz => first | omega | (simp only [List.length_append, List.length_cons, List.length_nil]; omega)); (case zzy => exact Nat.le_of_ble_eq_true rfl)); intro _ _ N'; (try dsimp only at N'); (try k_sweep)))
  (k_with "pyIter ref" => (refine Mine.stop_intro ?_))
  (k_with "exec For Name Call cons nil" => (k_here; (rename Fr _ _ _ _ => lF'); (with_unfolding_all refine' For_invVF lF' ?zzk1 ?zzk2 ?_; (case zzk1 => exact rfl); (case zzk2 => exact rfl); k_whole)))
  (k_with "call type:range" => (k_here; (fail_if_success fail_if_success with_reducible show wpAny _ _ (call _ [Value.int _ _]) _ _ _); k_dflt (refine' Mine.range_1 ?zzF ?zzN ?_; (case zzF => k_asm); (case zzN => k_asm)); intro _ _ _ _ _ _ _ _; (try k_sweep)))
  (k_with "subscriptTail" => (k_here; (fail_if_success fail_if_success with_reducible show wpAny _ _ (subscriptTail _ _ (Value.ref _) (Value.int _ _)) _ _ _); k_dflt (first | (refine' Mine.pick_T (-3) 9 ?zzN ?zzm ?zzi ?zza ?zzb ?zzc ?_; (case zzN => k_asm); (case zzm => k_mem); (case zzi => repeat' (first | exact Mine.IntsIn.nil | (refine Mine.IntsIn.cons (by decide) (by decide) ?_))); (case zza => assumption); (case zzb => assumption); (case zzc => exact Nat.le_of_ble_eq_true rfl); k_whole) | (refine' Mine.pick_T (-3) (10 ^ 30) ?zzN ?zzm ?zzi ?zza ?zzb ?zzc ?_; (case zzN => k_asm); (case zzm => k_mem); (case zzi => repeat' (first | exact Mine.IntsIn.nil | (refine Mine.IntsIn.cons (by decide) (by decide) ?_))); (case zza => assumption); (case zzb => assumption); (case zzc => exact Nat.le_of_ble_eq_true rfl); k_whole)); intro _ _ _ _))
  (k_with "subscriptTail Name Slice ref ref" => (k_here; (fail_if_success fail_if_success with_reducible show wpAny _ _ (subscriptTail _ (PySem.Expr.Slice _ _ none _) (Value.ref _) (Value.ref _)) _ _ _); k_dflt (refine' Mine.slice_V ?zzF ?zzN ?zzm ?zzz ?zzp ?zzq ?_ ?zzs ?zzt; (case zzF => k_asm); (case zzN => k_asm); (case zzm => k_mem); (case zzz => omega); (case zzp => kmk_part); (case zzq => kmk_part); (case zzs => with_unfolding_all rfl); (case zzt => kmk_pure)); intro _ _ _ _ _ l1 _ _; (try k_lt l1); (try k_sweep)))
  (k_with "binaryOp Add ref ref" => (k_here; (fail_if_success fail_if_success with_reducible show wpAny _ _ (binaryOp _ (Value.ref _) (Value.ref _)) _ _ _); k_dflt (refine' Mine.add_V ?zzF ?zzN ?zza ?zzb ?zzz ?zzy ?_; (case zzF => k_asm); (case zzN => k_asm); (case zza => k_mem); (case zzb => k_mem); (case zzz => first | omega | (simp only [List.length_append, List.length_cons, List.length_nil]; omega)); (case zzy => first | omega | (simp only [List.length_append, List.length_cons, List.length_nil]; omega))); intro _ _ _ _ l1; (try k_lt l1); (try k_sweep)))
  (k_with "last subscriptTail" => (refine Mine.stop_intro ?_))
  (k_with "eval IfExp" => (refine Mine.stop_intro ?_))
  (k_with "exec If BoolOp" => (refine Mine.stop_intro ?_))
  trivial
namespace Mine
open PySem PySem.W PyProof.Rows PySem.Calls PyProof.V PySem.Spec PySem.NumText
set_option maxHeartbeats 2000000 in
theorem bent_body {w : World} {mean : ExcName → Option Value} {mg mb : Str → Option Value} {dp un : Nat} {gd : Option (List Code)} {cn : Str} {cs : Scope} {a : Addr} {ccd : Value} {cl : List (Str × Addr)} {outer : List Env} {A₀ : Around} {base h₀ : Heap} {L : Addr} {m : Str → Option Value} {zh : Heap} {zg : Array GenState} {zd : Drawn} {zt : Nat} {zo : OsState} {Q E : Value → Shared → Prop}
    {d c rl : Addr} {o : Obj} {t tm : Tok} {p : Int} {cvs : List Value} {ns : List Int} {cn2 : Nat} {vs : List Value} {nn : Nat} {rest : List (Addr × Obj)}
    (B : Below A₀ base outer h₀) (F : Fr h₀ L zh m) (X : (Mine.top.heap_1 w.params).In h₀) (T : Top Mine.V loose mean mg mb h₀) (hk : cs.kind = .function) (hdp : dp + 10 < recursionLimit) (hun : un + 100 < cLine)
    (N : News h₀ L zh ((d, o) :: rest)) (hfd : FeedIs w o c p t) (hcm : (c, listOf cvs.toArray cn2) ∈ rest) (hrl : (rl, listOf vs.toArray nn) ∈ rest) (hoff : ∀ q ∈ rest, q.1 ≠ d) (hcd : @Ne Nat c d) (hdr : @Ne Nat d rl) 
    (hI : IntsAre cvs ns) 
    (hlen : cvs.length ≤ 1000) (hp0 : 0 ≤ p) (hp1 : p < 900) (hrows : RowsIn rest vs) (hvl : vs.length ≤ 900) (hvp : 1 ≤ vs.length)
    (hQ : ∀ r o' p' t' ws nn' tl h' tk', FeedIs w o' c p' t' → p ≤ p' → p' ≤ p + 3 → ws.length ≤ 2 * vs.length + 1 → (∀ q ∈ rest, q ∈ tl) → (∀ q ∈ tl, q.1 ≠ d) → RowsIn tl ws → (r, listOf ws.toArray nn') ∈ tl →
      Fr h₀ L h' m → News h₀ L h' ((d, o') :: tl) → Q (.ref r) ⟨h', zg, zd, tk', zo⟩) :
    wpAny (model prog w) (ktrTop dp un gd cn cs L a ccd cl outer) (call (.ref 476) [.ref d, .ref rl]) Q E ⟨zh, zg, zd, zt, zo⟩ := by
  refine wpAny_call ?_
  k_dflt (refine' code_def (binds := [(Str.ofString "feed", .ref d), (Str.ofString "rows", .ref rl)]) ?k1 ?k2 ?k3 ?k4 ?k5 ?kA ?kF ?kK ?k6 ?k7 ?k8 ?k9 ?kB ?_ ?c2 ?c3 ?c4 ?c5; (case kA => exact rfl); (case kF => exact rfl); (case kK => assumption); (case k1 => k_asm); (case k2 => k_asm); (case k3 => k_asm); (case k4 => k_asm); (case k5 => k_asm); (case k6 => k_is); (case k7 => k_is); (case k8 => ktr_room); (case k9 => exact BindsTo.of_eq rfl); (case c5 => decide); (case kB => exact locs rfl); (case c2 => exact rfl); (case c3 => exact rfl); (case c4 => exact rfl); k_whole; intro g' L' h' FG' F' N' B' X' T'; (try dsimp only); (try k_fold); (show let Ab : PySem.Around := ktrTop dp un gd cn cs L a ccd cl outer; let ev : PySem.Env := _; let Ac : PySem.Around := PySem.Around.deeper Ab ev; wpAny _ Ac (PySem.execs _ ev) _ _ _); intro Ab ev Ac; (replace hdp : PySem.Around.depth Ab + _ < _ := hdp); (replace hun : PySem.Around.units Ab + _ < _ := hun))
  k_steps
  rotate_left 2
  refine Stop.mk ?_
  (with_reducible rename Fr _ _ _ _ => Fz)
  (with_reducible rename News _ _ _ _ => Nz)
  refine wpAny_If (keep_join (s0 := ⟨zh, zg, zd, zt, zo⟩) (fun _ : Bool => True) Fz Nz ?_ ?_)
  · k_steps
    all_goals (
      (with_reducible rename Fr _ _ _ _ => Fy)
      (with_reducible rename News _ _ _ _ => Ny)
      exact keep_end Fy Ny (fun _ h => h) trivial)
  intro b1 h1 tk1 _ F1 N1
  clear Fz Nz
  cases b1
  · (try dsimp only)
    k_steps
    all_goals (
      (with_reducible rename Fr _ _ _ _ => Fz)
      (with_reducible rename News _ _ _ _ => Nz)
      have hrest := keep1_restN (d := d) (rest := rest) Nz (fun q hq => by k_mem) hoff
      refine' hQ _ _ _ _ _ _ _ _ _ ?hf ?b1 ?b2 ?b3 hrest keep1_d ?rows ?mem Fz (newsSub Nz (keep1_sub (d := d) ?hd))
      case hd => k_mem
      case mem => exact keepOff_mem (by k_mem) (off1 (by omega)) (fun _ h => absurd h List.not_mem_nil)
      case hf => assumption
      case b1 => omega
      case b2 => omega
      case b3 => first | omega | (simp only [List.length_append, List.length_cons, List.length_nil]; omega)
      case rows =>
        repeat' (first
          | with_reducible exact RowsIn.nil
          | with_reducible refine RowsIn.cons ?_ ?_
          | with_reducible refine RowsIn.app ?_ ?_
          | with_reducible exact hrows.mono hrest
          | with_reducible exact RowsIn.sub (hrows.mono hrest) (by assumption)
          | exact RowM.keep (by assumption) (fun q hq => by k_mem)))
  · (try dsimp only)
    k_steps
    refine Stop.mk ?_
    (with_reducible rename News _ _ _ _ => Nz)
    k_dflt (refine' pick_RM [d] Nz ?m ?a ?b ?c ?P ?_)
    case m => k_mem
    case a => assumption
    case b => assumption
    case c => exact Nat.le_of_ble_eq_true rfl
    case P =>
      repeat' (first | exact all_nil | refine all_cons ?_ ?_)
      all_goals first | exact RowM.sign (by k_mem) rfl (off1 (by omega)) (by unfold Mine.signsW; k_mem) | exact RowM.num (by k_mem) (off1 (by omega)) (by first | exact nw_4 | exact nw_m2) (by omega) (by omega)
    intro vp hvp
    k_steps
    refine Stop.mk ?_
    (with_reducible rename Fr _ _ _ _ => Fz)
    (with_reducible rename News _ _ _ _ => Nz)
    refine keep_join (s0 := ⟨zh, zg, zd, zt, zo⟩) (fun v : Value => ∃ n t, v = .int n t ∧ 0 ≤ n ∧ n ≤ 1) Fz Nz (wpAny_IfExp ?_) ?_
    · k_steps
      all_goals (
        (with_reducible rename Fr _ _ _ _ => Fy)
        (with_reducible rename News _ _ _ _ => Ny)
        exact keep_end Fy Ny (fun _ h => h) ⟨_, _, rfl, by omega, by omega⟩)
    rintro _ h2 tk2 ⟨n2, tn2, rfl, n20, n21⟩ F2 N2
    (try dsimp only)
    k_steps
    all_goals (
      (with_reducible rename Fr _ _ _ _ => Fz)
      (with_reducible rename News _ _ _ _ => Nz)
      have hrest := keep1_restN (d := d) (rest := rest) Nz (fun q hq => by k_mem) hoff
      refine' hQ _ _ _ _ _ _ _ _ _ ?hf ?b1 ?b2 ?b3 hrest keep1_d ?rows ?mem Fz (newsSub Nz (keep1_sub (d := d) ?hd))
      case hd => k_mem
      case mem => exact keepOff_mem (by k_mem) (off1 (by omega)) (fun _ h => absurd h List.not_mem_nil)
      case hf => assumption
      case b1 => omega
      case b2 => omega
      case b3 => first | omega | (simp only [List.length_append, List.length_cons, List.length_nil]; omega)
      case rows =>
        repeat' (first
          | with_reducible exact RowsIn.nil
          | with_reducible refine RowsIn.cons ?_ ?_
          | with_reducible refine RowsIn.app ?_ ?_
          | with_reducible exact hrows.mono hrest
          | with_reducible exact RowsIn.sub (hrows.mono hrest) (by assumption)
          | exact RowM.keep (by assumption) (fun q hq => by k_mem)))
  all_goals (
    (with_reducible rename Fr _ _ _ _ => Fz)
    (with_reducible rename News _ _ _ _ => Nz)
    have hrest := keep1_restN (d := d) (rest := rest) Nz (fun q hq => by k_mem) hoff
    refine' hQ _ _ _ _ _ _ _ _ _ ?hf ?b1 ?b2 ?b3 hrest keep1_d ?rows ?mem Fz (newsSub Nz (keep1_sub (d := d) ?hd))
    case hd => k_mem
    case mem => exact keepOff_mem (by k_mem) (off1 (by omega)) (fun _ h => absurd h List.not_mem_nil)
    case hf => assumption
    case b1 => omega
    case b2 => omega
    case b3 => first | omega | (simp only [List.length_append, List.length_cons, List.length_nil]; omega)
    case rows =>
      repeat' (first
        | with_reducible exact RowsIn.nil
        | with_reducible refine RowsIn.cons ?_ ?_
        | with_reducible refine RowsIn.app ?_ ?_
        | with_reducible exact hrows.mono hrest
        | with_reducible exact RowsIn.sub (hrows.mono hrest) (by assumption)
        | exact RowM.keep (by assumption) (fun q hq => by k_mem)))
end Mine
namespace Mine
open PySem PySem.W PyProof.Rows PySem.Calls PyProof.V PySem.Spec
section
variable {pg : Program} {w : World} {A : Around} {E : Value → Shared → Prop} {zh : Heap} {zg : Array GenState} {zd : Drawn} {zt : Nat} {zo : OsState} {env : Env} {h₀ : Heap} {target : PySem.Expr} {body : List Stmt} {Q : Flow → Shared → Prop}
/-- a for with any target over a list of the ledger that no turn touches -/
theorem list_T {l : Addr} {vs : List Value} {nn : Nat} {m₀ : Str → Option Value} {news : List (Addr × Obj)} (J : Nat → (Str → Option Value) → List (Addr × Obj) → Prop)
    (hh : A.handled = none) (hJl : ∀ i m nx, J i m nx → (l, listOf vs.toArray nn) ∈ nx) (F : Fr h₀ env.locals zh m₀) (N : News h₀ env.locals zh news) (hj : J 0 m₀ news)
    (turn : ∀ i v m₁ nx h tk own, vs[i]? = some v → OwnOff own (nx.map (·.1)) → J i m₁ nx → Fr h₀ env.locals h m₁ → News h₀ env.locals h (nx ++ own) →
      wpAny (model pg w) A (assign target env v) (fun _ s₃ => wpAny (model pg w) A (execs body env) (InvPostG h₀ env.locals (J (i + 1)) own ⟨h, zg, zd, tk, zo⟩ Q) E s₃) E ⟨h, zg, zd, tk, zo⟩)
    (done : ∀ m₁ nx h tk, J vs.length m₁ nx → Fr h₀ env.locals h m₁ → News h₀ env.locals h nx → Q .next ⟨h, zg, zd, tk, zo⟩) :
    wpAny (model pg w) A (pyIter (.ref l)) (fun it s₂ => TurnsAt pg w A h₀ env target body Q E it s₂) E ⟨zh, zg, zd, zt, zo⟩ := by
  have hl := hJl _ _ _ hj
  have hol : zh.get? l = some (listOf vs.toArray nn) := (N _ hl).1
  have hls : zh.IsList l vs.toArray := ⟨_, hol, rfl, nn, rfl⟩
  have hlt : l < zh.objs.size := Heap.lt_size hol
  have hne : l ≠ zh.objs.size := Nat.ne_of_lt hlt
  refine wpAny_pyIter_list hls ?_
  have W := Walks.list (prog := pg) (w := w) hh zh.objs.size l hne vs.toArray
  rw [List.size_toArray] at W
  refine ⟨_, _, _, vs.length, _, _, _, m₀, news, J, rfl, KTurns.ofWalks W (fun i v s Q E st q => letGo_listiter st.1 q), ?_, ?_, ?_, ⟨⟨_, Heap.get?_push_size _ rfl, rfl, rfl⟩, hls.at fun o e => Heap.get?_push_of_some _ e⟩, F.push _, (fun p hp => ⟨Heap.get?_push_of_some _ (N p hp).1, (N p hp).2⟩), hj, ?_, ?_⟩
  · intro hm
    rcases List.mem_cons.mp hm with e | hm
    · exact absurd F.ns.lt (e ▸ Nat.lt_irrefl _)
    · exact (N _ hl).2.1 ((List.mem_singleton.mp hm).symm)
  · intro b hb
    rw [List.mem_singleton.mp hb]
    exact next_is_new F
  · intro p hp hI
    exact absurd (Heap.lt_size (N p hp).1) ((List.mem_singleton.mp hI) ▸ Nat.lt_irrefl _)
  · intro i v m₁ news₁ hh' tk' own hin hP hJ hoff hown hget hfp hst F₁ N₁
    have hP' : vs[i]? = some v := by simpa using hP
    have hl₁ := hJl _ _ _ hJ
    have hI0 : h₀.get? zh.objs.size = none := next_is_new F
    obtain ⟨⟨oI, hoI, hoI'⟩, hlst⟩ := hst
    have hIown : (zh.objs.size, oI) ∈ own := hfp _ (List.mem_cons.mpr (.inl rfl)) hI0 _ hoI
    have hsep : OwnOff [(zh.objs.size, oI)] (news₁.map (·.1)) := by
      intro p hp b hb e
      obtain ⟨q, hq, rfl⟩ := List.mem_map.mp hb
      rw [List.mem_singleton.mp hp] at e
      exact hoff q hq (List.mem_singleton.mpr e.symm)
    have N₂ : News h₀ env.locals hh' (news₁ ++ [(zh.objs.size, oI)]) := fun p hp => (List.mem_append.mp hp).elim (fun h => N₁ p (List.mem_append.mpr (.inr h))) fun h => N₁ p (List.mem_append.mpr (.inl (List.mem_singleton.mp h ▸ hIown)))
    have hlo : hh'.get? l = some (listOf vs.toArray nn) := (N₁ _ (List.mem_append.mpr (.inr hl₁))).1
    refine wpAny_mono (turn i v m₁ news₁ hh' tk' _ hP' hsep hJ F₁ N₂) (fun _ s₃ q => wpAny_mono q (fun f s₂ p => ?_) fun _ _ e => e) fun _ _ e => e
    have fin : InvEndG h₀ env.locals (J (i + 1)) [(zh.objs.size, oI)] ⟨hh', zg, zd, tk', zo⟩ s₂ → LoopStepU h₀ env.locals [zh.objs.size] own (J (i + 1)) ⟨hh', zg, zd, tk', zo⟩ .next s₂ := by
      rintro ⟨h', tk, m', news', nx, e, F', N', hn, ho, ha, hm⟩
      have hl₂ := hJl _ _ _ hm
      refine ⟨rfl, h', tk, m', nx, e, F', fun p hp => ?_, fun p hp hq => ?_, hm⟩
      · rcases List.mem_append.mp hp with h | h
        · have hg := hget p h
          rcases List.mem_cons.mp (hown p h) with h1 | h1
          · rw [h1, hoI] at hg
            have : p = (zh.objs.size, oI) := Prod.ext h1 (Option.some.inj hg).symm
            rw [this]
            exact N' _ (ho _ (.head _))
          · have h2 := List.mem_singleton.mp h1
            rw [h2, hlo] at hg
            have : p = (l, listOf vs.toArray nn) := Prod.ext h2 (Option.some.inj hg).symm
            rw [this]
            exact N' _ (hn _ hl₂)
        · exact N' p (hn p h)
      · exact ha _ (.head _) p.1 (List.mem_map.mpr ⟨p, hp, rfl⟩) (List.mem_singleton.mp hq).symm
    cases f with
    | ret v => exact .ret p
    | brk => exact .brk p
    | next => exact .next (fin p)
    | cont => exact .cont (fin p)
  · intro h' tk m' news' F' N' _ hJ
    exact done m' news' h' tk hJ F' N'
end
end Mine
namespace Mine
open PySem PySem.W PyProof.Rows PySem.Calls PyProof.V PySem.Spec PySem.NumText

/-- a token as the law keeps it: its worth, its signs, its place -/
structure TokD where
  worth : Option Int
  txt : List Nat
  pos : Nat
def signL : List (List Nat) := [[46, 46], [123], [125], [44], [120], [58]]
def lateL : List (List Nat) := [[46, 46], [123], [125], [44], [58]]
def gapL : List (List Nat) := [[], [32], [10], [32, 37, 32, 52, 10], [9, 32]]
def RowD (w : Option Int) (x : List Nat) : Prop := (w = none ∧ x ∈ signL) ∨ ∃ n, w = some n ∧ NumW n x ∧ -10 ^ 33 < n ∧ n < 10 ^ 33
inductive Built : List Nat → List TokD → Bool → Prop
  | nil : Built [] [] true
  | snoc {t : List Nat} {ks : List TokD} {b : Bool} {g x : List Nat} {w : Option Int} : Built t ks b → g ∈ gapL → RowD w x → (g ≠ [] ∨ b = true ∨ x ∈ lateL) → Built (t ++ g ++ x) (ks ++ [⟨w, x, (t ++ g).length⟩]) (decide (x ∈ lateL))
/-- the rest of a text, from the end of a token on -/
inductive Sfx : Bool → List Nat → Nat → List TokD → Prop
  | fin {b : Bool} {off : Nat} : Sfx b [] off [⟨none, [], off⟩]
  | cons {b : Bool} {g x r : List Nat} {off : Nat} {w : Option Int} {ks : List TokD} : g ∈ gapL → RowD w x → (g ≠ [] ∨ b = true ∨ x ∈ lateL) → Sfx (decide (x ∈ lateL)) r (off + g.length + x.length) ks → Sfx b (g ++ x ++ r) off (⟨w, x, off + g.length⟩ :: ks)
theorem Built.sfx {t : List Nat} {ks : List TokD} {b : Bool} (h : Built t ks b) : ∀ {r : List Nat} {ks' : List TokD}, Sfx b r t.length ks' → Sfx true (t ++ r) 0 (ks ++ ks') := by
  induction h with
  | nil => intro r ks' k; exact k
  | @snoc t ks b g x w h hg hr hc ih =>
    intro r ks' k
    have e1 : t.length + g.length + x.length = (t ++ g ++ x).length := by simp only [List.length_append]
    have e2 : (⟨w, x, (t ++ g).length⟩ : TokD) = ⟨w, x, t.length + g.length⟩ := by rw [List.length_append]
    have := ih (Sfx.cons (b := b) hg hr hc (by rw [e1]; exact k))
    rw [e2]
    simpa [List.append_assoc] using this
theorem Built.fin {t : List Nat} {ks : List TokD} {b : Bool} (h : Built t ks b) : Sfx true t 0 (ks ++ [⟨none, [], t.length⟩]) := by
  have := h.sfx (r := []) .fin
  rwa [List.append_nil] at this

def worthIs (v : Value) (w : Option Int) : Prop := (v = .none ∧ w = none) ∨ ∃ n t, v = .int n t ∧ w = some n
def TokV (news : List (Addr × Obj)) (v : Value) (k : TokD) : Prop := ∃ a wv x t t2, v = .ref a ∧ (a, tupO [wv, .str x t, .int (k.pos : Int) t2]) ∈ news ∧ x.cps.toList = k.txt ∧ worthIs wv k.worth
inductive ToksV (news : List (Addr × Obj)) : List Value → List TokD → Prop
  | nil : ToksV news [] []
  | cons {v : Value} {k : TokD} {vs : List Value} {ks : List TokD} : TokV news v k → ToksV news vs ks → ToksV news (v :: vs) (k :: ks)
theorem TokV.mono {l l' : List (Addr × Obj)} {v : Value} {k : TokD} (h : TokV l v k) (hs : ∀ q ∈ l, q ∈ l') : TokV l' v k := by
  obtain ⟨a, wv, x, t, t2, e, hm, r⟩ := h
  exact ⟨a, wv, x, t, t2, e, hs _ hm, r⟩
theorem ToksV.mono {l l' : List (Addr × Obj)} {vs : List Value} {ks : List TokD} (h : ToksV l vs ks) (hs : ∀ q ∈ l, q ∈ l') : ToksV l' vs ks := by
  induction h with
  | nil => exact .nil
  | cons h _ ih => exact .cons (h.mono hs) ih
theorem ToksV.app {l : List (Addr × Obj)} {vs us : List Value} {ks js : List TokD} (h : ToksV l vs ks) (k : ToksV l us js) : ToksV l (vs ++ us) (ks ++ js) := by
  induction h with
  | nil => exact k
  | cons h _ ih => exact .cons h ih
theorem ToksV.length {l : List (Addr × Obj)} {vs : List Value} {ks : List TokD} (h : ToksV l vs ks) : vs.length = ks.length := by
  induction h with
  | nil => rfl
  | cons _ _ ih => rw [List.length_cons, List.length_cons, ih]
theorem ToksV.get {l : List (Addr × Obj)} {vs : List Value} {ks : List TokD} (h : ToksV l vs ks) : ∀ {i : Nat} {v : Value}, vs[i]? = some v → ∃ k, ks[i]? = some k ∧ TokV l v k := by
  induction h with
  | nil => intro i v e; cases e
  | cons h _ ih =>
    intro i v e
    cases i with
    | zero => cases e; exact ⟨_, rfl, h⟩
    | succ i => exact ih e
theorem cps_ofString (x : String) : (Str.ofString x).cps.toList = x.toList.map Char.toNat := signs_ofString x
theorem str_ext {x y : Str} (h : x.cps.toList = y.cps.toList) : x = y := by
  cases x; cases y
  simp only at h
  rw [Array.toList_inj.mp h]
theorem sign_map : signsW.map (fun x => x.cps.toList) = signL := by decide +kernel
theorem rowD_of {wv : Value} {x : Str} (h : RowOk wv x) : ∃ w, worthIs wv w ∧ RowD w x.cps.toList := by
  rcases h with ⟨rfl, hx⟩ | ⟨n, t, rfl, r⟩
  · refine ⟨none, .inl ⟨rfl, rfl⟩, .inl ⟨rfl, ?_⟩⟩
    rw [← sign_map]
    exact List.mem_map.mpr ⟨x, hx, rfl⟩
  · exact ⟨some n, .inr ⟨n, t, rfl, rfl⟩, .inr ⟨n, rfl, r⟩⟩
end Mine
namespace Mine
open PySem PySem.W PyProof.Rows PySem.Calls PyProof.V PySem.Spec PySem.NumText
theorem len_cps (x : Str) : x.cps.toList.length = x.length := by simp [Str.length]
section
variable {pg : Program} {w : World} {A : Around} {E : Value → Shared → Prop} {zh : Heap} {zg : Array GenState} {zd : Drawn} {zt : Nat} {zo : OsState} {h₀ : Heap} {L a : Addr} {m : Str → Option Value} {news : List (Addr × Obj)} {value slice : PySem.Expr} {Q : Value → Shared → Prop}
theorem late_any (x : Str) : ([Str.ofString "..", Str.ofString "{", Str.ofString "}", Str.ofString ",", Str.ofString ":"].any (· == x)) = decide (x.cps.toList ∈ lateL) := by
  have e : lateL = ([Str.ofString "..", Str.ofString "{", Str.ofString "}", Str.ofString ",", Str.ofString ":"]).map (fun x => x.cps.toList) := by decide +kernel
  rw [e]
  by_cases h : x ∈ [Str.ofString "..", Str.ofString "{", Str.ofString "}", Str.ofString ",", Str.ofString ":"]
  · rw [decide_eq_true (List.mem_map.mpr ⟨x, h, rfl⟩)]
    exact List.any_eq_true.mpr ⟨x, h, by simp⟩
  · rw [decide_eq_false]
    · exact List.any_eq_false.mpr fun y hy hc => h (by rw [← eq_of_beq hc]; exact hy)
    · intro hc
      obtain ⟨y, hy, he⟩ := List.mem_map.mp hc
      exact h (str_ext he ▸ hy)
theorem late_T {x : Str} {u t1 t2 t3 t4 t5 : Tok} {nn : Nat} (N : News h₀ L zh news)
    (hm : (a, ({ cls := .type "tuple", data := .seq #[.str (Str.ofString "..") t1, .str (Str.ofString "{") t2, .str (Str.ofString "}") t3, .str (Str.ofString ",") t4, .str (Str.ofString ":") t5] nn } : Obj)) ∈ news)
    (h : ∀ b, b = decide (x.cps.toList ∈ lateL) → Q (.bool b) ⟨zh, zg, zd, zt, zo⟩) : wpAny (model pg w) A (compareOp .In (.str x u) (.ref a)) Q E ⟨zh, zg, zd, zt, zo⟩ :=
  in_tuple_strs (ys := [Str.ofString "..", Str.ofString "{", Str.ofString "}", Str.ofString ",", Str.ofString ":"]) ⟨_, (N _ hm).1, rfl, nn, rfl⟩ (by repeat constructor) (by rw [late_any]; exact h _ rfl)
def GapS (v : Value) : Prop := ∃ y t, v = .str y t ∧ y.cps.toList ∈ gapL ∧ y.cps.toList ≠ [] ∧ y.length ≤ 5
theorem pick_G {us : List Value} {nn : Nat} {k : Int} {u : Tok} (N : News h₀ L zh news) (hm : (a, ({ cls := .type "tuple", data := .seq us.toArray nn } : Obj)) ∈ news)
    (h0 : 0 ≤ k) (h1 : k < us.length) (hb : us.length < 100) (hP : ∀ v ∈ us, GapS v) (h : ∀ y t, y.cps.toList ∈ gapL → y.cps.toList ≠ [] → y.length ≤ 5 → Q (.str y t) ⟨zh, zg, zd, zt, zo⟩)
    (hs : subscripted slice false (.ref a) (.int k u) = operate [.ref a, .int k u] (getItem (.ref a) (.int k u)) := by with_unfolding_all rfl) :
    wpAny (model pg w) A (subscriptTail value slice (.ref a) (.int k u)) Q E ⟨zh, zg, zd, zt, zo⟩ :=
  pick_R GapS N hm h0 h1 hb hP (fun v ⟨y, t, e, a1, a2, a3⟩ => e ▸ h y t a1 a2 a3) hs
end
end Mine
theorem Mine.rw_P06b_laid : True := by
  k_with_none
  (k_with "subscriptTail" => (k_here; (fail_if_success fail_if_success with_reducible show wpAny _ _ (subscriptTail _ _ (Value.ref _) (Value.str _ _)) _ _ _); k_dflt (refine' Mine.d_get ?zzN ?zzm ?zzo ?zzf ?_; (case zzN => k_asm); (case zzm => k_mem); (case zzo => with_reducible assumption); (case zzf => exact rfl); k_whole)))
  (k_with "setItem ref str" => (k_here; (fail_if_success fail_if_success with_reducible show wpAny _ _ (setItem (Value.ref _) (Value.str _ _) _) _ _ _); k_dflt (refine' Mine.d_set ?zzF ?zzN ?zzU ?zzo ?_ ?zzz; (case zzF => k_asm); (case zzN => k_asm); (case zzU => k_updF); (case zzo => with_reducible assumption); (case zzz => exact Nat.le_of_ble_eq_true rfl)); intro _ _ _ _ _; (try k_sweep)))
  (k_with "call builtin:len" => (k_here; (fail_if_success fail_if_success with_reducible show wpAny _ _ (call (Value.builtin "len") [Value.ref _]) _ _ _); k_dflt (refine' Mine.len_L ?zzN ?zzm ?zzb ?_; (case zzN => k_asm); (case zzm => k_mem); (case zzb => omega); k_whole)))
  (k_with "subscriptTail" => (k_here; (fail_if_success fail_if_success with_reducible show wpAny _ _ (subscriptTail _ _ (Value.ref _) (Value.int _ _)) _ _ _); k_dflt (refine' Mine.item_L ?zzN ?zzm ?zza ?zzb ?zzc ?_; (case zzN => k_asm); (case zzm => k_mem); (case zza => omega); (case zzb => omega); (case zzc => omega); k_whole); intro _ _))
  (k_with "subscriptTail" => (k_here; (fail_if_success fail_if_success with_reducible show wpAny _ _ (subscriptTail _ _ (Value.ref _) (Value.int _ _)) _ _ _); k_dflt (refine' Mine.item_LI ?zzN ?zzm ?zzi ?zza ?zzb ?zzc ?_; (case zzN => k_asm); (case zzm => k_mem); (case zzi => with_reducible assumption); (case zza => omega); (case zzb => omega); (case zzc => omega); k_whole); intro _ _))
  (k_with "ite" => first | with_reducible refine PyProof.Rows.ite_tt ?_ | with_reducible refine PyProof.Rows.ite_ff ?_)
  (k_with "execs cons" => (k_here; (try k_gentoks); (with_reducible refine wpAny_execs_cons ?_); (try dsimp only); k_fold))
  (k_with "eval Constant int" => (with_reducible refine Mine.constI ?_))
  (k_with "eval Constant str" => (with_reducible refine Mine.constS ?_))
  (k_with "binaryOp Add int int" => (with_reducible refine Mine.addI ?_))
  (k_with "call ref" => (k_here; (fail_if_success fail_if_success with_reducible show wpAny _ _ (call (Value.ref 455) [Value.ref _, Value.int _ _]) _ _ _); k_dflt (refine' Mine.dip_K ?zzB ?zzF ?zzX ?zzT ?zzhk ?zzhd ?zzhu ?zzN ?zzU ?zzfd ?zzc ?zzcd ?zzhI ?zzl ?zzp0 ?zzp1 ?zzm0 ?zzm1 ?_; (case zzB => k_asm); (case zzF => k_asm); (case zzX => k_asm); (case zzT => k_asm); (case zzhk => first | exact rfl | assumption); (case zzN => k_asm); (case zzU => k_updF); (case zzfd => with_reducible assumption); (case zzc => k_mem); (case zzcd => omega); (case zzhI => with_reducible assumption); (case zzhd => ktr_room); (case zzhu => ktr_units); (case zzl => omega); (case zzp0 => omega); (case zzp1 => omega); (case zzm0 => omega); (case zzm1 => omega)); intro _ _ _ _ _ _ _ _ _ _ _; (try dsimp only); (try k_fold); (try k_sweep)))
  (k_with "call type:str" => (k_here; (fail_if_success fail_if_success with_reducible show wpAny _ _ (call (Value.type "str") [Value.int _ _]) _ _ _); (refine Mine.str_I ?zzz0 ?zzz1 ?_; (case zzz0 => omega); (case zzz1 => omega)); intro _ _ _; (try dsimp only)))
  (k_with "call ref" => (k_here; (fail_if_success fail_if_success with_reducible show wpAny _ _ (call (Value.ref 462) [Value.ref _, Value.int _ _]) _ _ _); k_dflt (refine' Mine.number_K ?zzB ?zzF ?zzX ?zzT ?zzhk ?zzhd ?zzhu ?zzN ?zzU ?zzfd ?zzc ?zzcd ?zzhI ?zzl ?zzp0 ?zzp1 ?zzm0 ?zzm1 ?_; (case zzB => k_asm); (case zzF => k_asm); (case zzX => k_asm); (case zzT => k_asm); (case zzhk => first | exact rfl | assumption); (case zzN => k_asm); (case zzU => k_updF); (case zzfd => with_reducible assumption); (case zzc => k_mem); (case zzcd => omega); (case zzhI => with_reducible assumption); (case zzhd => ktr_room); (case zzhu => ktr_units); (case zzl => omega); (case zzp0 => omega); (case zzp1 => omega); (case zzm0 => omega); (case zzm1 => omega)); intro _ _ _ _ _ _ _ _ _ _ _ _ hlt9; k_lt hlt9; (try dsimp only); (try k_fold); (try k_sweep)))
  (k_with "call builtin:list.append" => (k_here; (fail_if_success fail_if_success with_reducible show wpAny _ _ (call (Value.builtin _) [Value.ref _, _]) _ _ _); k_dflt (refine' Mine.append_V ?zzF ?zzN ?zzU ?zzz ?_; (case zzF => k_asm); (case zzN => k_asm); (case zzU => k_updF); (case zzz => first | omega | (simp only [List.length_append, List.length_cons, List.length_nil]; omega))); intro _ _ N'; (try dsimp only at N'); (try k_sweep)))
  (k_with "call builtin:list.extend" => (k_here; (fail_if_success fail_if_success with_reducible show wpAny _ _ (call (Value.builtin _) [Value.ref _, Value.ref _]) _ _ _); k_dflt (refine' Mine.extend_V ?zzF ?zzN ?zzb ?zze ?zzU ?zzz ?zzy ?_; (case zzF => k_asm); (case zzN => k_asm); (case zzb => k_mem); (case zzU => k_updF); (case zze => exact Nat.succ_ne_zero _); (case zzz => first | omega | (simp only [List.length_append, List.length_cons, List.length_nil]; omega)); (case zzy => exact Nat.le_of_ble_eq_true rfl)); intro _ _ N'; (try dsimp only at N'); (try k_sweep)))
  (k_with "pyIter ref" => (refine Mine.stop_intro ?_))
  (k_with "exec For Name Call cons nil" => (k_here; (rename Fr _ _ _ _ => lF'); (with_unfolding_all refine' For_invVF lF' ?zzk1 ?zzk2 ?_; (case zzk1 => exact rfl); (case zzk2 => exact rfl); k_whole)))
  (k_with "call type:range" => (k_here; (fail_if_success fail_if_success with_reducible show wpAny _ _ (call _ [Value.int _ _]) _ _ _); k_dflt (refine' Mine.range_1 ?zzF ?zzN ?_; (case zzF => k_asm); (case zzN => k_asm)); intro _ _ _ _ _ _ _ _; (try k_sweep)))
  (k_with "subscriptTail" => (k_here; (fail_if_success fail_if_success with_reducible show wpAny _ _ (subscriptTail _ _ (Value.ref _) (Value.int _ _)) _ _ _); k_dflt (first | (refine' Mine.pick_T (-3) 9 ?zzN ?zzm ?zzi ?zza ?zzb ?zzc ?_; (case zzN => k_asm); (case zzm => k_mem); (case zzi => repeat' (first | exact Mine.IntsIn.nil | (refine Mine.IntsIn.cons (by decide) (by decide) ?_))); (case zza => assumption); (case zzb => assumption); (case zzc => exact Nat.le_of_ble_eq_true rfl); k_whole) | (refine' Mine.pick_T (-3) (10 ^ 30) ?zzN ?zzm ?zzi ?zza ?zzb ?zzc ?_; (case zzN => k_asm); (case zzm => k_mem); (case zzi => repeat' (first | exact Mine.IntsIn.nil | (refine Mine.IntsIn.cons (by decide) (by decide) ?_))); (case zza => assumption); (case zzb => assumption); (case zzc => exact Nat.le_of_ble_eq_true rfl); k_whole)); intro _ _ _ _))
  (k_with "subscriptTail Name Slice ref ref" => (k_here; (fail_if_success fail_if_success with_reducible show wpAny _ _ (subscriptTail _ (PySem.Expr.Slice _ _ none _) (Value.ref _) (Value.ref _)) _ _ _); k_dflt (refine' Mine.slice_V ?zzF ?zzN ?zzm ?zzz ?zzp ?zzq ?_ ?zzs ?zzt; (case zzF => k_asm); (case zzN => k_asm); (case zzm => k_mem); (case zzz => omega); (case zzp => kmk_part); (case zzq => kmk_part); (case zzs => with_unfolding_all rfl); (case zzt => kmk_pure)); intro _ _ _ _ _ l1 _ _; (try k_lt l1); (try k_sweep)))
  (k_with "binaryOp Add ref ref" => (k_here; (fail_if_success fail_if_success with_reducible show wpAny _ _ (binaryOp _ (Value.ref _) (Value.ref _)) _ _ _); k_dflt (refine' Mine.add_V ?zzF ?zzN ?zza ?zzb ?zzz ?zzy ?_; (case zzF => k_asm); (case zzN => k_asm); (case zza => k_mem); (case zzb => k_mem); (case zzz => first | omega | (simp only [List.length_append, List.length_cons, List.length_nil]; omega)); (case zzy => first | omega | (simp only [List.length_append, List.length_cons, List.length_nil]; omega))); intro _ _ _ _ l1; (try k_lt l1); (try k_sweep)))
  (k_with "exec For Tuple Name cons nil" => (k_here; (rename Fr _ _ _ _ => lF'); (with_unfolding_all refine' For_turns lF' ?_; k_whole)))
  (k_with "compareOp In str ref" => (k_here; (fail_if_success fail_if_success with_reducible show wpAny _ _ (compareOp CmpOp.In (Value.str _ _) (Value.ref _)) _ _ _); k_dflt (refine' Mine.late_T ?zzN ?zzm ?_; (case zzN => k_asm); (case zzm => k_mem)); intro _ _))
  (k_with "subscriptTail" => (k_here; (fail_if_success fail_if_success with_reducible show wpAny _ _ (subscriptTail _ _ (Value.ref _) (Value.int _ _)) _ _ _); k_dflt (refine' Mine.pick_G ?zzN ?zzm ?zza ?zzb ?zzc ?zzP ?_; (case zzN => k_asm); (case zzm => k_mem); (case zza => assumption); (case zzb => assumption); (case zzc => exact Nat.le_of_ble_eq_true rfl); (case zzP => repeat' (first | exact Mine.all_nil | refine Mine.all_cons ⟨_, _, rfl, by decide +kernel, by decide +kernel, by decide +kernel⟩ ?_))); intro _ _ _ _ _))
  (k_with "exec If BoolOp" => (refine Mine.stop_intro ?_))
  trivial
namespace Mine
open PySem PySem.W PyProof.Rows PySem.Calls PyProof.V PySem.Spec PySem.NumText
structure LaidJ (w : World) (d c rl fl : Addr) (rest : List (Addr × Obj)) (p : Int) (i : Nat) (m : Str → Option Value) (nx : List (Addr × Obj)) : Prop where
  out : ∃ (o' : Obj) (p' : Int) (t' : Tok) (X : Str) (tX : Tok) (b : Bool) (fvs : List Value) (fnn : Nat) (toks : List TokD) (tl : List (Addr × Obj)), nx = (d, o') :: (fl, listOf fvs.toArray fnn) :: tl ∧ FeedIs w o' c p' t' ∧ p ≤ p' ∧ p' ≤ p + (i : Int) ∧ X.length ≤ 100 * i ∧ Built X.cps.toList toks b ∧ toks.length = i ∧
    (∀ q ∈ rest, q ∈ tl) ∧ (∀ q ∈ tl, q.1 ≠ d) ∧ (∀ q ∈ tl, q.1 ≠ fl) ∧ ToksV tl fvs toks ∧
    m (Str.ofString "feed") = some (.ref d) ∧ m (Str.ofString "rows") = some (.ref rl) ∧ m (Str.ofString "text") = some (.str X tX) ∧ m (Str.ofString "found") = some (.ref fl) ∧ m (Str.ofString "is_sign") = some (.bool b)
theorem LaidJ.list {w : World} {d c rl fl : Addr} {rest : List (Addr × Obj)} {p : Int} {i : Nat} {m : Str → Option Value} {nx : List (Addr × Obj)} {vs : List Value} {nn : Nat} (hrl : (rl, listOf vs.toArray nn) ∈ rest) (h : LaidJ w d c rl fl rest p i m nx) : (rl, listOf vs.toArray nn) ∈ nx := by
  obtain ⟨o2, p2, t2, X, tX, b, fvs, fnn, toks, tl, rfl, f1, f2, f3, f4, f5, f6, f7, _⟩ := h.out
  exact .tail _ (.tail _ (f7 _ hrl))
theorem laid_start {w : World} {d c rl fl : Addr} {rest news' : List (Addr × Obj)} {p : Int} {g h' : Heap} {L : Nat} {m' : Str → Option Value} {o' : Obj} {t' : Tok} {tX : Tok} {fnn : Nat}
    (N : News g L h' news') (hf : FeedIs w o' c p t') (hrest : ∀ q ∈ rest, q ∈ keepOff [d, fl] [] news')
    (e1 : m' (Str.ofString "feed") = some (.ref d)) (e2 : m' (Str.ofString "rows") = some (.ref rl)) (e3 : m' (Str.ofString "text") = some (.str (Str.ofString "") tX)) (e4 : m' (Str.ofString "found") = some (.ref fl)) (e5 : m' (Str.ofString "is_sign") = some (.bool true)) :
    LaidJ w d c rl fl rest p 0 m' ((d, o') :: (fl, listOf ([] : List Value).toArray fnn) :: keepOff [d, fl] [] news') :=
  ⟨o', p, t', _, tX, true, [], fnn, [], _, rfl, hf, by omega, by omega, by decide +kernel, by rw [cps_nil]; exact .nil, rfl, hrest, keep_d, keep_rl, .nil, e1, e2, e3, e4, e5⟩
theorem laid_end {w : World} {d c rl fl : Addr} {rest own news' : List (Addr × Obj)} {p p' : Int} {i : Nat} {g h' : Heap} {L tk : Nat} {m' : Str → Option Value} {s₁ : Shared} {o' : Obj} {t' : Tok} {X : Str} {tX : Tok} {b : Bool} {fvs : List Value} {fnn : Nat} {toks : List TokD}
    (F : Fr g L h' m') (N : News g L h' news') (hd : (d, o') ∈ news') (hr : (fl, listOf fvs.toArray fnn) ∈ news') (hf : FeedIs w o' c p' t')
    (e1 : m' (Str.ofString "feed") = some (.ref d)) (e2 : m' (Str.ofString "rows") = some (.ref rl)) (e3 : m' (Str.ofString "text") = some (.str X tX)) (e4 : m' (Str.ofString "found") = some (.ref fl)) (e5 : m' (Str.ofString "is_sign") = some (.bool b))
    (hB : Built X.cps.toList toks b) (b1 : p ≤ p') (b2 : p' ≤ p + ((i + 1 : Nat) : Int)) (b3 : X.length ≤ 100 * (i + 1)) (b4 : toks.length = i + 1)
    (hrest : ∀ q ∈ rest, q ∈ keepOff [d, fl] own news') (w1 : ∀ p ∈ own, p.1 ≠ d) (w2 : ∀ p ∈ own, p.1 ≠ fl) (ho : ∀ p ∈ own, p ∈ news') (hT : ToksV (keepOff [d, fl] own news') fvs toks) :
    InvEndG g L (LaidJ w d c rl fl rest p (i + 1)) own s₁ { s₁ with heap := h', toks := tk } :=
  InvEndG.intro F N ⟨_, _, _, _, _, _, _, _, _, _, rfl, hf, b1, b2, b3, hB, b4, hrest, keep_d, keep_rl, hT, e1, e2, e3, e4, e5⟩ (keep_own w1 w2) (keep_sub hd hr) ho
theorem rowD_len {w : Option Int} {x : List Nat} (h : RowD w x) : x.length ≤ 61 := by
  rcases h with ⟨_, hx⟩ | ⟨n, _, ⟨neg, ds, rfl, _, _, hl, _⟩, _⟩
  · have : ∀ y ∈ signL, y.length ≤ 61 := by decide
    exact this x hx
  · cases neg
    · show ds.length ≤ 61
      omega
    · show (45 :: ds).length ≤ 61
      rw [List.length_cons]
      omega
theorem TokV.new {l own : List (Addr × Obj)} {M : List Addr} {a : Addr} {wv : Value} {w0 : Option Int} {x : Str} {t t2 : Tok} {n : Nat} {nn : Nat} (h : (a, ({ cls := .type "tuple", data := .seq #[wv, .str x t, .int (n : Int) t2] nn } : Obj)) ∈ l) (h0 : nn = 0) (h1 : a ∉ M) (h2 : ∀ p ∈ own, p.1 ≠ a) (hw : worthIs wv w0) :
    TokV (keepOff M own l) (.ref a) ⟨w0, x.cps.toList, n⟩ := by
  subst h0
  exact ⟨a, wv, x, t, t2, rfl, keepOff_mem h h1 h2, rfl, hw⟩
/-- what the gap's `if` leaves of the text -/
structure LaidP (X : Str) (b c : Bool) (X' : Str) : Prop where
  out : ∃ gl, X'.cps.toList = X.cps.toList ++ gl ∧ gl ∈ gapL ∧ (gl ≠ [] ∨ b = true ∨ c = true)
  len : X'.length ≤ X.length + 5
theorem LaidP.gap {X y : Str} {b c : Bool} (h1 : y.cps.toList ∈ gapL) (h2 : y.cps.toList ≠ []) (h3 : y.length ≤ 5) : LaidP X b c (X ++ y) :=
  ⟨⟨_, cps_app _ _, h1, .inl h2⟩, by rw [Str.length_append]; omega⟩
theorem LaidP.no {X : Str} {b c : Bool} (h : b = true ∨ c = true) : LaidP X b c X := ⟨⟨[], (List.append_nil _).symm, by decide, .inr h⟩, by omega⟩
theorem built_J {X X' x0 : Str} {toks : List TokD} {b bl : Bool} {w0 : Option Int} (h : Built X.cps.toList toks b) (hp : LaidP X b (decide (x0.cps.toList ∈ lateL)) X') (hr : RowD w0 x0.cps.toList) (hb : bl = decide (x0.cps.toList ∈ lateL)) :
    Built (X' ++ x0).cps.toList (toks ++ [⟨w0, x0.cps.toList, X'.length⟩]) bl := by
  obtain ⟨gl, e, h1, h2⟩ := hp.out
  rw [cps_app, hb, ← len_cps, e]
  exact h.snoc h1 hr (h2.imp id (.imp id of_decide_eq_true))
structure TxtJ (x : Str) (P : Str → Prop) (g : Heap) (L : Addr) (m : Str → Option Value) (l : List (Addr × Obj)) (s0 : Shared) (fl : Flow) (s' : Shared) : Prop where
  out : ∃ (X' : Str) (t' : Tok) (h' : Heap) (tk' : Nat), fl = .next ∧ s' = { s0 with heap := h', toks := tk' } ∧ P X' ∧ Fr g L h' (fun y => if y = x then some (.str X' t') else m y) ∧ News g L h' l
section
variable {M : Model} {A : Around} {E : Value → Shared → Prop} {zh : Heap} {zg : Array GenState} {zd : Drawn} {zt : Nat} {zo : OsState} {s0 : Shared} {g hz h' : Heap} {L : Addr} {m mz : Str → Option Value} {l l' lz : List (Addr × Obj)} {tk : Nat} {x : Str}
theorem txt_join {t : Sem Flow} {Q : Flow → Shared → Prop} (P : Str → Prop) (F : Fr g L hz mz) (N : News g L hz lz) (h : wpAny M A t (TxtJ x P g L mz lz s0) E ⟨zh, zg, zd, zt, zo⟩)
    (k : ∀ X' t' h' tk', P X' → Fr g L h' (fun y => if y = x then some (.str X' t') else mz y) → News g L h' lz → Q .next { s0 with heap := h', toks := tk' }) : wpAny M A t Q E ⟨zh, zg, zd, zt, zo⟩ :=
  wpAny_mono h (fun fl s' hJ => by
    obtain ⟨X', t', h', tk', rfl, rfl, a1, a2, a3⟩ := hJ.out
    exact k _ _ _ _ a1 a2 a3) fun _ _ z => z
theorem txt_new {X' : Str} {t' : Tok} {P : Str → Prop} (F : Fr g L h' (fun y => if y = x then some (.str X' t') else m y)) (N : News g L h' l') (hs : ∀ q ∈ l, q ∈ l') (p : P X') : TxtJ x P g L m l s0 .next { s0 with heap := h', toks := tk } :=
  ⟨X', t', h', tk, rfl, rfl, p, F, fun q hq => N q (hs q hq)⟩
theorem txt_old {X' : Str} {t' : Tok} {P : Str → Prop} (F : Fr g L h' m) (e : m x = some (.str X' t')) (N : News g L h' l') (hs : ∀ q ∈ l, q ∈ l') (p : P X') : TxtJ x P g L m l s0 .next { s0 with heap := h', toks := tk } :=
  ⟨X', t', h', tk, rfl, rfl, p, fr_put F x e, fun q hq => N q (hs q hq)⟩
end
set_option maxHeartbeats 2000000 in
theorem laid_body {w : World} {mean : ExcName → Option Value} {mg mb : Str → Option Value} {dp un : Nat} {gd : Option (List Code)} {cn : Str} {cs : Scope} {a : Addr} {ccd : Value} {cl : List (Str × Addr)} {outer : List Env} {A₀ : Around} {base h₀ : Heap} {L : Addr} {m : Str → Option Value} {zh : Heap} {zg : Array GenState} {zd : Drawn} {zt : Nat} {zo : OsState} {Q E : Value → Shared → Prop}
    {d c rl : Addr} {o : Obj} {t tm : Tok} {p : Int} {cvs : List Value} {ns : List Int} {cn2 : Nat} {vs : List Value} {nn : Nat} {rest : List (Addr × Obj)}
    (B : Below A₀ base outer h₀) (F : Fr h₀ L zh m) (X : (Mine.top.heap_1 w.params).In h₀) (T : Top Mine.V loose mean mg mb h₀) (hk : cs.kind = .function) (hdp : dp + 10 < recursionLimit) (hun : un + 100 < cLine)
    (N : News h₀ L zh ((d, o) :: rest)) (hfd : FeedIs w o c p t) (hcm : (c, listOf cvs.toArray cn2) ∈ rest) (hrl : (rl, listOf vs.toArray nn) ∈ rest) (hoff : ∀ q ∈ rest, q.1 ≠ d) (hcd : @Ne Nat c d) (hdr : @Ne Nat d rl) 
    (hI : IntsAre cvs ns) 
    (hlen : cvs.length ≤ 1000) (hp0 : 0 ≤ p) (hp1 : p < 700) (hrows : RowsIn rest vs) (hvl : vs.length ≤ 200)
    (hQ : ∀ (R F2 : Addr) (X : Str) (tX : Tok) (fvs : List Value) (fnn rnn : Nat) (ks : List TokD) (o' : Obj) (p' : Int) (t' : Tok) (tl : List (Addr × Obj)) (h' : Heap) (tk' : Nat), FeedIs w o' c p' t' → Sfx true X.cps.toList 0 ks → X.length ≤ 20000 → ks.length ≤ 201 → ToksV tl fvs ks → (∀ q ∈ rest, q ∈ tl) → (∀ q ∈ tl, q.1 ≠ d) → (F2, listOf fvs.toArray fnn) ∈ tl → (R, ({ cls := .type "tuple", data := .seq #[.str X tX, .ref F2] rnn } : Obj)) ∈ tl →
      Fr h₀ L h' m → News h₀ L h' ((d, o') :: tl) → Q (.ref R) ⟨h', zg, zd, tk', zo⟩) :
    wpAny (model prog w) (ktrTop dp un gd cn cs L a ccd cl outer) (call (.ref 483) [.ref d, .ref rl]) Q E ⟨zh, zg, zd, zt, zo⟩ := by
  refine wpAny_call ?_
  k_dflt (refine' code_def (binds := [(Str.ofString "feed", .ref d), (Str.ofString "rows", .ref rl)]) ?k1 ?k2 ?k3 ?k4 ?k5 ?kA ?kF ?kK ?k6 ?k7 ?k8 ?k9 ?kB ?_ ?c2 ?c3 ?c4 ?c5; (case kA => exact rfl); (case kF => exact rfl); (case kK => assumption); (case k1 => k_asm); (case k2 => k_asm); (case k3 => k_asm); (case k4 => k_asm); (case k5 => k_asm); (case k6 => k_is); (case k7 => k_is); (case k8 => ktr_room); (case k9 => exact BindsTo.of_eq rfl); (case c5 => decide); (case kB => exact locs rfl); (case c2 => exact rfl); (case c3 => exact rfl); (case c4 => exact rfl); k_whole; intro g' L' h' FG' F' N' B' X' T'; (try dsimp only); (try k_fold); (show let Ab : PySem.Around := ktrTop dp un gd cn cs L a ccd cl outer; let ev : PySem.Env := _; let Ac : PySem.Around := PySem.Around.deeper Ab ev; wpAny _ Ac (PySem.execs _ ev) _ _ _); intro Ab ev Ac; (replace hdp : PySem.Around.depth Ab + _ < _ := hdp); (replace hun : PySem.Around.units Ab + _ < _ := hun))
  k_steps
  refine Stop.mk ?_
  (with_reducible rename d < _ ∧ AllLt _ rest => hfl1)
  (with_reducible rename Fr _ _ _ _ => F1)
  (with_reducible rename News _ _ _ _ => N1)
  have hfr : ∀ q ∈ rest, q.1 ≠ _ := fun q hq => Nat.ne_of_lt (allLt_mem hfl1.2 q hq)
  have hrest0 := keep_restN (d := d) (own := []) (rest := rest) N1 (fun q hq => by k_mem) hoff hfr (fun _ _ _ h => absurd h List.not_mem_nil)
  refine' list_T (LaidJ w d c rl _ rest p) rfl (fun _ _ _ hj => LaidJ.list hrl hj) F1 (newsSub N1 (keep_sub (d := d) (own := []) ?hd ?hr)) (laid_start N1 ?hf hrest0 ?e1 ?e2 ?e3 ?e4 ?e5) ?turn ?fin
  case hd => k_mem
  case hr => k_mem
  case hf => assumption
  case e1 => exact rfl
  case e2 => exact rfl
  case e3 => exact rfl
  case e4 => exact rfl
  case e5 => exact rfl
  case turn =>
    intro i v m₁ nx h tk own hv hoffo hJ F2 N2
    obtain ⟨o2, p2, t2, X, tX, b, fvs, fnn, toks, tl, rfl, f1, f2, f3, f4, f5, f6, f7, f8, f9, f10, e1, e2, e3, e4, e5⟩ := hJ.out
    obtain ⟨a0, wv, x0, tx0, rfl, hrow, hok⟩ := hrows v (List.mem_of_getElem? hv)
    obtain ⟨w0, hw0, hrd⟩ := rowD_of hok
    have hxl := rowD_len hrd
    rw [len_cps] at hxl
    have hil : i < vs.length := (List.getElem?_eq_some_iff.mp hv).1
    have w1 : ∀ p ∈ own, p.1 ≠ d := fun p hp => hoffo p hp d (List.Mem.head _)
    have w2 : ∀ p ∈ own, p.1 ≠ _ := fun p hp => hoffo p hp _ (.tail _ (.head _))
    have w3 : ∀ q ∈ tl, ∀ p ∈ own, p.1 ≠ q.1 := fun q hq p hp => hoffo p hp q.1 (.tail _ (.tail _ (List.mem_map.mpr ⟨q, hq, rfl⟩)))
    have N3 : News g' L' h ((d, o2) :: (_, listOf fvs.toArray fnn) :: (tl ++ own)) := N2
    have F3 := fr_put (fr_put (fr_put (fr_put (fr_put F2 (Str.ofString "feed") e1) (Str.ofString "rows") e2) (Str.ofString "text") e3) (Str.ofString "found") e4) (Str.ofString "is_sign") e5
    have g1 : ∀ q ∈ tl, q ∈ tl ++ own := fun q hq => List.mem_append_left _ hq
    have g2 : ∀ q ∈ own, q ∈ tl ++ own := fun q hq => List.mem_append_right _ hq
    have g3 : ∀ q ∈ tl ++ own, q.1 ≠ d := fun q hq => (List.mem_append.mp hq).elim (f8 q) (w1 q)
    have g4 : ∀ q ∈ tl ++ own, q.1 ≠ _ := fun q hq => (List.mem_append.mp hq).elim (f9 q) (w2 q)
    have g5 : (c, listOf cvs.toArray cn2) ∈ tl ++ own := g1 _ (f7 _ hcm)
    have g6 : (a0, tupO [wv, .str x0 tx0]) ∈ tl ++ own := g1 _ (f7 _ hrow)
    have hdf : @Ne Nat d _ := Nat.ne_of_lt hfl1.1
    have hfvl : fvs.length = i := f10.length.trans f6
    generalize tl ++ own = T at N3 g1 g2 g3 g4 g5 g6
    have q0 : 0 ≤ p2 := by omega
    have q1 : p2 < 950 := by omega
    have q2 : X.length ≤ 30000 := by omega
    have q3 : fvs.length ≤ 300 := by omega
    (try dsimp only)
    clear F2 N2 hJ F1 N1 N
    k_steps
    refine Stop.mk ?_
    (with_reducible rename _ = decide (x0.cps.toList ∈ lateL) => hbl)
    (with_reducible rename Fr _ _ _ _ => Fz)
    (with_reducible rename News _ _ _ _ => Nz)
    refine' txt_join (x := Str.ofString "text") (s0 := ⟨zh, zg, zd, zt, zo⟩) (LaidP X b (decide (x0.cps.toList ∈ lateL))) Fz Nz (wpAny_If ?_) ?_
    · k_steps
      all_goals (
        (with_reducible rename Fr _ _ _ _ => Fy)
        (with_reducible rename News _ _ _ _ => Ny)
        first
          | exact txt_new Fy Ny (by first | exact fun _ h => h | exact fun _ h => .tail _ h) (LaidP.gap (by assumption) (by assumption) (by assumption))
          | exact txt_old Fy rfl Ny (by first | exact fun _ h => h | exact fun _ h => .tail _ h) (LaidP.no (.inl (by assumption)))
          | exact txt_old Fy rfl Ny (by first | exact fun _ h => h | exact fun _ h => .tail _ h) (LaidP.no (.inr (hbl.symm.trans (by assumption)))))
    intro X2 tX2 h2 tk2 hP F4 N4
    have hP2 := hP.len
    clear Fz Nz
    (try dsimp only)
    k_steps
    all_goals (
      (with_reducible rename Fr _ _ _ _ => Fz)
      (with_reducible rename News _ _ _ _ => Nz)
      have hrest := keep_restN (d := d) (own := own) Nz (fun q hq => by have := g1 q hq; k_mem) f8 f9 w3
      refine' laid_end Fz Nz ?hd ?hr ?hf ?e1 ?e2 ?e3 ?e4 ?e5 ?hB ?b1 ?b2 ?b3 ?b4 (fun q hq => hrest q (f7 q hq)) w1 w2 (fun q hq => by have := g2 q hq; k_mem) ?rows
      case hd => k_mem
      case hr => k_mem
      case hf => assumption
      case e1 => exact rfl
      case e2 => exact rfl
      case e3 => exact rfl
      case e4 => exact rfl
      case e5 => exact rfl
      case hB => exact built_J f5 hP hrd hbl
      case b1 => omega
      case b2 => omega
      case b3 => simp only [Str.length_append]; omega
      case b4 => simp only [List.length_append, List.length_cons, List.length_nil]; omega
      case rows => exact ToksV.app (f10.mono hrest) (.cons (TokV.new (by k_mem) rfl (off2 (by omega) (by omega)) (off_of (by (first | with_reducible assumption | exact Mine.al1 (by with_reducible assumption) | exact Mine.al2 (by with_reducible assumption) | exact Mine.al3 (by with_reducible assumption) | exact Mine.al4 (by with_reducible assumption) | exact Mine.al5 (by with_reducible assumption) | exact Mine.al6 (by with_reducible assumption) | exact Mine.al7 (by with_reducible assumption) | exact Mine.al8 (by with_reducible assumption))) g2) hw0) .nil))
  case fin =>
    intro m₁ nx h tk hJ F2 N2
    obtain ⟨o2, p2, t2, X, tX, b, fvs, fnn, toks, tl, rfl, f1, f2, f3, f4, f5, f6, f7, f8, f9, f10, e1, e2, e3, e4, e5⟩ := hJ.out
    have F3 := fr_put (fr_put (fr_put (fr_put (fr_put F2 (Str.ofString "feed") e1) (Str.ofString "rows") e2) (Str.ofString "text") e3) (Str.ofString "found") e4) (Str.ofString "is_sign") e5
    have hfvl : fvs.length = vs.length := f10.length.trans f6
    (try dsimp only)
    clear F2 hJ F1 N1 N
    k_steps
    all_goals (
      (with_reducible rename Fr _ _ _ _ => Fz)
      (with_reducible rename News _ _ _ _ => Nz)
      have hrest := keep1_restN (d := d) (rest := tl) Nz (fun q hq => by k_mem) f8
      have hfin : Sfx true X.cps.toList 0 (toks ++ [⟨none, [], X.length⟩]) := by rw [← len_cps]; exact f5.fin
      refine' hQ _ _ X _ _ _ _ (toks ++ [⟨none, [], X.length⟩]) _ _ _ _ _ _ f1 hfin ?b3 ?b4 ?rows (fun q hq => hrest q (f7 q hq)) keep1_d ?m1 ?m2 Fz (newsSub Nz (keep1_sub (d := d) ?hd))
      case hd => k_mem
      case m1 => exact keepOff_mem (by k_mem) (off1 (by omega)) (fun _ h => absurd h List.not_mem_nil)
      case m2 => exact keepOff_mem (by k_mem) (off1 (by omega)) (fun _ h => absurd h List.not_mem_nil)
      case b3 => omega
      case b4 => simp only [List.length_append, List.length_cons, List.length_nil]; omega
      case rows => exact ToksV.app (f10.mono hrest) (.cons (TokV.new (x := Str.ofString "") (by k_mem) rfl (off1 (by omega)) (fun _ h => absurd h List.not_mem_nil) (.inl ⟨rfl, rfl⟩)) .nil))
end Mine
namespace Mine
open PySem PySem.W PyProof.Rows PySem.Calls PyProof.V PySem.Spec PySem.NumText
open PySem.Builtin.Str in
theorem slice_clip (x : Str) (i j : Int) (h : (x.length : Int) ≤ j) (hi : 0 ≤ i) : Txt.slice x (some i) (some j) = Txt.slice x (some i) (some (x.length : Int)) := by
  have e : strSliceIndices (some i) (some j) 1 x.length = strSliceIndices (some i) (some (x.length : Int)) 1 x.length := by
    unfold strSliceIndices
    simp only [show (1 : Int) > 0 by decide, if_true, if_neg (show ¬ (i < 0) by omega), if_neg (show ¬ (j < 0) by omega), if_neg (show ¬ ((x.length : Int) < 0) by omega)]
    congr 1
    omega
  unfold Txt.slice
  rw [e]
theorem slice_nat (x : Str) {i j : Int} (h0 : 0 ≤ i) (h1 : i ≤ j) (h2 : i ≤ x.length) : (Txt.slice x (some i) (some j)).cps.toList = (x.cps.toList.drop i.toNat).take (j - i).toNat := by
  by_cases h : j ≤ x.length
  · have q := eq_of_beq (slice_closesL h0 h1 h)
    rw [q]
  · rw [slice_clip x i j (by omega) h0]
    have q := eq_of_beq (slice_closesL (x := x) (j := (x.length : Int)) h0 h2 (Int.le_refl _))
    rw [q]
    have e : (x.cps.toList.drop i.toNat).length = ((x.length : Int) - i).toNat := by rw [List.length_drop, len_cps]; omega
    show (x.cps.toList.drop i.toNat).take ((x.length : Int) - i).toNat = _
    rw [List.take_of_length_le (by omega), List.take_of_length_le (by omega)]
section
variable {pg : Program} {w : World} {A : Around} {E : Value → Shared → Prop} {s : Shared} {h₀ : Heap} {L : Addr} {m : Str → Option Value} {news : List (Addr × Obj)} {value slice : PySem.Expr} {Q : Value → Shared → Prop} {x y S : Str} {t u : Tok}
theorem str_slice {i j : Int} {ui uj : Tok} (F : Fr h₀ L s.heap m) (N : News h₀ L s.heap news) (h0 : 0 ≤ i) (h1 : i ≤ j) (h2 : i ≤ x.length) (hsz : x.length ≤ 100000)
    (h : ∀ h' t' k y, Fr h₀ L h' m → News h₀ L h' news → y.cps.toList = (x.cps.toList.drop i.toNat).take (j - i).toNat → Q (.str y t') { s with heap := h', toks := k })
    (hs : subscripted slice false (.str x t) (.ref s.heap.objs.size) = operate [.ref s.heap.objs.size, .str x t] (getItem (.str x t) (.ref s.heap.objs.size)))
    (ht : ∀ r, letTemporaryGo value (.str x t) r = pure ()) :
    wpAny (model pg w) A (subscriptTail value slice (.str x t) (.ref s.heap.objs.size)) Q E { s with heap := s.heap.push { cls := .type "slice", data := .fields #[.int i ui, .int j uj, .none] } } :=
  slice_strN_ss F N (fun h' t' k F' N' => h h' t' k _ F' N' (slice_nat x h0 h1 h2)) hs ht (by rw [sizeLine_eq]; omega)
theorem str_item {i : Int} (h0 : 0 ≤ i) (h1 : i < x.length) (hsz : x.length ≤ 100000) (h : ∀ y c, x.cps.toList[i.toNat]? = some c → y.cps.toList = [c] → Q (.str y s.toks) { s with toks := s.toks + 1 })
    (hs : subscripted slice false (.str x t) (.int i u) = operate [.str x t, .int i u] (getItem (.str x t) (.int i u)) := by with_unfolding_all rfl)
    (ht : ∀ r, letTemporaryGo value (.str x t) r = pure () := by intro _; with_unfolding_all rfl) :
    wpAny (model pg w) A (subscriptTail value slice (.str x t) (.int i u)) Q E s := by
  refine KXi.item (n := x.length) rfl (by omega) h1 (by omega) (fun _ => ?_) hs ht
  have hl : i.toNat < x.cps.toList.length := by rw [len_cps]; omega
  refine h _ (x.cps.toList[i.toNat]) (List.getElem?_eq_getElem hl) ?_
  have hl' : i.toNat < x.cps.size := by simpa using hl
  have e : Txt.charAt x i = some (x.cps.toList[i.toNat]) := by
    unfold Txt.charAt
    have e1 : seqIndex? i x.length = some i.toNat := by
      unfold seqIndex?
      have : ¬ (i < 0) := by omega
      simp [this]
      omega
    rw [e1]
    show x.cps[i.toNat]? = _
    rw [Array.getElem?_eq_getElem hl']
    simp
  unfold Txt.item
  rw [e]
  rfl
theorem str_in {c : Nat} (hy : y.cps.toList = [c]) (h : ∀ b, b = decide (c ∈ S.cps.toList) → Q (.bool b) s) : wpAny (model pg w) A (compareOp .In (.str y u) (.str S t)) Q E s := by
  have e : y = ⟨#[c]⟩ := str_ext hy
  subst e
  refine PyProof.Rows.in_str ?_
  rw [StrLaws.found_one]
  exact h _ rfl
end
section
variable {pg : Program} {w : World} {A : Around} {E : Value → Shared → Prop} {s : Shared} {Q : Value → Shared → Prop} {x y z S : Str} {t u v : Tok} {l : List Nat} {c : Nat}
theorem str_eq_t (hy : y.cps.toList = l) (hz : l = z.cps.toList) (h : Q (.bool true) s) : wpAny (model pg w) A (compareOp .Eq (.str y t) (.str z u)) Q E s := by
  refine P.eq_str ?_
  rw [hy, ← hz, beq_self_eq_true]
  exact h
theorem str_eq_f (hy : y.cps.toList = l) (hz : l ≠ z.cps.toList) (h : Q (.bool false) s) : wpAny (model pg w) A (compareOp .Eq (.str y t) (.str z u)) Q E s := by
  refine P.eq_str ?_
  rw [hy, beq_eq_false_iff_ne.mpr hz]
  exact h
theorem str_in_t (hy : y.cps.toList = [c]) (hc : c ∈ S.cps.toList) (h : Q (.bool true) s) : wpAny (model pg w) A (compareOp .In (.str y u) (.str S t)) Q E s :=
  str_in hy fun b hb => by rw [hb, decide_eq_true hc]; exact h
theorem str_in_f (hy : y.cps.toList = [c]) (hc : c ∉ S.cps.toList) (h : Q (.bool false) s) : wpAny (model pg w) A (compareOp .In (.str y u) (.str S t)) Q E s :=
  str_in hy fun b hb => by rw [hb, decide_eq_false hc]; exact h
theorem str_notin_t (hy : y.cps.toList = [c]) (hc : c ∈ S.cps.toList) (h : Q (.bool false) s) : wpAny (model pg w) A (compareOp .NotIn (.str y u) (.str S t)) Q E s := by
  have e : y = ⟨#[c]⟩ := str_ext hy
  subst e
  refine PyProof.Rows.notIn_str ?_
  rw [StrLaws.found_one, decide_eq_true hc]
  exact h
theorem str_find_at {k n : Int} (hf : Txt.find3 x y k = n) (h : Q (.int n s.toks) { s with toks := s.toks + 1 }) : wpAny (model pg w) A (call (.builtin "str.find") [.str x t, .str y u, .int k v]) Q E s :=
  SC.find3 (by rw [hf]; exact h)
open StrLaws in
theorem find_nl {k : Int} {n : Nat} (hk : 0 ≤ k) (hx : ∀ v, k.toNat ≤ v → v < n → x.cps.toList[v]? ≠ some 10) (hn : x.cps.toList[n]? = some 10) (hkn : k.toNat ≤ n) : Txt.find3 x (Str.ofString "\n") k = (n : Int) := by
  have e : Str.ofString "\n" = ⟨#[10]⟩ := by decide +kernel
  have hnl : n < x.length := by
    have := (List.getElem?_eq_some_iff.mp hn).1
    rwa [len_cps] at this
  have ef : fromIndex x.length k = k.toNat := by
    unfold fromIndex
    rw [if_neg (by omega)]
    omega
  rw [e]
  rcases find3_spec x 10 k with ⟨_, h2⟩ | ⟨j, h1, h2, h3, h4, h5⟩
  · exact absurd (getD_of_getElem? hn) (h2 n (by rw [ef]; exact hkn) hnl)
  · rw [h1]
    rw [ef] at h2 h5
    have hj := getElem?_of_getD h3 h4
    rcases Nat.lt_trichotomy j n with h | h | h
    · exact absurd hj (hx j h2 h)
    · rw [h]
    · exact absurd (getD_of_getElem? hn) (h5 n hkn h)
end
def SignIs (T : Str) (k : Int) (l : List Nat) : Prop := (T.cps.toList.drop k.toNat).take 1 = l
abbrev scD (h1 h2 : Int) (t1 t2 : Tok) (T : Str) (tT : Tok) (k : Int) (tk : Tok) : Obj := dictOf [⟨h1, .str (Str.ofString "text") t1, .str T tT⟩, ⟨h2, .str (Str.ofString "spot") t2, .int k tk⟩] 2
def runL (S T : Str) (k : Int) : List Nat := (T.cps.toList.drop k.toNat).takeWhile fun c => decide (c ∈ S.cps.toList)
theorem runL_len (S T : Str) (k : Int) : (runL S T k).length ≤ T.length - k.toNat := by
  have := (List.takeWhile_sublist (l := T.cps.toList.drop k.toNat) fun c => decide (c ∈ S.cps.toList)).length_le
  rw [List.length_drop, len_cps] at this
  exact this
/-- where the run stands -/
theorem run_in {S T : Str} {k : Int} {j : Nat} {c : Nat} (hc : (T.cps.toList.drop k.toNat)[j]? = some c) (hj : j ≤ (runL S T k).length) : (c ∈ S.cps.toList ↔ j < (runL S T k).length) := by
  unfold runL at *
  generalize T.cps.toList.drop k.toNat = l at *
  induction l generalizing j with
  | nil => cases hc
  | cons a l ih =>
    by_cases ha : a ∈ S.cps.toList
    · rw [List.takeWhile_cons, if_pos (by simpa using ha)] at hj ⊢
      cases j with
      | zero =>
        cases hc
        simp [ha]
      | succ j =>
        rw [List.length_cons] at hj ⊢
        have := ih (j := j) hc (by omega)
        rw [this]
        omega
    · rw [List.takeWhile_cons, if_neg (by simpa using ha)] at hj ⊢
      cases j with
      | zero =>
        cases hc
        simp [ha]
      | succ j => simp at hj
theorem run_take (S T : Str) (k : Int) : (T.cps.toList.drop k.toNat).take (runL S T k).length = runL S T k := by
  unfold runL
  exact (List.prefix_iff_eq_take.mp (List.takeWhile_prefix _)).symm
theorem run_stop {S T : Str} {k : Int} {j : Nat} (hk : 0 ≤ k) (hj : j ≤ (runL S T k).length) (hs : (T.length : Int) ≤ k + j) : j = (runL S T k).length := by
  have := runL_len S T k
  omega
theorem run_stop2 {S T : Str} {k : Int} {j c : Nat} {b : Bool} (hk : 0 ≤ k) (hj : j ≤ (runL S T k).length) (hc : T.cps.toList[(k + j).toNat]? = some c) (hb : b = decide (c ∈ S.cps.toList)) (hf : b = false) : j = (runL S T k).length := by
  subst hb
  have e : (T.cps.toList.drop k.toNat)[j]? = some c := by
    rw [List.getElem?_drop, ← hc]
    congr 1
    omega
  have h := run_in e hj
  have : c ∉ S.cps.toList := of_decide_eq_false hf
  exact Nat.le_antisymm hj (Nat.not_lt.mp (mt h.mpr this))
theorem run_go {S T : Str} {k : Int} {j c : Nat} {b : Bool} (hk : 0 ≤ k) (hj : j ≤ (runL S T k).length) (hc : T.cps.toList[(k + j).toNat]? = some c) (hb : b = decide (c ∈ S.cps.toList)) (hf : b = true) : j < (runL S T k).length := by
  subst hb
  have e : (T.cps.toList.drop k.toNat)[j]? = some c := by
    rw [List.getElem?_drop, ← hc]
    congr 1
    omega
  exact (run_in e hj).mp (of_decide_eq_true hf)
end Mine
theorem Mine.rw_P08_runof : True := by
  k_with_none
  (k_with "subscriptTail" => (k_here; (fail_if_success fail_if_success with_reducible show wpAny _ _ (subscriptTail _ _ (Value.ref _) (Value.str _ _)) _ _ _); k_dflt (refine' Mine.d_get ?zzN ?zzm ?zzo ?zzf ?_; (case zzN => k_asm); (case zzm => k_mem); (case zzo => with_reducible assumption); (case zzf => exact rfl); k_whole)))
  (k_with "setItem ref str" => (k_here; (fail_if_success fail_if_success with_reducible show wpAny _ _ (setItem (Value.ref _) (Value.str _ _) _) _ _ _); k_dflt (refine' Mine.d_set ?zzF ?zzN ?zzU ?zzo ?_ ?zzz; (case zzF => k_asm); (case zzN => k_asm); (case zzU => k_updF); (case zzo => with_reducible assumption); (case zzz => exact Nat.le_of_ble_eq_true rfl)); intro _ _ _ _ _; (try k_sweep)))
  (k_with "call builtin:len" => (k_here; (fail_if_success fail_if_success with_reducible show wpAny _ _ (call (Value.builtin "len") [Value.ref _]) _ _ _); k_dflt (refine' Mine.len_L ?zzN ?zzm ?zzb ?_; (case zzN => k_asm); (case zzm => k_mem); (case zzb => omega); k_whole)))
  (k_with "subscriptTail" => (k_here; (fail_if_success fail_if_success with_reducible show wpAny _ _ (subscriptTail _ _ (Value.ref _) (Value.int _ _)) _ _ _); k_dflt (refine' Mine.item_L ?zzN ?zzm ?zza ?zzb ?zzc ?_; (case zzN => k_asm); (case zzm => k_mem); (case zza => omega); (case zzb => omega); (case zzc => omega); k_whole); intro _ _))
  (k_with "subscriptTail" => (k_here; (fail_if_success fail_if_success with_reducible show wpAny _ _ (subscriptTail _ _ (Value.ref _) (Value.int _ _)) _ _ _); k_dflt (refine' Mine.item_LI ?zzN ?zzm ?zzi ?zza ?zzb ?zzc ?_; (case zzN => k_asm); (case zzm => k_mem); (case zzi => with_reducible assumption); (case zza => omega); (case zzb => omega); (case zzc => omega); k_whole); intro _ _))
  (k_with "ite" => first | with_reducible refine PyProof.Rows.ite_tt ?_ | with_reducible refine PyProof.Rows.ite_ff ?_)
  (k_with "execs cons" => (k_here; (try k_gentoks); (with_reducible refine wpAny_execs_cons ?_); (try dsimp only); k_fold))
  (k_with "eval Constant int" => (with_reducible refine Mine.constI ?_))
  (k_with "eval Constant str" => (with_reducible refine Mine.constS ?_))
  (k_with "binaryOp Add int int" => (with_reducible refine Mine.addI ?_))
  (k_with "pyIter ref" => (refine Mine.stop_intro ?_))
  (k_with "exec For Name Call cons nil" => (k_here; (rename Fr _ _ _ _ => lF'); (with_unfolding_all refine' For_invVF lF' ?zzk1 ?zzk2 ?_; (case zzk1 => exact rfl); (case zzk2 => exact rfl); k_whole)))
  (k_with "call type:range" => (k_here; (fail_if_success fail_if_success with_reducible show wpAny _ _ (call _ [Value.int _ _]) _ _ _); k_dflt (refine' Mine.range_1 ?zzF ?zzN ?_; (case zzF => k_asm); (case zzN => k_asm)); intro _ _ _ _ _ _ _ _; (try k_sweep)))
  (k_with "subscriptTail" => (k_here; (fail_if_success fail_if_success with_reducible show wpAny _ _ (subscriptTail _ _ (Value.ref _) (Value.int _ _)) _ _ _); k_dflt (first | (refine' Mine.pick_T (-3) 9 ?zzN ?zzm ?zzi ?zza ?zzb ?zzc ?_; (case zzN => k_asm); (case zzm => k_mem); (case zzi => repeat' (first | exact Mine.IntsIn.nil | (refine Mine.IntsIn.cons (by decide) (by decide) ?_))); (case zza => assumption); (case zzb => assumption); (case zzc => exact Nat.le_of_ble_eq_true rfl); k_whole) | (refine' Mine.pick_T (-3) (10 ^ 30) ?zzN ?zzm ?zzi ?zza ?zzb ?zzc ?_; (case zzN => k_asm); (case zzm => k_mem); (case zzi => repeat' (first | exact Mine.IntsIn.nil | (refine Mine.IntsIn.cons (by decide) (by decide) ?_))); (case zza => assumption); (case zzb => assumption); (case zzc => exact Nat.le_of_ble_eq_true rfl); k_whole)); intro _ _ _ _))
  (k_with "subscriptTail" => (k_here; (fail_if_success fail_if_success with_reducible show wpAny _ _ (subscriptTail _ (Expr.Slice (some _) (some _) none _) (Value.str _ _) (Value.ref _)) _ _ _); k_dflt (refine' Mine.str_slice (s := ⟨_, _, _, _, _⟩) ?zzF ?zzN ?zza ?zzb ?zzc ?zzd ?_ ?zzs ?zzt; (case zzF => k_asm); (case zzN => k_asm); (case zza => omega); (case zzb => omega); (case zzc => omega); (case zzd => omega); (case zzs => with_unfolding_all rfl); (case zzt => kmk_pure)); intro _ _ _ _ _ _ _; (try k_sweep)))
  (k_with "subscriptTail" => (k_here; (fail_if_success fail_if_success with_reducible show wpAny _ _ (subscriptTail _ _ (Value.str _ _) (Value.int _ _)) _ _ _); k_dflt (refine' Mine.str_item ?zza ?zzb ?zzc ?_; (case zza => omega); (case zzb => omega); (case zzc => omega)); intro _ _ _ _))
  (k_with "compareOp In str str" => (k_here; (fail_if_success fail_if_success with_reducible show wpAny _ _ (compareOp CmpOp.In (Value.str _ _) (Value.str _ _)) _ _ _); (refine Mine.str_in (by with_reducible assumption) ?_); intro _ _))
  (k_with "exec While Compare cons nil" => (refine Mine.stop_intro ?_))
  (k_with "exec While BoolOp cons nil" => (refine Mine.stop_intro ?_))
  (k_with "exec While UnaryOp cons nil" => (refine Mine.stop_intro ?_))
  (k_with "exec While Constant cons nil" => (refine Mine.stop_intro ?_))
  (k_with "exec While" => (refine Mine.stop_intro ?_))
  (k_with "call" => ((fail_if_success fail_if_success with_reducible show wpAny _ _ (call (Prod.fst _) _) _ _ _); dsimp only [List.cons_append, List.nil_append, List.append_nil]))
  trivial
namespace Mine
open PySem PySem.W PyProof.Rows PySem.Calls PyProof.V PySem.Spec PySem.NumText
structure RunJ (sc dxs : Addr) (O : Obj) (S Tx : Str) (tS tk0 : Tok) (k : Int) (rest : List (Addr × Obj)) (n : Nat) (m : Str → Option Value) (nx : List (Addr × Obj)) : Prop where
  out : ∃ (j : Nat) (tj : Tok), j ≤ (runL S Tx k).length ∧ n = (runL S Tx k).length - j ∧ nx = (dxs, O) :: rest ∧
    m (Str.ofString "self") = some (.ref sc) ∧ m (Str.ofString "signs") = some (.str S tS) ∧ m (Str.ofString "begin") = some (.int k tk0) ∧ m (Str.ofString "spot") = some (.int (k + j) tj)
set_option maxHeartbeats 2000000 in
theorem runof_body {w : World} {mean : ExcName → Option Value} {mg mb : Str → Option Value} {dp un : Nat} {gd : Option (List Code)} {cn : Str} {cs : Scope} {a : Addr} {ccd : Value} {cl : List (Str × Addr)} {outer : List Env} {A₀ : Around} {base h₀ : Heap} {L : Addr} {m : Str → Option Value} {zh : Heap} {zg : Array GenState} {zd : Drawn} {zt : Nat} {zo : OsState} {Q E : Value → Shared → Prop} {sc dxs : Addr} {h1 h2 : Int} {t1 t2 : Tok} {Tx S : Str} {tT tS tks : Tok} {k : Int} {rest : List (Addr × Obj)}
    (B : Below A₀ base outer h₀) (F : Fr h₀ L zh m) (X : (Mine.top.heap_1 w.params).In h₀) (T : Top Mine.V loose mean mg mb h₀) (hk : cs.kind = .function) (hdp : dp + 5 < recursionLimit) (hun : un + 50 < cLine)
    (N : News h₀ L zh ((dxs, scD h1 h2 t1 t2 Tx tT k tks) :: rest)) (hsc : (sc, instObj 285 dxs) ∈ rest) (hoff : ∀ q ∈ rest, q.1 ≠ dxs)
    (hk0 : 0 ≤ k) (hk1 : k ≤ Tx.length) (hT : Tx.length ≤ 20000)
    (hQ : ∀ y ty tk2 h' tk', y.cps.toList = runL S Tx k → Fr h₀ L h' m → News h₀ L h' ((dxs, scD h1 h2 t1 t2 Tx tT (k + (runL S Tx k).length) tk2) :: rest) → Q (.str y ty) ⟨h', zg, zd, tk', zo⟩) :
    wpAny (model prog w) (ktrTop dp un gd cn cs L a ccd cl outer) (call (.ref 261) [.ref sc, .str S tS]) Q E ⟨zh, zg, zd, zt, zo⟩ := by
  have hlen := runL_len S Tx k
  refine wpAny_call ?_
  k_dflt (refine' code_def (binds := [(Str.ofString "self", .ref sc), (Str.ofString "signs", .str S tS)]) ?k1 ?k2 ?k3 ?k4 ?k5 ?kA ?kF ?kK ?k6 ?k7 ?k8 ?k9 ?kB ?_ ?c2 ?c3 ?c4 ?c5; (case kA => exact rfl); (case kF => exact rfl); (case kK => assumption); (case k1 => k_asm); (case k2 => k_asm); (case k3 => k_asm); (case k4 => k_asm); (case k5 => k_asm); (case k6 => k_is); (case k7 => k_is); (case k8 => ktr_room); (case k9 => exact BindsTo.of_eq rfl); (case c5 => decide); (case kB => exact locs rfl); (case c2 => exact rfl); (case c3 => exact rfl); (case c4 => exact rfl); k_whole; intro g' L' h' FG' F' N' B' X' T'; (try dsimp only); (try k_fold); (show let Ab : PySem.Around := ktrTop dp un gd cn cs L a ccd cl outer; let ev : PySem.Env := _; let Ac : PySem.Around := PySem.Around.deeper Ab ev; wpAny _ Ac (PySem.execs _ ev) _ _ _); intro Ab ev Ac; (replace hdp : PySem.Around.depth Ab + _ < _ := hdp); (replace hun : PySem.Around.units Ab + _ < _ := hun))
  k_steps
  all_goals refine Stop.mk ?_
  rename_i tkz Dz hz3 l1z hz2 hz1 hz0 F1 N1
  refine While_inv (L := L') (n₀ := (runL S Tx k).length) (RunJ sc dxs (scD h1 h2 t1 t2 Tx tT k tks) S Tx tS tks k rest) F1 (newsSub N1 (fun q hq => .tail _ hq)) ⟨0, tks, by omega, rfl, rfl, rfl, rfl, rfl, by rw [show k + ((0 : Nat) : Int) = k by omega]; rfl⟩ ?turn
  intro n m₁ nx h tk3 F2 N2 hJ
  obtain ⟨j, tj, hj, hn, rfl, e1, e2, e3, e4⟩ := hJ.out
  have F3 := fr_put (fr_put (fr_put (fr_put F2 (Str.ofString "self") e1) (Str.ofString "signs") e2) (Str.ofString "begin") e3) (Str.ofString "spot") e4
  dsimp only
  clear F2 hJ F1 N1 N
  k_steps
  · have hgo := run_go hk0 hj (by assumption) (by assumption) (by assumption)
    (with_reducible rename Fr _ _ _ _ => Fz)
    (with_reducible rename News _ _ _ _ => Nz)
    exact WhileStep.intro (n' := (runL S Tx k).length - (j + 1)) Fz Nz (by omega) ⟨j + 1, _, by omega, rfl, rfl, rfl, rfl, rfl, by rw [show k + ((j + 1 : Nat) : Int) = k + (j : Int) + 1 by omega]; rfl⟩
  · have hj2 := run_stop2 hk0 hj (by assumption) (by assumption) (by assumption)
    (with_reducible rename Fr _ _ _ _ => Fz)
    (with_reducible rename News _ _ _ _ => Nz)
    subst hj2
    refine hQ _ _ _ _ _ ?_ Fz Nz
    rename_i hy
    rw [hy, show ((k + ((runL S Tx k).length : Int)) - k).toNat = (runL S Tx k).length by omega, run_take]
  · have hj2 := run_stop hk0 hj (by omega)
    (with_reducible rename Fr _ _ _ _ => Fz)
    (with_reducible rename News _ _ _ _ => Nz)
    subst hj2
    refine hQ _ _ _ _ _ ?_ Fz Nz
    rename_i hy
    rw [hy, show ((k + ((runL S Tx k).length : Int)) - k).toNat = (runL S Tx k).length by omega, run_take]
end Mine
namespace Mine
open PySem PySem.W PyProof.Rows PySem.Calls PyProof.V PySem.Spec PySem.NumText
set_option maxHeartbeats 2000000 in
theorem sign_K {w : World} {mean : ExcName → Option Value} {mg mb : Str → Option Value} {dp un : Nat} {gd : Option (List Code)} {cn : Str} {cs : Scope} {a : Addr} {ccd : Value} {cl : List (Str × Addr)} {outer : List Env} {A₀ : Around} {base h₀ : Heap} {L : Addr} {m : Str → Option Value} {zh : Heap} {zg : Array GenState} {zd : Drawn} {zt : Nat} {zo : OsState} {Q E : Value → Shared → Prop} {news : List (Addr × Obj)} {sc dxs : Addr} {h1 h2 : Int} {t1 t2 : Tok} {Tx : Str} {tT tks : Tok} {k : Int} {l : List Nat}
    (B : Below A₀ base outer h₀) (F : Fr h₀ L zh m) (X : (Mine.top.heap_1 w.params).In h₀) (T : Top Mine.V loose mean mg mb h₀) (hk : cs.kind = .function) (hdp : dp + 5 < recursionLimit) (hun : un + 50 < cLine)
    (N : News h₀ L zh news) (hsc : (sc, instObj 285 dxs) ∈ news) (hd : (dxs, scD h1 h2 t1 t2 Tx tT k tks) ∈ news)
    (hk0 : 0 ≤ k) (hk1 : k ≤ Tx.length) (hT : Tx.length ≤ 20000) (hl : SignIs Tx k l)
    (hQ : ∀ y ty h' tk', y.cps.toList = l → Fr h₀ L h' m → News h₀ L h' news → Q (.str y ty) ⟨h', zg, zd, tk', zo⟩) :
    wpAny (model prog w) (ktrTop dp un gd cn cs L a ccd cl outer) (call (.ref 247) [.ref sc]) Q E ⟨zh, zg, zd, zt, zo⟩ := by
  refine wpAny_call ?_
  k_dflt (refine' code_def (binds := [(Str.ofString "self", .ref sc)]) ?k1 ?k2 ?k3 ?k4 ?k5 ?kA ?kF ?kK ?k6 ?k7 ?k8 ?k9 ?kB ?_ ?c2 ?c3 ?c4 ?c5; (case kA => exact rfl); (case kF => exact rfl); (case kK => assumption); (case k1 => k_asm); (case k2 => k_asm); (case k3 => k_asm); (case k4 => k_asm); (case k5 => k_asm); (case k6 => k_is); (case k7 => k_is); (case k8 => ktr_room); (case k9 => exact BindsTo.of_eq rfl); (case c5 => decide); (case kB => exact locs rfl); (case c2 => exact rfl); (case c3 => exact rfl); (case c4 => exact rfl); k_whole; intro g' L' h' FG' F' N' B' X' T'; (try dsimp only); (try k_fold); (show let Ab : PySem.Around := ktrTop dp un gd cn cs L a ccd cl outer; let ev : PySem.Env := _; let Ac : PySem.Around := PySem.Around.deeper Ab ev; wpAny _ Ac (PySem.execs _ ev) _ _ _); intro Ab ev Ac; (replace hdp : PySem.Around.depth Ab + _ < _ := hdp); (replace hun : PySem.Around.units Ab + _ < _ := hun))
  k_steps
  all_goals (
    (with_reducible rename Fr _ _ _ _ => Fz)
    (with_reducible rename News _ _ _ _ => Nz)
    refine hQ _ _ _ _ ?_ Fz Nz
    rename (_ = List.take _ _) => hy
    rw [hy, ← hl, show (k + 1 - k).toNat = 1 by omega])
theorem runof_K {w : World} {mean : ExcName → Option Value} {mg mb : Str → Option Value} {dp un : Nat} {gd : Option (List Code)} {cn : Str} {cs : Scope} {a : Addr} {ccd : Value} {cl : List (Str × Addr)} {outer : List Env} {A₀ : Around} {base h₀ : Heap} {L : Addr} {m : Str → Option Value} {zh : Heap} {zg : Array GenState} {zd : Drawn} {zt : Nat} {zo : OsState} {Q E : Value → Shared → Prop} {news : List (Addr × Obj)} {g : Obj → List (Addr × Obj)} {sc dxs : Addr} {h1 h2 : Int} {t1 t2 : Tok} {Tx S : Str} {tT tS tks : Tok} {k : Int}
    (B : Below A₀ base outer h₀) (F : Fr h₀ L zh m) (X : (Mine.top.heap_1 w.params).In h₀) (T : Top Mine.V loose mean mg mb h₀) (hk : cs.kind = .function) (hdp : dp + 5 < recursionLimit) (hun : un + 50 < cLine)
    (N : News h₀ L zh news) (hsc : (sc, instObj 285 dxs) ∈ news) (U : UpdF dxs (scD h1 h2 t1 t2 Tx tT k tks) news g) (hne : @Ne Nat sc dxs)
    (hk0 : 0 ≤ k) (hk1 : k ≤ Tx.length) (hT : Tx.length ≤ 20000) {u : List Nat} (hu : runL S Tx k = u)
    (hQ : ∀ y ty tk2 h' tk', y.cps.toList = u → Fr h₀ L h' m → News h₀ L h' (g (scD h1 h2 t1 t2 Tx tT (k + u.length) tk2)) → Q (.str y ty) ⟨h', zg, zd, tk', zo⟩) :
    wpAny (model prog w) (ktrTop dp un gd cn cs L a ccd cl outer) (call (.ref 261) [.ref sc, .str S tS]) Q E ⟨zh, zg, zd, zt, zo⟩ := by
  obtain ⟨rest, r1, r2, r3, r4, r5⟩ := canonF U
  subst hu
  exact runof_body B F X T hk hdp hun (newsSub N r1) (r4 _ hsc hne) r2 hk0 hk1 hT fun y ty tk2 h' tk' a1 F' N' => hQ y ty tk2 h' tk' a1 F' (newsSub N' fun q hq => r3 _ _ hq)
end Mine
namespace Mine
open PySem PySem.W PyProof.Rows PySem.Calls PyProof.V PySem.Spec PySem.NumText
theorem len_of {y : Str} {u : List Nat} (h : y.cps.toList = u) : y.length = u.length := by rw [← h, len_cps]
section
variable {w : World} {A : Around} {E : Value → Shared → Prop} {zh : Heap} {zg : Array GenState} {zd : Drawn} {zt : Nat} {zo : OsState} {Q : Value → Shared → Prop} {x : Str} {t : Tok} {ds : List Nat}
theorem int_D (hx : x.cps.toList = ds) (hd : AllDigits ds) (hne : ds ≠ []) (hl : ds.length ≤ 60) (h : Q (.int ((digitsVal ds : Nat) : Int) zt) ⟨zh, zg, zd, zt + 1, zo⟩) : wpAny (model prog w) A (call (.type "int") [.str x t]) Q E ⟨zh, zg, zd, zt, zo⟩ := by
  subst hx
  have hxl : x.length ≤ 60 := by rw [← len_cps]; exact hl
  exact KIN.call_text (intText_digits hd hne (by omega)) (by omega) h
end
def digL : List Nat := [48, 49, 50, 51, 52, 53, 54, 55, 56, 57]
theorem cps_dig : (Str.ofString "0123456789").cps.toList = digL := by decide +kernel
theorem dig_mem {c : Nat} (h : 48 ≤ c ∧ c ≤ 57) : c ∈ digL := (by decide : ∀ x, x < 58 → 48 ≤ x → x ∈ digL) c (Nat.lt_succ_of_le h.2) h.1
end Mine
theorem Mine.rw_P10_skip : True := by
  k_with_none
  (k_with "subscriptTail" => (k_here; (fail_if_success fail_if_success with_reducible show wpAny _ _ (subscriptTail _ _ (Value.ref _) (Value.str _ _)) _ _ _); k_dflt (refine' Mine.d_get ?zzN ?zzm ?zzo ?zzf ?_; (case zzN => k_asm); (case zzm => k_mem); (case zzo => with_reducible assumption); (case zzf => exact rfl); k_whole)))
  (k_with "setItem ref str" => (k_here; (fail_if_success fail_if_success with_reducible show wpAny _ _ (setItem (Value.ref _) (Value.str _ _) _) _ _ _); k_dflt (refine' Mine.d_set ?zzF ?zzN ?zzU ?zzo ?_ ?zzz; (case zzF => k_asm); (case zzN => k_asm); (case zzU => k_updF); (case zzo => with_reducible assumption); (case zzz => exact Nat.le_of_ble_eq_true rfl)); intro _ _ _ _ _; (try k_sweep)))
  (k_with "call builtin:len" => (k_here; (fail_if_success fail_if_success with_reducible show wpAny _ _ (call (Value.builtin "len") [Value.ref _]) _ _ _); k_dflt (refine' Mine.len_L ?zzN ?zzm ?zzb ?_; (case zzN => k_asm); (case zzm => k_mem); (case zzb => omega); k_whole)))
  (k_with "subscriptTail" => (k_here; (fail_if_success fail_if_success with_reducible show wpAny _ _ (subscriptTail _ _ (Value.ref _) (Value.int _ _)) _ _ _); k_dflt (refine' Mine.item_L ?zzN ?zzm ?zza ?zzb ?zzc ?_; (case zzN => k_asm); (case zzm => k_mem); (case zza => omega); (case zzb => omega); (case zzc => omega); k_whole); intro _ _))
  (k_with "subscriptTail" => (k_here; (fail_if_success fail_if_success with_reducible show wpAny _ _ (subscriptTail _ _ (Value.ref _) (Value.int _ _)) _ _ _); k_dflt (refine' Mine.item_LI ?zzN ?zzm ?zzi ?zza ?zzb ?zzc ?_; (case zzN => k_asm); (case zzm => k_mem); (case zzi => with_reducible assumption); (case zza => omega); (case zzb => omega); (case zzc => omega); k_whole); intro _ _))
  (k_with "ite" => first | with_reducible refine PyProof.Rows.ite_tt ?_ | with_reducible refine PyProof.Rows.ite_ff ?_)
  (k_with "execs cons" => (k_here; (try k_gentoks); (with_reducible refine wpAny_execs_cons ?_); (try dsimp only); k_fold))
  (k_with "eval Constant int" => (with_reducible refine Mine.constI ?_))
  (k_with "eval Constant str" => (with_reducible refine Mine.constS ?_))
  (k_with "binaryOp Add int int" => (with_reducible refine Mine.addI ?_))
  (k_with "pyIter ref" => (refine Mine.stop_intro ?_))
  (k_with "exec For Name Call cons nil" => (k_here; (rename Fr _ _ _ _ => lF'); (with_unfolding_all refine' For_invVF lF' ?zzk1 ?zzk2 ?_; (case zzk1 => exact rfl); (case zzk2 => exact rfl); k_whole)))
  (k_with "call type:range" => (k_here; (fail_if_success fail_if_success with_reducible show wpAny _ _ (call _ [Value.int _ _]) _ _ _); k_dflt (refine' Mine.range_1 ?zzF ?zzN ?_; (case zzF => k_asm); (case zzN => k_asm)); intro _ _ _ _ _ _ _ _; (try k_sweep)))
  (k_with "subscriptTail" => (k_here; (fail_if_success fail_if_success with_reducible show wpAny _ _ (subscriptTail _ _ (Value.ref _) (Value.int _ _)) _ _ _); k_dflt (first | (refine' Mine.pick_T (-3) 9 ?zzN ?zzm ?zzi ?zza ?zzb ?zzc ?_; (case zzN => k_asm); (case zzm => k_mem); (case zzi => repeat' (first | exact Mine.IntsIn.nil | (refine Mine.IntsIn.cons (by decide) (by decide) ?_))); (case zza => assumption); (case zzb => assumption); (case zzc => exact Nat.le_of_ble_eq_true rfl); k_whole) | (refine' Mine.pick_T (-3) (10 ^ 30) ?zzN ?zzm ?zzi ?zza ?zzb ?zzc ?_; (case zzN => k_asm); (case zzm => k_mem); (case zzi => repeat' (first | exact Mine.IntsIn.nil | (refine Mine.IntsIn.cons (by decide) (by decide) ?_))); (case zza => assumption); (case zzb => assumption); (case zzc => exact Nat.le_of_ble_eq_true rfl); k_whole)); intro _ _ _ _))
  (k_with "subscriptTail" => (k_here; (fail_if_success fail_if_success with_reducible show wpAny _ _ (subscriptTail _ (Expr.Slice (some _) (some _) none _) (Value.str _ _) (Value.ref _)) _ _ _); k_dflt (refine' Mine.str_slice (s := ⟨_, _, _, _, _⟩) ?zzF ?zzN ?zza ?zzb ?zzc ?zzd ?_ ?zzs ?zzt; (case zzF => k_asm); (case zzN => k_asm); (case zza => omega); (case zzb => omega); (case zzc => omega); (case zzd => omega); (case zzs => with_unfolding_all rfl); (case zzt => kmk_pure)); intro _ _ _ _ _ _ _; (try k_sweep)))
  (k_with "subscriptTail" => (k_here; (fail_if_success fail_if_success with_reducible show wpAny _ _ (subscriptTail _ _ (Value.str _ _) (Value.int _ _)) _ _ _); k_dflt (refine' Mine.str_item ?zza ?zzb ?zzc ?_; (case zza => omega); (case zzb => omega); (case zzc => omega)); intro _ _ _ _))
  (k_with "compareOp In str str" => (k_here; (fail_if_success fail_if_success with_reducible show wpAny _ _ (compareOp CmpOp.In (Value.str _ _) (Value.str _ _)) _ _ _); (refine Mine.str_in (by with_reducible assumption) ?_); intro _ _))
  (k_with "exec While Compare cons nil" => (refine Mine.stop_intro ?_))
  (k_with "exec While BoolOp cons nil" => (refine Mine.stop_intro ?_))
  (k_with "exec While UnaryOp cons nil" => (refine Mine.stop_intro ?_))
  (k_with "exec While Constant cons nil" => (refine Mine.stop_intro ?_))
  (k_with "exec While" => (refine Mine.stop_intro ?_))
  (k_with "call" => ((fail_if_success fail_if_success with_reducible show wpAny _ _ (call (Prod.fst _) _) _ _ _); dsimp only [List.cons_append, List.nil_append, List.append_nil]))
  (k_with "call ref" => (k_here; (fail_if_success fail_if_success with_reducible show wpAny _ _ (call (Value.ref 247) [Value.ref _]) _ _ _); k_dflt (refine' Mine.sign_K ?zzB ?zzF ?zzX ?zzT ?zzhk ?zzhd ?zzhu ?zzN ?zzsc ?zzdd ?zzk0 ?zzk1 ?zzhT ?zzhl ?_; (case zzB => k_asm); (case zzF => k_asm); (case zzX => k_asm); (case zzT => k_asm); (case zzhk => first | exact rfl | assumption); (case zzN => k_asm); (case zzsc => k_mem); (case zzdd => k_mem); (case zzhl => with_reducible assumption); (case zzk0 => omega); (case zzk1 => omega); (case zzhT => omega); (case zzhd => ktr_room); (case zzhu => ktr_units)); intro _ _ _ _ _ _ _; (try dsimp only); (try k_fold); (try k_sweep)))
  (k_with "call ref" => (k_here; (fail_if_success fail_if_success with_reducible show wpAny _ _ (call (Value.ref 261) [Value.ref _, Value.str _ _]) _ _ _); k_dflt (refine' Mine.runof_K ?zzB ?zzF ?zzX ?zzT ?zzhk ?zzhd ?zzhu ?zzN ?zzsc ?zzU ?zzne ?zzk0 ?zzk1 ?zzhT ?zzhl ?_; (case zzB => k_asm); (case zzF => k_asm); (case zzX => k_asm); (case zzT => k_asm); (case zzhk => first | exact rfl | assumption); (case zzN => k_asm); (case zzsc => k_mem); (case zzU => k_updF); (case zzne => k_ne); (case zzhl => with_reducible assumption); (case zzk0 => omega); (case zzk1 => omega); (case zzhT => omega); (case zzhd => ktr_room); (case zzhu => ktr_units)); intro _ _ _ _ _ hy9 _ _; have hyl9 := Mine.len_of hy9; (try dsimp only); (try k_fold); (try k_sweep)))
  (k_with "compareOp Eq str str" => (k_here; (fail_if_success fail_if_success with_reducible show wpAny _ _ (compareOp CmpOp.Eq (Value.str _ _) (Value.str _ _)) _ _ _); first | (refine' Mine.str_eq_t ?zzhy ?zzhz ?_; (case zzhy => with_reducible assumption); (case zzhz => first | with_reducible assumption | decide +kernel)) | (refine' Mine.str_eq_f ?zzhy ?zzhz ?_; (case zzhy => with_reducible assumption); (case zzhz => first | with_reducible assumption | decide +kernel))))
  (k_with "call builtin:str.find" => (k_here; (refine Mine.str_find_at (by with_reducible assumption) ?_)))
  trivial
namespace Mine
open PySem PySem.W PyProof.Rows PySem.Calls PyProof.V PySem.Spec PySem.NumText
def blankL : List Nat := [32, 9, 13, 10]
theorem run_of_drop {S T : Str} {k : Int} {u r : List Nat} (h : T.cps.toList.drop k.toNat = u ++ r) (hu : ∀ c ∈ u, c ∈ S.cps.toList) (hr : ∀ c, r.head? = some c → c ∉ S.cps.toList) : runL S T k = u := by
  unfold runL
  rw [h, List.takeWhile_append_of_pos (fun c hc => decide_eq_true (hu c hc))]
  cases r with
  | nil => simp
  | cons c r => rw [List.takeWhile_cons, if_neg (by simpa using hr c rfl)]; simp
theorem drop_next {T : Str} {k : Int} {u r : List Nat} (hk : 0 ≤ k) (h : T.cps.toList.drop k.toNat = u ++ r) : T.cps.toList.drop (k + (u.length : Int)).toNat = r := by
  rw [show (k + (u.length : Int)).toNat = k.toNat + u.length by omega, ← List.drop_drop, h, List.drop_left]
theorem drop_len {T : Str} {k : Int} {u : List Nat} (hk1 : k ≤ T.length) (hk : 0 ≤ k) (h : T.cps.toList.drop k.toNat = u) : (T.length : Int) = k + u.length := by
  have := congrArg List.length h
  rw [List.length_drop, len_cps] at this
  omega
theorem cps_blank : (Str.ofString " \t\r\n").cps.toList = blankL := by decide +kernel
theorem cps_pct : (Str.ofString "%").cps.toList = [37] := by decide +kernel
/-- the two ways of a gap -/
theorem gap_ways {g : List Nat} (hg : g ∈ gapL) : (∀ c ∈ g, c ∈ blankL) ∨ g = [32, 37, 32, 52, 10] := by
  have : ∀ g ∈ gapL, (∀ c ∈ g, c ∈ blankL) ∨ g = [32, 37, 32, 52, 10] := by decide
  exact this g hg
structure SkipJ (sc dxs : Addr) (D : Int → Tok → Obj) (Tx : Str) (kf : Int) (r : List Nat) (rest : List (Addr × Obj)) (n : Nat) (m : Str → Option Value) (nx : List (Addr × Obj)) : Prop where
  out : ∃ (kk : Int) (tkk : Tok), nx = (dxs, D kk tkk) :: rest ∧ m (Str.ofString "self") = some (.ref sc) ∧ ((n = 0 ∧ kk = kf) ∨ (n = 1 ∧ kk + 4 = kf ∧ 0 ≤ kk ∧ Tx.cps.toList.drop kk.toNat = [37, 32, 52, 10] ++ r))
set_option maxHeartbeats 2000000 in
theorem skip_body {w : World} {mean : ExcName → Option Value} {mg mb : Str → Option Value} {dp un : Nat} {gd : Option (List Code)} {cn : Str} {cs : Scope} {a : Addr} {ccd : Value} {cl : List (Str × Addr)} {outer : List Env} {A₀ : Around} {base h₀ : Heap} {L : Addr} {m : Str → Option Value} {zh : Heap} {zg : Array GenState} {zd : Drawn} {zt : Nat} {zo : OsState} {Q E : Value → Shared → Prop} {sc dxs : Addr} {h1 h2 : Int} {t1 t2 : Tok} {Tx : Str} {tT tks : Tok} {k : Int} {g r : List Nat} {rest : List (Addr × Obj)}
    (B : Below A₀ base outer h₀) (F : Fr h₀ L zh m) (X : (Mine.top.heap_1 w.params).In h₀) (T : Top Mine.V loose mean mg mb h₀) (hk : cs.kind = .function) (hdp : dp + 10 < recursionLimit) (hun : un + 100 < cLine)
    (N : News h₀ L zh ((dxs, scD h1 h2 t1 t2 Tx tT k tks) :: rest)) (hsc : (sc, instObj 285 dxs) ∈ rest) (hoff : ∀ q ∈ rest, q.1 ≠ dxs) (hne : @Ne Nat sc dxs)
    (hk0 : 0 ≤ k) (hk1 : k ≤ Tx.length) (hT : Tx.length ≤ 20000) (hd : Tx.cps.toList.drop k.toNat = g ++ r) (hg : g ∈ gapL) (hr : ∀ c, r.head? = some c → c ∉ blankL ∧ c ≠ 37)
    (hQ : ∀ tk2 h' tk', Fr h₀ L h' m → News h₀ L h' ((dxs, scD h1 h2 t1 t2 Tx tT (k + (g.length : Int)) tk2) :: rest) → Q .none ⟨h', zg, zd, tk', zo⟩) :
    wpAny (model prog w) (ktrTop dp un gd cn cs L a ccd cl outer) (call (.ref 254) [.ref sc]) Q E ⟨zh, zg, zd, zt, zo⟩ := by
  have hlT := drop_len hk1 hk0 hd
  rw [List.length_append] at hlT
  have hrb : ∀ c, r.head? = some c → c ∉ (Str.ofString " \t\r\n").cps.toList := fun c hc => by rw [cps_blank]; exact (hr c hc).1
  have hfin := drop_next hk0 hd
  have hS0 : SignIs Tx (k + (g.length : Int)) (r.take 1) := by unfold SignIs; rw [hfin]
  have hS0' : r.take 1 ≠ (Str.ofString "%").cps.toList := by
    rw [cps_pct]
    cases r with
    | nil => simp
    | cons c r => intro e; exact (hr c rfl).2 (by simpa using e)
  refine wpAny_call ?_
  k_dflt (refine' code_def (binds := [(Str.ofString "self", .ref sc)]) ?k1 ?k2 ?k3 ?k4 ?k5 ?kA ?kF ?kK ?k6 ?k7 ?k8 ?k9 ?kB ?_ ?c2 ?c3 ?c4 ?c5; (case kA => exact rfl); (case kF => exact rfl); (case kK => assumption); (case k1 => k_asm); (case k2 => k_asm); (case k3 => k_asm); (case k4 => k_asm); (case k5 => k_asm); (case k6 => k_is); (case k7 => k_is); (case k8 => ktr_room); (case k9 => exact BindsTo.of_eq rfl); (case c5 => decide); (case kB => exact locs rfl); (case c2 => exact rfl); (case c3 => exact rfl); (case c4 => exact rfl); k_whole; intro g' L' h' FG' F' N' B' X' T'; (try dsimp only); (try k_fold); (show let Ab : PySem.Around := ktrTop dp un gd cn cs L a ccd cl outer; let ev : PySem.Env := _; let Ac : PySem.Around := PySem.Around.deeper Ab ev; wpAny _ Ac (PySem.execs _ ev) _ _ _); intro Ab ev Ac; (replace hdp : PySem.Around.depth Ab + _ < _ := hdp); (replace hun : PySem.Around.units Ab + _ < _ := hun))
  rcases gap_ways hg with hg1 | hg1
  · have hu : runL (Str.ofString " \t\r\n") Tx k = g := run_of_drop hd (fun c hc => by rw [cps_blank]; exact hg1 c hc) hrb
    k_steps
    refine Stop.mk ?_
    (with_reducible rename Fr _ _ _ _ => F1)
    (with_reducible rename News _ _ _ _ => N1)
    refine While_inv (L := L') (n₀ := 0) (SkipJ sc dxs (fun kk tkk => scD h1 h2 t1 t2 Tx tT kk tkk) Tx (k + (g.length : Int)) r rest) F1 N1 ⟨_, _, rfl, rfl, .inl ⟨rfl, rfl⟩⟩ ?turn0
    intro n m₁ nx h tk3 F2 N2 hJ
    obtain ⟨kk, tkk, rfl, e1, hw⟩ := hJ.out
    have F3 := fr_put F2 (Str.ofString "self") e1
    dsimp only
    clear F2 hJ F1 N1 N
    rcases hw with ⟨rfl, rfl⟩ | ⟨rfl, hkk, hk00, hdd⟩
    · k_steps
      all_goals (
        (with_reducible rename Fr _ _ _ _ => Fz)
        (with_reducible rename News _ _ _ _ => Nz)
        exact hQ _ _ _ Fz Nz)
    · have hl2 := drop_len (by have := congrArg List.length hdd; rw [List.length_drop, len_cps] at this; simp only [List.length_append, List.length_cons, List.length_nil] at this; omega) hk00 hdd
      simp only [List.length_append, List.length_cons, List.length_nil] at hl2
      have hS1 : SignIs Tx kk [37] := by unfold SignIs; rw [hdd]; rfl
      have hd3 : Tx.cps.toList.drop (kk + 3).toNat = [10] ++ r := drop_next (u := [37, 32, 52]) hk00 hdd
      have hf : Txt.find3 Tx (Str.ofString "\n") kk = kk + 3 := by
        have hv : ∀ j, Tx.cps.toList[kk.toNat + j]? = ([37, 32, 52, 10] ++ r)[j]? := fun j => by rw [← hdd, List.getElem?_drop]
        have := find_nl (x := Tx) (k := kk) (n := kk.toNat + 3) hk00 (fun v h1 h2 => by
          have : v = kk.toNat + 0 ∨ v = kk.toNat + 1 ∨ v = kk.toNat + 2 := by omega
          rcases this with rfl | rfl | rfl <;> rw [hv] <;> simp) (by rw [hv]; rfl) (by omega)
        rw [this]
        omega
      have hu3 : runL (Str.ofString " \t\r\n") Tx (kk + 3) = [10] := run_of_drop hd3 (by rw [cps_blank]; decide) hrb
      k_steps
      all_goals (
        (with_reducible rename Fr _ _ _ _ => Fz)
        (with_reducible rename News _ _ _ _ => Nz)
        exact WhileStep.intro (n' := 0) Fz Nz (by omega) ⟨_, _, rfl, rfl, .inl ⟨rfl, by (try simp only [List.length_cons, List.length_nil] at hkk ⊢); omega⟩⟩)
  · subst hg1
    have hu : runL (Str.ofString " \t\r\n") Tx k = [32] := run_of_drop (r := [37, 32, 52, 10] ++ r) hd (by rw [cps_blank]; decide) (by rw [cps_blank]; intro c hc; cases hc; decide)
    have hd1 : Tx.cps.toList.drop (k + (([32] : List Nat).length : Int)).toNat = [37, 32, 52, 10] ++ r := drop_next (u := [32]) hk0 hd
    k_steps
    refine Stop.mk ?_
    (with_reducible rename Fr _ _ _ _ => F1)
    (with_reducible rename News _ _ _ _ => N1)
    refine While_inv (L := L') (n₀ := 1) (SkipJ sc dxs (fun kk tkk => scD h1 h2 t1 t2 Tx tT kk tkk) Tx (k + (([32, 37, 32, 52, 10] : List Nat).length : Int)) r rest) F1 N1 ⟨k + (([32] : List Nat).length : Int), _, rfl, rfl, .inr ⟨rfl, by simp only [List.length_cons, List.length_nil]; omega, by simp only [List.length_cons, List.length_nil]; omega, hd1⟩⟩ ?turn1
    intro n m₁ nx h tk3 F2 N2 hJ
    obtain ⟨kk, tkk, rfl, e1, hw⟩ := hJ.out
    have F3 := fr_put F2 (Str.ofString "self") e1
    dsimp only
    clear F2 hJ F1 N1 N
    rcases hw with ⟨rfl, rfl⟩ | ⟨rfl, hkk, hk00, hdd⟩
    · k_steps
      all_goals (
        (with_reducible rename Fr _ _ _ _ => Fz)
        (with_reducible rename News _ _ _ _ => Nz)
        exact hQ _ _ _ Fz Nz)
    · have hl2 := drop_len (by have := congrArg List.length hdd; rw [List.length_drop, len_cps] at this; simp only [List.length_append, List.length_cons, List.length_nil] at this; omega) hk00 hdd
      simp only [List.length_append, List.length_cons, List.length_nil] at hl2
      have hS1 : SignIs Tx kk [37] := by unfold SignIs; rw [hdd]; rfl
      have hd3 : Tx.cps.toList.drop (kk + 3).toNat = [10] ++ r := drop_next (u := [37, 32, 52]) hk00 hdd
      have hf : Txt.find3 Tx (Str.ofString "\n") kk = kk + 3 := by
        have hv : ∀ j, Tx.cps.toList[kk.toNat + j]? = ([37, 32, 52, 10] ++ r)[j]? := fun j => by rw [← hdd, List.getElem?_drop]
        have := find_nl (x := Tx) (k := kk) (n := kk.toNat + 3) hk00 (fun v h1 h2 => by
          have : v = kk.toNat + 0 ∨ v = kk.toNat + 1 ∨ v = kk.toNat + 2 := by omega
          rcases this with rfl | rfl | rfl <;> rw [hv] <;> simp) (by rw [hv]; rfl) (by omega)
        rw [this]
        omega
      have hu3 : runL (Str.ofString " \t\r\n") Tx (kk + 3) = [10] := run_of_drop hd3 (by rw [cps_blank]; decide) hrb
      k_steps
      all_goals (
        (with_reducible rename Fr _ _ _ _ => Fz)
        (with_reducible rename News _ _ _ _ => Nz)
        exact WhileStep.intro (n' := 0) Fz Nz (by omega) ⟨_, _, rfl, rfl, .inl ⟨rfl, by (try simp only [List.length_cons, List.length_nil] at hkk ⊢); omega⟩⟩)
theorem skip_K {w : World} {mean : ExcName → Option Value} {mg mb : Str → Option Value} {dp un : Nat} {gd : Option (List Code)} {cn : Str} {cs : Scope} {a : Addr} {ccd : Value} {cl : List (Str × Addr)} {outer : List Env} {A₀ : Around} {base h₀ : Heap} {L : Addr} {m : Str → Option Value} {zh : Heap} {zg : Array GenState} {zd : Drawn} {zt : Nat} {zo : OsState} {Q E : Value → Shared → Prop} {news : List (Addr × Obj)} {gg : Obj → List (Addr × Obj)} {sc dxs : Addr} {h1 h2 : Int} {t1 t2 : Tok} {Tx : Str} {tT tks : Tok} {k kf : Int} {g r : List Nat}
    (B : Below A₀ base outer h₀) (F : Fr h₀ L zh m) (X : (Mine.top.heap_1 w.params).In h₀) (T : Top Mine.V loose mean mg mb h₀) (hk : cs.kind = .function) (hdp : dp + 10 < recursionLimit) (hun : un + 100 < cLine)
    (N : News h₀ L zh news) (hsc : (sc, instObj 285 dxs) ∈ news) (U : UpdF dxs (scD h1 h2 t1 t2 Tx tT k tks) news gg) (hne : @Ne Nat sc dxs)
    (hk0 : 0 ≤ k) (hk1 : k ≤ Tx.length) (hT : Tx.length ≤ 20000) (hd : Tx.cps.toList.drop k.toNat = g ++ r) (hg : g ∈ gapL) (hr : ∀ c, r.head? = some c → c ∉ blankL ∧ c ≠ 37) (hkf : kf = k + (g.length : Int))
    (hQ : ∀ tk2 h' tk', Fr h₀ L h' m → News h₀ L h' (gg (scD h1 h2 t1 t2 Tx tT kf tk2)) → Q .none ⟨h', zg, zd, tk', zo⟩) :
    wpAny (model prog w) (ktrTop dp un gd cn cs L a ccd cl outer) (call (.ref 254) [.ref sc]) Q E ⟨zh, zg, zd, zt, zo⟩ := by
  obtain ⟨rest, r1, r2, r3, r4, r5⟩ := canonF U
  subst hkf
  exact skip_body B F X T hk hdp hun (newsSub N r1) (r4 _ hsc hne) r2 hne hk0 hk1 hT hd hg hr fun tk2 h' tk' F' N' => hQ tk2 h' tk' F' (newsSub N' fun q hq => r3 _ _ hq)
end Mine
theorem Mine.rw_P11_num : True := by
  k_with_none
  (k_with "subscriptTail" => (k_here; (fail_if_success fail_if_success with_reducible show wpAny _ _ (subscriptTail _ _ (Value.ref _) (Value.str _ _)) _ _ _); k_dflt (refine' Mine.d_get ?zzN ?zzm ?zzo ?zzf ?_; (case zzN => k_asm); (case zzm => k_mem); (case zzo => with_reducible assumption); (case zzf => exact rfl); k_whole)))
  (k_with "setItem ref str" => (k_here; (fail_if_success fail_if_success with_reducible show wpAny _ _ (setItem (Value.ref _) (Value.str _ _) _) _ _ _); k_dflt (refine' Mine.d_set ?zzF ?zzN ?zzU ?zzo ?_ ?zzz; (case zzF => k_asm); (case zzN => k_asm); (case zzU => k_updF); (case zzo => with_reducible assumption); (case zzz => exact Nat.le_of_ble_eq_true rfl)); intro _ _ _ _ _; (try k_sweep)))
  (k_with "call builtin:len" => (k_here; (fail_if_success fail_if_success with_reducible show wpAny _ _ (call (Value.builtin "len") [Value.ref _]) _ _ _); k_dflt (refine' Mine.len_L ?zzN ?zzm ?zzb ?_; (case zzN => k_asm); (case zzm => k_mem); (case zzb => omega); k_whole)))
  (k_with "subscriptTail" => (k_here; (fail_if_success fail_if_success with_reducible show wpAny _ _ (subscriptTail _ _ (Value.ref _) (Value.int _ _)) _ _ _); k_dflt (refine' Mine.item_L ?zzN ?zzm ?zza ?zzb ?zzc ?_; (case zzN => k_asm); (case zzm => k_mem); (case zza => omega); (case zzb => omega); (case zzc => omega); k_whole); intro _ _))
  (k_with "subscriptTail" => (k_here; (fail_if_success fail_if_success with_reducible show wpAny _ _ (subscriptTail _ _ (Value.ref _) (Value.int _ _)) _ _ _); k_dflt (refine' Mine.item_LI ?zzN ?zzm ?zzi ?zza ?zzb ?zzc ?_; (case zzN => k_asm); (case zzm => k_mem); (case zzi => with_reducible assumption); (case zza => omega); (case zzb => omega); (case zzc => omega); k_whole); intro _ _))
  (k_with "ite" => first | with_reducible refine PyProof.Rows.ite_tt ?_ | with_reducible refine PyProof.Rows.ite_ff ?_)
  (k_with "execs cons" => (k_here; (try k_gentoks); (with_reducible refine wpAny_execs_cons ?_); (try dsimp only); k_fold))
  (k_with "eval Constant int" => (with_reducible refine Mine.constI ?_))
  (k_with "eval Constant str" => (with_reducible refine Mine.constS ?_))
  (k_with "binaryOp Add int int" => (with_reducible refine Mine.addI ?_))
  (k_with "pyIter ref" => (refine Mine.stop_intro ?_))
  (k_with "exec For Name Call cons nil" => (k_here; (rename Fr _ _ _ _ => lF'); (with_unfolding_all refine' For_invVF lF' ?zzk1 ?zzk2 ?_; (case zzk1 => exact rfl); (case zzk2 => exact rfl); k_whole)))
  (k_with "call type:range" => (k_here; (fail_if_success fail_if_success with_reducible show wpAny _ _ (call _ [Value.int _ _]) _ _ _); k_dflt (refine' Mine.range_1 ?zzF ?zzN ?_; (case zzF => k_asm); (case zzN => k_asm)); intro _ _ _ _ _ _ _ _; (try k_sweep)))
  (k_with "subscriptTail" => (k_here; (fail_if_success fail_if_success with_reducible show wpAny _ _ (subscriptTail _ _ (Value.ref _) (Value.int _ _)) _ _ _); k_dflt (first | (refine' Mine.pick_T (-3) 9 ?zzN ?zzm ?zzi ?zza ?zzb ?zzc ?_; (case zzN => k_asm); (case zzm => k_mem); (case zzi => repeat' (first | exact Mine.IntsIn.nil | (refine Mine.IntsIn.cons (by decide) (by decide) ?_))); (case zza => assumption); (case zzb => assumption); (case zzc => exact Nat.le_of_ble_eq_true rfl); k_whole) | (refine' Mine.pick_T (-3) (10 ^ 30) ?zzN ?zzm ?zzi ?zza ?zzb ?zzc ?_; (case zzN => k_asm); (case zzm => k_mem); (case zzi => repeat' (first | exact Mine.IntsIn.nil | (refine Mine.IntsIn.cons (by decide) (by decide) ?_))); (case zza => assumption); (case zzb => assumption); (case zzc => exact Nat.le_of_ble_eq_true rfl); k_whole)); intro _ _ _ _))
  (k_with "subscriptTail" => (k_here; (fail_if_success fail_if_success with_reducible show wpAny _ _ (subscriptTail _ (Expr.Slice (some _) (some _) none _) (Value.str _ _) (Value.ref _)) _ _ _); k_dflt (refine' Mine.str_slice (s := ⟨_, _, _, _, _⟩) ?zzF ?zzN ?zza ?zzb ?zzc ?zzd ?_ ?zzs ?zzt; (case zzF => k_asm); (case zzN => k_asm); (case zza => omega); (case zzb => omega); (case zzc => omega); (case zzd => omega); (case zzs => with_unfolding_all rfl); (case zzt => kmk_pure)); intro _ _ _ _ _ _ _; (try k_sweep)))
  (k_with "subscriptTail" => (k_here; (fail_if_success fail_if_success with_reducible show wpAny _ _ (subscriptTail _ _ (Value.str _ _) (Value.int _ _)) _ _ _); k_dflt (refine' Mine.str_item ?zza ?zzb ?zzc ?_; (case zza => omega); (case zzb => omega); (case zzc => omega)); intro _ _ _ _))
  (k_with "compareOp In str str" => (k_here; (fail_if_success fail_if_success with_reducible show wpAny _ _ (compareOp CmpOp.In (Value.str _ _) (Value.str _ _)) _ _ _); (refine Mine.str_in (by with_reducible assumption) ?_); intro _ _))
  (k_with "exec While Compare cons nil" => (refine Mine.stop_intro ?_))
  (k_with "exec While BoolOp cons nil" => (refine Mine.stop_intro ?_))
  (k_with "exec While UnaryOp cons nil" => (refine Mine.stop_intro ?_))
  (k_with "exec While Constant cons nil" => (refine Mine.stop_intro ?_))
  (k_with "exec While" => (refine Mine.stop_intro ?_))
  (k_with "call" => ((fail_if_success fail_if_success with_reducible show wpAny _ _ (call (Prod.fst _) _) _ _ _); dsimp only [List.cons_append, List.nil_append, List.append_nil]))
  (k_with "call ref" => (k_here; (fail_if_success fail_if_success with_reducible show wpAny _ _ (call (Value.ref 247) [Value.ref _]) _ _ _); k_dflt (refine' Mine.sign_K ?zzB ?zzF ?zzX ?zzT ?zzhk ?zzhd ?zzhu ?zzN ?zzsc ?zzdd ?zzk0 ?zzk1 ?zzhT ?zzhl ?_; (case zzB => k_asm); (case zzF => k_asm); (case zzX => k_asm); (case zzT => k_asm); (case zzhk => first | exact rfl | assumption); (case zzN => k_asm); (case zzsc => k_mem); (case zzdd => k_mem); (case zzhl => with_reducible assumption); (case zzk0 => omega); (case zzk1 => omega); (case zzhT => omega); (case zzhd => ktr_room); (case zzhu => ktr_units)); intro _ _ _ _ _ _ _; (try dsimp only); (try k_fold); (try k_sweep)))
  (k_with "call ref" => (k_here; (fail_if_success fail_if_success with_reducible show wpAny _ _ (call (Value.ref 261) [Value.ref _, Value.str _ _]) _ _ _); k_dflt (refine' Mine.runof_K ?zzB ?zzF ?zzX ?zzT ?zzhk ?zzhd ?zzhu ?zzN ?zzsc ?zzU ?zzne ?zzk0 ?zzk1 ?zzhT ?zzhl ?_; (case zzB => k_asm); (case zzF => k_asm); (case zzX => k_asm); (case zzT => k_asm); (case zzhk => first | exact rfl | assumption); (case zzN => k_asm); (case zzsc => k_mem); (case zzU => k_updF); (case zzne => k_ne); (case zzhl => with_reducible assumption); (case zzk0 => omega); (case zzk1 => omega); (case zzhT => omega); (case zzhd => ktr_room); (case zzhu => ktr_units)); intro _ _ _ _ _ hy9 _ _; have hyl9 := Mine.len_of hy9; (try dsimp only); (try k_fold); (try k_sweep)))
  (k_with "compareOp Eq str str" => (k_here; (fail_if_success fail_if_success with_reducible show wpAny _ _ (compareOp CmpOp.Eq (Value.str _ _) (Value.str _ _)) _ _ _); first | (refine' Mine.str_eq_t ?zzhy ?zzhz ?_; (case zzhy => with_reducible assumption); (case zzhz => first | with_reducible assumption | decide +kernel)) | (refine' Mine.str_eq_f ?zzhy ?zzhz ?_; (case zzhy => with_reducible assumption); (case zzhz => first | with_reducible assumption | decide +kernel))))
  (k_with "call builtin:str.find" => (k_here; (refine Mine.str_find_at (by with_reducible assumption) ?_)))
  (k_with "call type:int" => (k_here; (fail_if_success fail_if_success with_reducible show wpAny _ _ (call (Value.type _) [Value.str _ _]) _ _ _); k_dflt (refine' Mine.int_D ?zza ?zzb ?zzc ?zzd ?_; (case zza => with_reducible assumption); (case zzb => with_reducible assumption); (case zzc => with_reducible assumption); (case zzd => omega))))
  trivial
namespace Mine
open PySem PySem.W PyProof.Rows PySem.Calls PyProof.V PySem.Spec PySem.NumText
set_option maxHeartbeats 2000000 in
theorem num_body {w : World} {mean : ExcName → Option Value} {mg mb : Str → Option Value} {dp un : Nat} {gd : Option (List Code)} {cn : Str} {cs : Scope} {a : Addr} {ccd : Value} {cl : List (Str × Addr)} {outer : List Env} {A₀ : Around} {base h₀ : Heap} {L : Addr} {m : Str → Option Value} {zh : Heap} {zg : Array GenState} {zd : Drawn} {zt : Nat} {zo : OsState} {Q E : Value → Shared → Prop} {sc dxs : Addr} {h1 h2 : Int} {t1 t2 : Tok} {Tx : Str} {tT tks : Tok} {k n : Int} {wr r : List Nat} {rest : List (Addr × Obj)}
    (B : Below A₀ base outer h₀) (F : Fr h₀ L zh m) (X : (Mine.top.heap_1 w.params).In h₀) (T : Top Mine.V loose mean mg mb h₀) (hk : cs.kind = .function) (hdp : dp + 10 < recursionLimit) (hun : un + 100 < cLine)
    (N : News h₀ L zh ((dxs, scD h1 h2 t1 t2 Tx tT k tks) :: rest)) (hsc : (sc, instObj 285 dxs) ∈ rest) (hoff : ∀ q ∈ rest, q.1 ≠ dxs) (hne : @Ne Nat sc dxs)
    (hk0 : 0 ≤ k) (hk1 : k ≤ Tx.length) (hT : Tx.length ≤ 20000) (hd : Tx.cps.toList.drop k.toNat = wr ++ r) (hw : NumW n wr) (hr : ∀ c, r.head? = some c → c ∉ digL)
    (hQ : ∀ t tk2 h' tk', Fr h₀ L h' m → News h₀ L h' ((dxs, scD h1 h2 t1 t2 Tx tT (k + (wr.length : Int)) tk2) :: rest) → Q (.int n t) ⟨h', zg, zd, tk', zo⟩) :
    wpAny (model prog w) (ktrTop dp un gd cn cs L a ccd cl outer) (call (.ref 275) [.ref sc]) Q E ⟨zh, zg, zd, zt, zo⟩ := by
  have hlT := drop_len hk1 hk0 hd
  rw [List.length_append] at hlT
  obtain ⟨neg, ds, hw1, hw2, hw3, hw4, hw5⟩ := hw
  have hds : 0 < ds.length := List.length_pos_iff.mpr hw3
  have hw3' : ds ≠ (Str.ofString "").cps.toList := by rw [cps_nil]; exact hw3
  have hall : ∀ c ∈ ds, c ∈ (Str.ofString "0123456789").cps.toList := fun c hc => by rw [cps_dig]; exact dig_mem (hw2 c hc)
  refine wpAny_call ?_
  k_dflt (refine' code_def (binds := [(Str.ofString "self", .ref sc)]) ?k1 ?k2 ?k3 ?k4 ?k5 ?kA ?kF ?kK ?k6 ?k7 ?k8 ?k9 ?kB ?_ ?c2 ?c3 ?c4 ?c5; (case kA => exact rfl); (case kF => exact rfl); (case kK => assumption); (case k1 => k_asm); (case k2 => k_asm); (case k3 => k_asm); (case k4 => k_asm); (case k5 => k_asm); (case k6 => k_is); (case k7 => k_is); (case k8 => ktr_room); (case k9 => exact BindsTo.of_eq rfl); (case c5 => decide); (case kB => exact locs rfl); (case c2 => exact rfl); (case c3 => exact rfl); (case c4 => exact rfl); k_whole; intro g' L' h' FG' F' N' B' X' T'; (try dsimp only); (try k_fold); (show let Ab : PySem.Around := ktrTop dp un gd cn cs L a ccd cl outer; let ev : PySem.Env := _; let Ac : PySem.Around := PySem.Around.deeper Ab ev; wpAny _ Ac (PySem.execs _ ev) _ _ _); intro Ab ev Ac; (replace hdp : PySem.Around.depth Ab + _ < _ := hdp); (replace hun : PySem.Around.units Ab + _ < _ := hun))
  cases neg with
  | true =>
    subst hw1 hw5
    simp only [bodyOf, ↓reduceIte, List.length_cons] at hlT hd hQ
    have hS : SignIs Tx k [45] := by unfold SignIs; rw [hd]; rfl
    have hd1 : Tx.cps.toList.drop (k + 1).toNat = ds ++ r := drop_next (u := [45]) hk0 hd
    have hu : runL (Str.ofString "0123456789") Tx (k + 1) = ds := run_of_drop hd1 hall (by rw [cps_dig]; exact hr)
    have hQ' : ∀ t tk2 h' tk', Fr h₀ L h' m → News h₀ L h' ((dxs, scD h1 h2 t1 t2 Tx tT (k + 1 + (ds.length : Int)) tk2) :: rest) → Q (.int (-((digitsVal ds : Nat) : Int)) t) ⟨h', zg, zd, tk', zo⟩ := fun t tk2 h' tk' a b => hQ t tk2 h' tk' a (by rw [show k + ((ds.length + 1 : Nat) : Int) = k + 1 + (ds.length : Int) by omega]; exact b)
    clear hQ
    k_steps
    all_goals (
      (with_reducible rename Fr _ _ _ _ => Fz)
      (with_reducible rename News _ _ _ _ => Nz)
      exact hQ' _ _ _ _ Fz (newsSub Nz fun q hq => by repeat (first | exact hq | refine .tail _ ?_)))
  | false =>
    subst hw5
    have hw1' : ds = wr := hw1.symm
    subst hw1'
    obtain ⟨c, ds', rfl⟩ : ∃ c ds', ds = c :: ds' := by cases ds with
      | nil => exact absurd rfl hw3
      | cons c ds' => exact ⟨c, ds', rfl⟩
    have hS : SignIs Tx k [c] := by unfold SignIs; rw [hd]; rfl
    have hc45 : [c] ≠ (Str.ofString "-").cps.toList := by
      rw [cps_min]
      intro e
      have := hw2 c List.mem_cons_self
      have : c = 45 := by simpa using e
      omega
    have hu : runL (Str.ofString "0123456789") Tx k = c :: ds' := run_of_drop hd hall (by rw [cps_dig]; exact hr)
    simp only [valOf, Bool.false_eq_true, ↓reduceIte] at hQ
    k_steps
    all_goals (
      (with_reducible rename Fr _ _ _ _ => Fz)
      (with_reducible rename News _ _ _ _ => Nz)
      exact hQ _ _ _ _ Fz (newsSub Nz fun q hq => by repeat (first | exact hq | refine .tail _ ?_)))
theorem num_K {w : World} {mean : ExcName → Option Value} {mg mb : Str → Option Value} {dp un : Nat} {gd : Option (List Code)} {cn : Str} {cs : Scope} {a : Addr} {ccd : Value} {cl : List (Str × Addr)} {outer : List Env} {A₀ : Around} {base h₀ : Heap} {L : Addr} {m : Str → Option Value} {zh : Heap} {zg : Array GenState} {zd : Drawn} {zt : Nat} {zo : OsState} {Q E : Value → Shared → Prop} {news : List (Addr × Obj)} {gg : Obj → List (Addr × Obj)} {sc dxs : Addr} {h1 h2 : Int} {t1 t2 : Tok} {Tx : Str} {tT tks : Tok} {k kf n : Int} {wr r : List Nat}
    (B : Below A₀ base outer h₀) (F : Fr h₀ L zh m) (X : (Mine.top.heap_1 w.params).In h₀) (T : Top Mine.V loose mean mg mb h₀) (hk : cs.kind = .function) (hdp : dp + 10 < recursionLimit) (hun : un + 100 < cLine)
    (N : News h₀ L zh news) (hsc : (sc, instObj 285 dxs) ∈ news) (U : UpdF dxs (scD h1 h2 t1 t2 Tx tT k tks) news gg) (hne : @Ne Nat sc dxs)
    (hk0 : 0 ≤ k) (hk1 : k ≤ Tx.length) (hT : Tx.length ≤ 20000) (hd : Tx.cps.toList.drop k.toNat = wr ++ r) (hw : NumW n wr) (hr : ∀ c, r.head? = some c → c ∉ digL) (hkf : kf = k + (wr.length : Int))
    (hQ : ∀ t tk2 h' tk', Fr h₀ L h' m → News h₀ L h' (gg (scD h1 h2 t1 t2 Tx tT kf tk2)) → Q (.int n t) ⟨h', zg, zd, tk', zo⟩) :
    wpAny (model prog w) (ktrTop dp un gd cn cs L a ccd cl outer) (call (.ref 275) [.ref sc]) Q E ⟨zh, zg, zd, zt, zo⟩ := by
  obtain ⟨rest, r1, r2, r3, r4, r5⟩ := canonF U
  subst hkf
  exact num_body B F X T hk hdp hun (newsSub N r1) (r4 _ hsc hne) r2 hne hk0 hk1 hT hd hw hr fun t tk2 h' tk' F' N' => hQ t tk2 h' tk' F' (newsSub N' fun q hq => r3 _ _ hq)
end Mine
namespace Mine
open PySem PySem.W PyProof.Rows PySem.Calls PyProof.V PySem.Spec PySem.NumText
theorem cps_quote : (Str.ofString "\"").cps.toList = [34] := by decide +kernel
theorem cps_dots : (Str.ofString "..").cps.toList = [46, 46] := by decide +kernel
def KindIs (k : TokD) (K : Str) (vv : Value) : Prop :=
  (∃ n t, k.worth = some n ∧ K = Str.ofString "number" ∧ vv = .int n t) ∨
  (k.worth = none ∧ ∃ y t, vv = .str y t ∧ y.cps.toList = k.txt ∧ ((k.txt = [] ∧ K = Str.ofString "end") ∨ (k.txt = [120] ∧ K = Str.ofString "word") ∨ (k.txt ∈ lateL ∧ K = Str.ofString "sign")))
def TokO (k : TokD) (o : Obj) : Prop := ∃ (K : Str) (vv : Value) (t t2 : Tok), o = tupO [.str K t, vv, .int (k.pos : Int) t2] ∧ KindIs k K vv
def RestIs (Tx : Str) (k : Nat) (ks : List TokD) : Prop := ks = [] ∨ ∃ b, Sfx b (Tx.cps.toList.drop k) k ks
theorem allLt_of {b : Addr} : ∀ {l : List (Addr × Obj)}, (∀ q ∈ l, q.1 < b) → AllLt b l
  | [], _ => trivial
  | _ :: _, h => ⟨h _ List.mem_cons_self, allLt_of fun q hq => h q (List.mem_cons_of_mem _ hq)⟩
/-- the first sign of a token -/
theorem rowD_head {w : Option Int} {x r : List Nat} (h : RowD w x) : ∃ c u, x ++ r = c :: u ∧ c ∉ blankL ∧ c ≠ 37 := by
  rcases h with ⟨_, hx⟩ | ⟨n, _, ⟨neg, ds, rfl, hd, hne, _, _⟩, _⟩
  · have : ∀ y ∈ signL, ∃ c u, y = c :: u ∧ c ∉ blankL ∧ c ≠ 37 := by
      intro y hy
      simp only [signL, List.mem_cons, List.not_mem_nil, or_false] at hy
      rcases hy with rfl | rfl | rfl | rfl | rfl | rfl <;> exact ⟨_, _, rfl, by decide, by decide⟩
    obtain ⟨c, u, rfl, a, b⟩ := this x hx
    exact ⟨c, u ++ r, rfl, a, b⟩
  · cases neg with
    | true => exact ⟨45, ds ++ r, rfl, by decide, by decide⟩
    | false =>
      cases ds with
      | nil => exact absurd rfl hne
      | cons c ds =>
        have := hd c List.mem_cons_self
        refine ⟨c, ds ++ r, rfl, ?_, by omega⟩
        intro hc
        simp only [blankL, List.mem_cons, List.not_mem_nil, or_false] at hc
        omega
/-- letters, digits: what goes on with a word -/
def wordish (c : Nat) : Prop := (48 ≤ c ∧ c ≤ 57) ∨ (65 ≤ c ∧ c ≤ 90) ∨ (97 ≤ c ∧ c ≤ 122) ∨ c = 95
theorem cps_let : (Str.ofString "abcdefghijklmnopqrstuvwxyzABCDEFGHIJKLMNOPQRSTUVWXYZ_").cps.toList = List.range' 97 26 ++ List.range' 65 26 ++ [95] := by decide +kernel
theorem not_wordish {c : Nat} (h : ¬ wordish c) : c ∉ (Str.ofString "abcdefghijklmnopqrstuvwxyzABCDEFGHIJKLMNOPQRSTUVWXYZ_").cps.toList ++ (Str.ofString "0123456789").cps.toList := by
  rw [cps_let, cps_dig]
  exact fun hc => h ((by unfold wordish; decide +kernel : ∀ x ∈ List.range' 97 26 ++ List.range' 65 26 ++ [95] ++ digL, wordish x) c hc)
theorem one_ne {a b : Nat} (h : a ≠ b) : [a] ≠ [b] := fun e => h (by simpa using e)
theorem dig_back {c : Nat} (h : c ∈ digL) : 48 ≤ c ∧ c ≤ 57 := by
  exact (by decide : ∀ x ∈ digL, 48 ≤ x ∧ x ≤ 57) c h
/-- behind a number or a word no digit, no letter -/
theorem sfx_head {s : List Nat} {off : Nat} {ks : List TokD} (h : Sfx false s off ks) : ∀ c, s.head? = some c → ¬ wordish c := by
  intro c hc
  cases h with
  | fin => cases hc
  | @cons _ g x r _ w ks hg hr hb _ =>
    have hgl : ∀ y ∈ gapL, y ≠ [] → ∃ c u, y = c :: u ∧ c < 48 := by
      intro y hy hne
      simp only [gapL, List.mem_cons, List.not_mem_nil, or_false] at hy
      rcases hy with rfl | rfl | rfl | rfl | rfl
      · exact absurd rfl hne
      all_goals exact ⟨_, _, rfl, by decide⟩
    have hll : ∀ y ∈ lateL, ∃ c u, y = c :: u ∧ (c = 46 ∨ c = 123 ∨ c = 125 ∨ c = 44 ∨ c = 58) := by
      intro y hy
      simp only [lateL, List.mem_cons, List.not_mem_nil, or_false] at hy
      rcases hy with rfl | rfl | rfl | rfl | rfl <;> exact ⟨_, _, rfl, by decide⟩
    by_cases hg0 : g = []
    · subst hg0
      rcases hb with hb | hb | hb
      · exact absurd rfl hb
      · cases hb
      · obtain ⟨c', u, rfl, hc'⟩ := hll x hb
        have : c' = c := by simpa using hc
        subst this
        unfold wordish
        rcases hc' with rfl | rfl | rfl | rfl | rfl <;> decide
    · obtain ⟨c', u, rfl, hc'⟩ := hgl g hg hg0
      have : c' = c := by simpa using hc
      subst this
      unfold wordish
      omega
theorem numW_late {n : Int} {x : List Nat} (h : NumW n x) : x ∉ lateL := by
  obtain ⟨neg, ds, rfl, hd, hne, _, _⟩ := h
  intro hx
  cases neg with
  | true =>
    simp only [bodyOf, if_true, lateL, List.mem_cons, List.not_mem_nil, or_false] at hx
    rcases hx with hx | hx | hx | hx | hx <;> simp at hx
  | false =>
    cases ds with
    | nil => exact hne rfl
    | cons c ds =>
      have := hd c List.mem_cons_self
      simp only [bodyOf, Bool.false_eq_true, ↓reduceIte, lateL, List.mem_cons, List.not_mem_nil, or_false] at hx
      rcases hx with hx | hx | hx | hx | hx <;> simp at hx <;> omega
theorem tok_sub {l rest : List (Addr × Obj)} {td dxs : Addr} {nn : Nat} {K : Str} {tA tB : Tok} {vv : Value} {pos : Int} {od : Obj} (m1 : (td, ({ cls := .type "tuple", data := .seq #[.str K tA, vv, .int pos tB] nn } : Obj)) ∈ l) (h0 : nn = 0) (m2 : (dxs, od) ∈ l) (m3 : ∀ q ∈ rest, q ∈ l) :
    ∀ q ∈ (td, tupO [.str K tA, vv, .int pos tB]) :: (dxs, od) :: rest, q ∈ l := by
  subst h0
  intro q hq
  rcases List.mem_cons.mp hq with rfl | hq
  · exact m1
  · rcases List.mem_cons.mp hq with rfl | hq
    · exact m2
    · exact m3 q hq
end Mine
theorem Mine.rw_P12_token : True := by
  k_with_none
  (k_with "subscriptTail" => (k_here; (fail_if_success fail_if_success with_reducible show wpAny _ _ (subscriptTail _ _ (Value.ref _) (Value.str _ _)) _ _ _); k_dflt (refine' Mine.d_get ?zzN ?zzm ?zzo ?zzf ?_; (case zzN => k_asm); (case zzm => k_mem); (case zzo => with_reducible assumption); (case zzf => exact rfl); k_whole)))
  (k_with "setItem ref str" => (k_here; (fail_if_success fail_if_success with_reducible show wpAny _ _ (setItem (Value.ref _) (Value.str _ _) _) _ _ _); k_dflt (refine' Mine.d_set ?zzF ?zzN ?zzU ?zzo ?_ ?zzz; (case zzF => k_asm); (case zzN => k_asm); (case zzU => k_updF); (case zzo => with_reducible assumption); (case zzz => exact Nat.le_of_ble_eq_true rfl)); intro _ _ _ _ _; (try k_sweep)))
  (k_with "call builtin:len" => (k_here; (fail_if_success fail_if_success with_reducible show wpAny _ _ (call (Value.builtin "len") [Value.ref _]) _ _ _); k_dflt (refine' Mine.len_L ?zzN ?zzm ?zzb ?_; (case zzN => k_asm); (case zzm => k_mem); (case zzb => omega); k_whole)))
  (k_with "subscriptTail" => (k_here; (fail_if_success fail_if_success with_reducible show wpAny _ _ (subscriptTail _ _ (Value.ref _) (Value.int _ _)) _ _ _); k_dflt (refine' Mine.item_L ?zzN ?zzm ?zza ?zzb ?zzc ?_; (case zzN => k_asm); (case zzm => k_mem); (case zza => omega); (case zzb => omega); (case zzc => omega); k_whole); intro _ _))
  (k_with "subscriptTail" => (k_here; (fail_if_success fail_if_success with_reducible show wpAny _ _ (subscriptTail _ _ (Value.ref _) (Value.int _ _)) _ _ _); k_dflt (refine' Mine.item_LI ?zzN ?zzm ?zzi ?zza ?zzb ?zzc ?_; (case zzN => k_asm); (case zzm => k_mem); (case zzi => with_reducible assumption); (case zza => omega); (case zzb => omega); (case zzc => omega); k_whole); intro _ _))
  (k_with "ite" => first | with_reducible refine PyProof.Rows.ite_tt ?_ | with_reducible refine PyProof.Rows.ite_ff ?_)
  (k_with "execs cons" => (k_here; (try k_gentoks); (with_reducible refine wpAny_execs_cons ?_); (try dsimp only); k_fold))
  (k_with "eval Constant int" => (with_reducible refine Mine.constI ?_))
  (k_with "eval Constant str" => (with_reducible refine Mine.constS ?_))
  (k_with "binaryOp Add int int" => (with_reducible refine Mine.addI ?_))
  (k_with "pyIter ref" => (refine Mine.stop_intro ?_))
  (k_with "exec For Name Call cons nil" => (k_here; (rename Fr _ _ _ _ => lF'); (with_unfolding_all refine' For_invVF lF' ?zzk1 ?zzk2 ?_; (case zzk1 => exact rfl); (case zzk2 => exact rfl); k_whole)))
  (k_with "call type:range" => (k_here; (fail_if_success fail_if_success with_reducible show wpAny _ _ (call _ [Value.int _ _]) _ _ _); k_dflt (refine' Mine.range_1 ?zzF ?zzN ?_; (case zzF => k_asm); (case zzN => k_asm)); intro _ _ _ _ _ _ _ _; (try k_sweep)))
  (k_with "subscriptTail" => (k_here; (fail_if_success fail_if_success with_reducible show wpAny _ _ (subscriptTail _ _ (Value.ref _) (Value.int _ _)) _ _ _); k_dflt (first | (refine' Mine.pick_T (-3) 9 ?zzN ?zzm ?zzi ?zza ?zzb ?zzc ?_; (case zzN => k_asm); (case zzm => k_mem); (case zzi => repeat' (first | exact Mine.IntsIn.nil | (refine Mine.IntsIn.cons (by decide) (by decide) ?_))); (case zza => assumption); (case zzb => assumption); (case zzc => exact Nat.le_of_ble_eq_true rfl); k_whole) | (refine' Mine.pick_T (-3) (10 ^ 30) ?zzN ?zzm ?zzi ?zza ?zzb ?zzc ?_; (case zzN => k_asm); (case zzm => k_mem); (case zzi => repeat' (first | exact Mine.IntsIn.nil | (refine Mine.IntsIn.cons (by decide) (by decide) ?_))); (case zza => assumption); (case zzb => assumption); (case zzc => exact Nat.le_of_ble_eq_true rfl); k_whole)); intro _ _ _ _))
  (k_with "subscriptTail" => (k_here; (fail_if_success fail_if_success with_reducible show wpAny _ _ (subscriptTail _ (Expr.Slice (some _) (some _) none _) (Value.str _ _) (Value.ref _)) _ _ _); k_dflt (refine' Mine.str_slice (s := ⟨_, _, _, _, _⟩) ?zzF ?zzN ?zza ?zzb ?zzc ?zzd ?_ ?zzs ?zzt; (case zzF => k_asm); (case zzN => k_asm); (case zza => omega); (case zzb => omega); (case zzc => omega); (case zzd => omega); (case zzs => with_unfolding_all rfl); (case zzt => kmk_pure)); intro _ _ _ _ _ _ _; (try k_sweep)))
  (k_with "subscriptTail" => (k_here; (fail_if_success fail_if_success with_reducible show wpAny _ _ (subscriptTail _ _ (Value.str _ _) (Value.int _ _)) _ _ _); k_dflt (refine' Mine.str_item ?zza ?zzb ?zzc ?_; (case zza => omega); (case zzb => omega); (case zzc => omega)); intro _ _ _ _))
  (k_with "compareOp In str str" => (k_here; (fail_if_success fail_if_success with_reducible show wpAny _ _ (compareOp CmpOp.In (Value.str _ _) (Value.str _ _)) _ _ _); (refine Mine.str_in (by with_reducible assumption) ?_); intro _ _))
  (k_with "exec While Compare cons nil" => (refine Mine.stop_intro ?_))
  (k_with "exec While BoolOp cons nil" => (refine Mine.stop_intro ?_))
  (k_with "exec While UnaryOp cons nil" => (refine Mine.stop_intro ?_))
  (k_with "exec While Constant cons nil" => (refine Mine.stop_intro ?_))
  (k_with "exec While" => (refine Mine.stop_intro ?_))
  (k_with "call" => ((fail_if_success fail_if_success with_reducible show wpAny _ _ (call (Prod.fst _) _) _ _ _); dsimp only [List.cons_append, List.nil_append, List.append_nil]))
  (k_with "call ref" => (k_here; (fail_if_success fail_if_success with_reducible show wpAny _ _ (call (Value.ref 247) [Value.ref _]) _ _ _); k_dflt (refine' Mine.sign_K ?zzB ?zzF ?zzX ?zzT ?zzhk ?zzhd ?zzhu ?zzN ?zzsc ?zzdd ?zzk0 ?zzk1 ?zzhT ?zzhl ?_; (case zzB => k_asm); (case zzF => k_asm); (case zzX => k_asm); (case zzT => k_asm); (case zzhk => first | exact rfl | assumption); (case zzN => k_asm); (case zzsc => k_mem); (case zzdd => k_mem); (case zzhl => with_reducible assumption); (case zzk0 => omega); (case zzk1 => omega); (case zzhT => omega); (case zzhd => ktr_room); (case zzhu => ktr_units)); intro _ _ _ _ _ _ _; (try dsimp only); (try k_fold); (try k_sweep)))
  (k_with "call ref" => (k_here; (fail_if_success fail_if_success with_reducible show wpAny _ _ (call (Value.ref 261) [Value.ref _, Value.str _ _]) _ _ _); k_dflt (refine' Mine.runof_K ?zzB ?zzF ?zzX ?zzT ?zzhk ?zzhd ?zzhu ?zzN ?zzsc ?zzU ?zzne ?zzk0 ?zzk1 ?zzhT ?zzhl ?_; (case zzB => k_asm); (case zzF => k_asm); (case zzX => k_asm); (case zzT => k_asm); (case zzhk => first | exact rfl | assumption); (case zzN => k_asm); (case zzsc => k_mem); (case zzU => k_updF); (case zzne => k_ne); (case zzhl => with_reducible assumption); (case zzk0 => omega); (case zzk1 => omega); (case zzhT => omega); (case zzhd => ktr_room); (case zzhu => ktr_units)); intro _ _ _ _ _ hy9 _ _; have hyl9 := Mine.len_of hy9; (try dsimp only); (try k_fold); (try k_sweep)))
  (k_with "compareOp Eq str str" => (k_here; (fail_if_success fail_if_success with_reducible show wpAny _ _ (compareOp CmpOp.Eq (Value.str _ _) (Value.str _ _)) _ _ _); first | (refine' Mine.str_eq_t ?zzhy ?zzhz ?_; (case zzhy => with_reducible assumption); (case zzhz => first | with_reducible assumption | decide +kernel)) | (refine' Mine.str_eq_f ?zzhy ?zzhz ?_; (case zzhy => with_reducible assumption); (case zzhz => first | with_reducible assumption | decide +kernel))))
  (k_with "call builtin:str.find" => (k_here; (refine Mine.str_find_at (by with_reducible assumption) ?_)))
  (k_with "call ref" => (k_here; (fail_if_success fail_if_success with_reducible show wpAny _ _ (call (Value.ref 254) [Value.ref _]) _ _ _); k_dflt (refine' Mine.skip_K ?zzB ?zzF ?zzX ?zzT ?zzhk ?zzhd ?zzhu ?zzN ?zzsc ?zzU ?zzne ?zzk0 ?zzk1 ?zzhT ?zzhl ?zzhg ?zzhr ?zzkf ?_; (case zzB => k_asm); (case zzF => k_asm); (case zzX => k_asm); (case zzT => k_asm); (case zzhk => first | exact rfl | assumption); (case zzN => k_asm); (case zzsc => k_mem); (case zzU => k_updF); (case zzne => k_ne); (case zzhl => with_reducible assumption); (case zzhg => with_reducible assumption); (case zzhr => with_reducible assumption); (case zzkf => with_reducible assumption); (case zzk0 => omega); (case zzk1 => omega); (case zzhT => omega); (case zzhd => ktr_room); (case zzhu => ktr_units)); intro _ _ _ _ _; (try dsimp only); (try k_fold); (try k_sweep)))
  (k_with "call ref" => (k_here; (fail_if_success fail_if_success with_reducible show wpAny _ _ (call (Value.ref 275) [Value.ref _]) _ _ _); k_dflt (refine' Mine.num_K ?zzB ?zzF ?zzX ?zzT ?zzhk ?zzhd ?zzhu ?zzN ?zzsc ?zzU ?zzne ?zzk0 ?zzk1 ?zzhT ?zzhl ?zzhw ?zzhr ?zzkf ?_; (case zzB => k_asm); (case zzF => k_asm); (case zzX => k_asm); (case zzT => k_asm); (case zzhk => first | exact rfl | assumption); (case zzN => k_asm); (case zzsc => k_mem); (case zzU => k_updF); (case zzne => k_ne); (case zzhw => with_reducible assumption); (case zzhl => with_reducible assumption); (case zzhr => with_reducible assumption); (case zzkf => with_reducible assumption); (case zzk0 => omega); (case zzk1 => omega); (case zzhT => omega); (case zzhd => ktr_room); (case zzhu => ktr_units)); intro _ _ _ _ _ _; (try dsimp only); (try k_fold); (try k_sweep)))
  (k_with "compareOp In str str" => (k_here; (fail_if_success fail_if_success with_reducible show wpAny _ _ (compareOp CmpOp.In (Value.str _ _) (Value.str _ _)) _ _ _); first | (refine' Mine.str_in_t ?zzhy ?zzhz ?_; (case zzhy => with_reducible assumption); (case zzhz => first | with_reducible assumption | decide +kernel)) | (refine' Mine.str_in_f ?zzhy ?zzhz ?_; (case zzhy => with_reducible assumption); (case zzhz => first | with_reducible assumption | decide +kernel))))
  (k_with "compareOp NotIn str str" => (k_here; (fail_if_success fail_if_success with_reducible show wpAny _ _ (compareOp CmpOp.NotIn (Value.str _ _) (Value.str _ _)) _ _ _); (refine' Mine.str_notin_t ?zzhy ?zzhz ?_; (case zzhy => with_reducible assumption); (case zzhz => first | with_reducible assumption | decide +kernel))))
  trivial
namespace Mine
open PySem PySem.W PyProof.Rows PySem.Calls PyProof.V PySem.Spec PySem.NumText
set_option maxHeartbeats 2000000 in
theorem tok_end {w : World} {mean : ExcName → Option Value} {mg mb : Str → Option Value} {dp un : Nat} {gd : Option (List Code)} {cn : Str} {cs : Scope} {a : Addr} {ccd : Value} {cl : List (Str × Addr)} {outer : List Env} {A₀ : Around} {base h₀ : Heap} {L : Addr} {m : Str → Option Value} {zh : Heap} {zg : Array GenState} {zd : Drawn} {zt : Nat} {zo : OsState} {Q E : Value → Shared → Prop} {sc dxs : Addr} {h1 h2 : Int} {t1 t2 : Tok} {Tx : Str} {tT tks : Tok} {k pos : Nat} {g u : List Nat} {rest : List (Addr × Obj)} 
    (B : Below A₀ base outer h₀) (F : Fr h₀ L zh m) (X : (Mine.top.heap_1 w.params).In h₀) (T : Top Mine.V loose mean mg mb h₀) (hk : cs.kind = .function) (hdp : dp + 20 < recursionLimit) (hun : un + 200 < cLine)
    (N : News h₀ L zh ((dxs, scD h1 h2 t1 t2 Tx tT (k : Int) tks) :: rest)) (hsc : (sc, instObj 285 dxs) ∈ rest) (hoff : ∀ q ∈ rest, q.1 ≠ dxs) (hne : @Ne Nat sc dxs)
    (hk1 : (k : Int) ≤ Tx.length) (hT : Tx.length ≤ 20000) (hd : Tx.cps.toList.drop (k : Int).toNat = g ++ u) (hg : g ∈ gapL) (hr : ∀ c, u.head? = some c → c ∉ blankL ∧ c ≠ 37) (hpos : (pos : Int) = (k : Int) + (g.length : Int))
    (hQ : ∀ td tA tB vv tk2 h' tk' kf, (kf : Int) = (pos : Int) + 0 → (∃ y t, vv = .str y t ∧ y.cps.toList = []) → dxs < td → (∀ q ∈ rest, q.1 < td) → Fr h₀ L h' m → News h₀ L h' ((td, tupO [.str (Str.ofString "end") tA, vv, .int (pos : Int) tB]) :: (dxs, scD h1 h2 t1 t2 Tx tT kf tk2) :: rest) → Q (.ref td) ⟨h', zg, zd, tk', zo⟩)
    (hu : u = []) : wpAny (model prog w) (ktrTop dp un gd cn cs L a ccd cl outer) (call (.ref 282) [.ref sc]) Q E ⟨zh, zg, zd, zt, zo⟩ := by
  have hd2 : Tx.cps.toList.drop (pos : Int).toNat = u := by rw [hpos]; exact drop_next (by omega) hd
  have hlT := drop_len hk1 (by omega) hd
  rw [List.length_append] at hlT
  have hpl : (pos : Int) ≤ Tx.length := by omega
  subst hu
  have hS : SignIs Tx (pos : Int) [] := by unfold SignIs; rw [hd2]; rfl
  have hS0 : ([] : List Nat) = (Str.ofString "").cps.toList := by rw [cps_nil]
  rw [List.length_nil] at hlT
  refine wpAny_call ?_
  k_dflt (refine' code_def (binds := [(Str.ofString "self", .ref sc)]) ?k1 ?k2 ?k3 ?k4 ?k5 ?kA ?kF ?kK ?k6 ?k7 ?k8 ?k9 ?kB ?_ ?c2 ?c3 ?c4 ?c5; (case kA => exact rfl); (case kF => exact rfl); (case kK => assumption); (case k1 => k_asm); (case k2 => k_asm); (case k3 => k_asm); (case k4 => k_asm); (case k5 => k_asm); (case k6 => k_is); (case k7 => k_is); (case k8 => ktr_room); (case k9 => exact BindsTo.of_eq rfl); (case c5 => decide); (case kB => exact locs rfl); (case c2 => exact rfl); (case c3 => exact rfl); (case c4 => exact rfl); k_whole; intro g' L' h' FG' F' N' B' X' T'; (try dsimp only); (try k_fold); (show let Ab : PySem.Around := ktrTop dp un gd cn cs L a ccd cl outer; let ev : PySem.Env := _; let Ac : PySem.Around := PySem.Around.deeper Ab ev; wpAny _ Ac (PySem.execs _ ev) _ _ _); intro Ab ev Ac; (replace hdp : PySem.Around.depth Ab + _ < _ := hdp); (replace hun : PySem.Around.units Ab + _ < _ := hun))
  k_steps
  all_goals (
    (with_reducible rename Fr _ _ _ _ => Fz)
    (with_reducible rename News _ _ _ _ => Nz)
    refine' hQ _ _ _ _ _ _ _ _ ?kf ?vv ?lt1 ?lt2 Fz (newsSub Nz (tok_sub ?m1 ?m0 ?m2 fun q hq => ?m3))
    case m1 => k_mem
    case m0 => exact rfl
    case m2 => k_mem
    case m3 => k_mem
    case kf => omega
    case vv => exact ⟨_, _, rfl, cps_nil⟩
    case lt1 => first | assumption | exact Mine.cj1 (by assumption) | exact Mine.cj2 (by assumption) | exact Mine.cj3 (by assumption) | exact Mine.cj4 (by assumption) | exact Mine.cj5 (by assumption) | exact Mine.cj6 (by assumption) | exact Mine.cj7 (by assumption) | exact Mine.cj8 (by assumption) | omega
    case lt2 => exact allLt_mem (by (first | with_reducible assumption | exact Mine.al1 (by with_reducible assumption) | exact Mine.al2 (by with_reducible assumption) | exact Mine.al3 (by with_reducible assumption) | exact Mine.al4 (by with_reducible assumption) | exact Mine.al5 (by with_reducible assumption) | exact Mine.al6 (by with_reducible assumption) | exact Mine.al7 (by with_reducible assumption) | exact Mine.al8 (by with_reducible assumption))))
set_option maxHeartbeats 2000000 in
theorem tok_word {w : World} {mean : ExcName → Option Value} {mg mb : Str → Option Value} {dp un : Nat} {gd : Option (List Code)} {cn : Str} {cs : Scope} {a : Addr} {ccd : Value} {cl : List (Str × Addr)} {outer : List Env} {A₀ : Around} {base h₀ : Heap} {L : Addr} {m : Str → Option Value} {zh : Heap} {zg : Array GenState} {zd : Drawn} {zt : Nat} {zo : OsState} {Q E : Value → Shared → Prop} {sc dxs : Addr} {h1 h2 : Int} {t1 t2 : Tok} {Tx : Str} {tT tks : Tok} {k pos : Nat} {g u : List Nat} {rest : List (Addr × Obj)} {r : List Nat}
    (B : Below A₀ base outer h₀) (F : Fr h₀ L zh m) (X : (Mine.top.heap_1 w.params).In h₀) (T : Top Mine.V loose mean mg mb h₀) (hk : cs.kind = .function) (hdp : dp + 20 < recursionLimit) (hun : un + 200 < cLine)
    (N : News h₀ L zh ((dxs, scD h1 h2 t1 t2 Tx tT (k : Int) tks) :: rest)) (hsc : (sc, instObj 285 dxs) ∈ rest) (hoff : ∀ q ∈ rest, q.1 ≠ dxs) (hne : @Ne Nat sc dxs)
    (hk1 : (k : Int) ≤ Tx.length) (hT : Tx.length ≤ 20000) (hd : Tx.cps.toList.drop (k : Int).toNat = g ++ u) (hg : g ∈ gapL) (hr : ∀ c, u.head? = some c → c ∉ blankL ∧ c ≠ 37) (hpos : (pos : Int) = (k : Int) + (g.length : Int))
    (hQ : ∀ td tA tB vv tk2 h' tk' kf, (kf : Int) = (pos : Int) + 1 → (∃ y t, vv = .str y t ∧ y.cps.toList = [120]) → dxs < td → (∀ q ∈ rest, q.1 < td) → Fr h₀ L h' m → News h₀ L h' ((td, tupO [.str (Str.ofString "word") tA, vv, .int (pos : Int) tB]) :: (dxs, scD h1 h2 t1 t2 Tx tT kf tk2) :: rest) → Q (.ref td) ⟨h', zg, zd, tk', zo⟩)
    (hu : u = 120 :: r) (hr2 : ∀ c, r.head? = some c → ¬ wordish c) : wpAny (model prog w) (ktrTop dp un gd cn cs L a ccd cl outer) (call (.ref 282) [.ref sc]) Q E ⟨zh, zg, zd, zt, zo⟩ := by
  have hd2 : Tx.cps.toList.drop (pos : Int).toNat = u := by rw [hpos]; exact drop_next (by omega) hd
  have hlT := drop_len hk1 (by omega) hd
  rw [List.length_append] at hlT
  have hpl : (pos : Int) ≤ Tx.length := by omega
  subst hu
  rw [List.length_cons] at hlT
  have hS : SignIs Tx (pos : Int) [120] := by unfold SignIs; rw [hd2]; rfl
  have hS0 : [120] ≠ (Str.ofString "").cps.toList := by rw [cps_nil]; simp
  have hS1 : [120] ≠ (Str.ofString "\"").cps.toList := by rw [cps_quote]; decide
  have hS2 : [120] ≠ (Str.ofString "-").cps.toList := by rw [cps_min]; decide
  have hS3 : 120 ∉ (Str.ofString "0123456789").cps.toList := by rw [cps_dig]; decide
  have hrun : runL (Str.ofString "abcdefghijklmnopqrstuvwxyzABCDEFGHIJKLMNOPQRSTUVWXYZ_" ++ Str.ofString "0123456789") Tx (pos : Int) = [120] := run_of_drop (u := [120]) hd2 (by rw [cps_app]; decide +kernel) fun c hc => by rw [cps_app]; exact not_wordish (hr2 c hc)
  refine wpAny_call ?_
  k_dflt (refine' code_def (binds := [(Str.ofString "self", .ref sc)]) ?k1 ?k2 ?k3 ?k4 ?k5 ?kA ?kF ?kK ?k6 ?k7 ?k8 ?k9 ?kB ?_ ?c2 ?c3 ?c4 ?c5; (case kA => exact rfl); (case kF => exact rfl); (case kK => assumption); (case k1 => k_asm); (case k2 => k_asm); (case k3 => k_asm); (case k4 => k_asm); (case k5 => k_asm); (case k6 => k_is); (case k7 => k_is); (case k8 => ktr_room); (case k9 => exact BindsTo.of_eq rfl); (case c5 => decide); (case kB => exact locs rfl); (case c2 => exact rfl); (case c3 => exact rfl); (case c4 => exact rfl); k_whole; intro g' L' h' FG' F' N' B' X' T'; (try dsimp only); (try k_fold); (show let Ab : PySem.Around := ktrTop dp un gd cn cs L a ccd cl outer; let ev : PySem.Env := _; let Ac : PySem.Around := PySem.Around.deeper Ab ev; wpAny _ Ac (PySem.execs _ ev) _ _ _); intro Ab ev Ac; (replace hdp : PySem.Around.depth Ab + _ < _ := hdp); (replace hun : PySem.Around.units Ab + _ < _ := hun))
  k_steps
  all_goals (
    (with_reducible rename Fr _ _ _ _ => Fz)
    (with_reducible rename News _ _ _ _ => Nz)
    refine' hQ _ _ _ _ _ _ _ _ ?kf ?vv ?lt1 ?lt2 Fz (newsSub Nz (tok_sub ?m1 ?m0 ?m2 fun q hq => ?m3))
    case m1 => k_mem
    case m0 => exact rfl
    case m2 => k_mem
    case m3 => k_mem
    case kf => rfl
    case vv => exact ⟨_, _, rfl, by assumption⟩
    case lt1 => first | assumption | exact Mine.cj1 (by assumption) | exact Mine.cj2 (by assumption) | exact Mine.cj3 (by assumption) | exact Mine.cj4 (by assumption) | exact Mine.cj5 (by assumption) | exact Mine.cj6 (by assumption) | exact Mine.cj7 (by assumption) | exact Mine.cj8 (by assumption) | omega
    case lt2 => exact allLt_mem (by (first | with_reducible assumption | exact Mine.al1 (by with_reducible assumption) | exact Mine.al2 (by with_reducible assumption) | exact Mine.al3 (by with_reducible assumption) | exact Mine.al4 (by with_reducible assumption) | exact Mine.al5 (by with_reducible assumption) | exact Mine.al6 (by with_reducible assumption) | exact Mine.al7 (by with_reducible assumption) | exact Mine.al8 (by with_reducible assumption))))
set_option maxHeartbeats 2000000 in
theorem tok_dots {w : World} {mean : ExcName → Option Value} {mg mb : Str → Option Value} {dp un : Nat} {gd : Option (List Code)} {cn : Str} {cs : Scope} {a : Addr} {ccd : Value} {cl : List (Str × Addr)} {outer : List Env} {A₀ : Around} {base h₀ : Heap} {L : Addr} {m : Str → Option Value} {zh : Heap} {zg : Array GenState} {zd : Drawn} {zt : Nat} {zo : OsState} {Q E : Value → Shared → Prop} {sc dxs : Addr} {h1 h2 : Int} {t1 t2 : Tok} {Tx : Str} {tT tks : Tok} {k pos : Nat} {g u : List Nat} {rest : List (Addr × Obj)} {r : List Nat}
    (B : Below A₀ base outer h₀) (F : Fr h₀ L zh m) (X : (Mine.top.heap_1 w.params).In h₀) (T : Top Mine.V loose mean mg mb h₀) (hk : cs.kind = .function) (hdp : dp + 20 < recursionLimit) (hun : un + 200 < cLine)
    (N : News h₀ L zh ((dxs, scD h1 h2 t1 t2 Tx tT (k : Int) tks) :: rest)) (hsc : (sc, instObj 285 dxs) ∈ rest) (hoff : ∀ q ∈ rest, q.1 ≠ dxs) (hne : @Ne Nat sc dxs)
    (hk1 : (k : Int) ≤ Tx.length) (hT : Tx.length ≤ 20000) (hd : Tx.cps.toList.drop (k : Int).toNat = g ++ u) (hg : g ∈ gapL) (hr : ∀ c, u.head? = some c → c ∉ blankL ∧ c ≠ 37) (hpos : (pos : Int) = (k : Int) + (g.length : Int))
    (hQ : ∀ td tA tB vv tk2 h' tk' kf, (kf : Int) = (pos : Int) + 2 → (∃ y t, vv = .str y t ∧ y.cps.toList = [46, 46]) → dxs < td → (∀ q ∈ rest, q.1 < td) → Fr h₀ L h' m → News h₀ L h' ((td, tupO [.str (Str.ofString "sign") tA, vv, .int (pos : Int) tB]) :: (dxs, scD h1 h2 t1 t2 Tx tT kf tk2) :: rest) → Q (.ref td) ⟨h', zg, zd, tk', zo⟩)
    (hu : u = 46 :: 46 :: r) : wpAny (model prog w) (ktrTop dp un gd cn cs L a ccd cl outer) (call (.ref 282) [.ref sc]) Q E ⟨zh, zg, zd, zt, zo⟩ := by
  have hd2 : Tx.cps.toList.drop (pos : Int).toNat = u := by rw [hpos]; exact drop_next (by omega) hd
  have hlT := drop_len hk1 (by omega) hd
  rw [List.length_append] at hlT
  have hpl : (pos : Int) ≤ Tx.length := by omega
  subst hu
  rw [List.length_cons, List.length_cons] at hlT
  have hS : SignIs Tx (pos : Int) [46] := by unfold SignIs; rw [hd2]; rfl
  have hS0 : [46] ≠ (Str.ofString "").cps.toList := by rw [cps_nil]; simp
  have hS1 : [46] ≠ (Str.ofString "\"").cps.toList := by rw [cps_quote]; decide
  have hS2 : [46] ≠ (Str.ofString "-").cps.toList := by rw [cps_min]; decide
  have hS3 : 46 ∉ (Str.ofString "0123456789").cps.toList := by rw [cps_dig]; decide
  have hS4 : (Tx.cps.toList.drop (pos : Int).toNat).take ((pos : Int) + 2 - (pos : Int)).toNat = (Str.ofString "..").cps.toList := by rw [hd2, show ((pos : Int) + 2 - (pos : Int)).toNat = 2 by omega, cps_dots]; rfl
  refine wpAny_call ?_
  k_dflt (refine' code_def (binds := [(Str.ofString "self", .ref sc)]) ?k1 ?k2 ?k3 ?k4 ?k5 ?kA ?kF ?kK ?k6 ?k7 ?k8 ?k9 ?kB ?_ ?c2 ?c3 ?c4 ?c5; (case kA => exact rfl); (case kF => exact rfl); (case kK => assumption); (case k1 => k_asm); (case k2 => k_asm); (case k3 => k_asm); (case k4 => k_asm); (case k5 => k_asm); (case k6 => k_is); (case k7 => k_is); (case k8 => ktr_room); (case k9 => exact BindsTo.of_eq rfl); (case c5 => decide); (case kB => exact locs rfl); (case c2 => exact rfl); (case c3 => exact rfl); (case c4 => exact rfl); k_whole; intro g' L' h' FG' F' N' B' X' T'; (try dsimp only); (try k_fold); (show let Ab : PySem.Around := ktrTop dp un gd cn cs L a ccd cl outer; let ev : PySem.Env := _; let Ac : PySem.Around := PySem.Around.deeper Ab ev; wpAny _ Ac (PySem.execs _ ev) _ _ _); intro Ab ev Ac; (replace hdp : PySem.Around.depth Ab + _ < _ := hdp); (replace hun : PySem.Around.units Ab + _ < _ := hun))
  k_steps
  all_goals (
    (with_reducible rename Fr _ _ _ _ => Fz)
    (with_reducible rename News _ _ _ _ => Nz)
    refine' hQ _ _ _ _ _ _ _ _ ?kf ?vv ?lt1 ?lt2 Fz (newsSub Nz (tok_sub ?m1 ?m0 ?m2 fun q hq => ?m3))
    case m1 => k_mem
    case m0 => exact rfl
    case m2 => k_mem
    case m3 => k_mem
    case kf => rfl
    case vv => exact ⟨_, _, rfl, cps_dots⟩
    case lt1 => first | assumption | exact Mine.cj1 (by assumption) | exact Mine.cj2 (by assumption) | exact Mine.cj3 (by assumption) | exact Mine.cj4 (by assumption) | exact Mine.cj5 (by assumption) | exact Mine.cj6 (by assumption) | exact Mine.cj7 (by assumption) | exact Mine.cj8 (by assumption) | omega
    case lt2 => exact allLt_mem (by (first | with_reducible assumption | exact Mine.al1 (by with_reducible assumption) | exact Mine.al2 (by with_reducible assumption) | exact Mine.al3 (by with_reducible assumption) | exact Mine.al4 (by with_reducible assumption) | exact Mine.al5 (by with_reducible assumption) | exact Mine.al6 (by with_reducible assumption) | exact Mine.al7 (by with_reducible assumption) | exact Mine.al8 (by with_reducible assumption))))
set_option maxHeartbeats 2000000 in
theorem tok_sign {w : World} {mean : ExcName → Option Value} {mg mb : Str → Option Value} {dp un : Nat} {gd : Option (List Code)} {cn : Str} {cs : Scope} {a : Addr} {ccd : Value} {cl : List (Str × Addr)} {outer : List Env} {A₀ : Around} {base h₀ : Heap} {L : Addr} {m : Str → Option Value} {zh : Heap} {zg : Array GenState} {zd : Drawn} {zt : Nat} {zo : OsState} {Q E : Value → Shared → Prop} {sc dxs : Addr} {h1 h2 : Int} {t1 t2 : Tok} {Tx : Str} {tT tks : Tok} {k pos : Nat} {g u : List Nat} {rest : List (Addr × Obj)} {r : List Nat} {c : Nat}
    (B : Below A₀ base outer h₀) (F : Fr h₀ L zh m) (X : (Mine.top.heap_1 w.params).In h₀) (T : Top Mine.V loose mean mg mb h₀) (hk : cs.kind = .function) (hdp : dp + 20 < recursionLimit) (hun : un + 200 < cLine)
    (N : News h₀ L zh ((dxs, scD h1 h2 t1 t2 Tx tT (k : Int) tks) :: rest)) (hsc : (sc, instObj 285 dxs) ∈ rest) (hoff : ∀ q ∈ rest, q.1 ≠ dxs) (hne : @Ne Nat sc dxs)
    (hk1 : (k : Int) ≤ Tx.length) (hT : Tx.length ≤ 20000) (hd : Tx.cps.toList.drop (k : Int).toNat = g ++ u) (hg : g ∈ gapL) (hr : ∀ c, u.head? = some c → c ∉ blankL ∧ c ≠ 37) (hpos : (pos : Int) = (k : Int) + (g.length : Int))
    (hQ : ∀ td tA tB vv tk2 h' tk' kf, (kf : Int) = (pos : Int) + 1 → (∃ y t, vv = .str y t ∧ y.cps.toList = [c]) → dxs < td → (∀ q ∈ rest, q.1 < td) → Fr h₀ L h' m → News h₀ L h' ((td, tupO [.str (Str.ofString "sign") tA, vv, .int (pos : Int) tB]) :: (dxs, scD h1 h2 t1 t2 Tx tT kf tk2) :: rest) → Q (.ref td) ⟨h', zg, zd, tk', zo⟩)
    (hu : u = c :: r) (hc : c = 123 ∨ c = 125 ∨ c = 44 ∨ c = 58) : wpAny (model prog w) (ktrTop dp un gd cn cs L a ccd cl outer) (call (.ref 282) [.ref sc]) Q E ⟨zh, zg, zd, zt, zo⟩ := by
  have hd2 : Tx.cps.toList.drop (pos : Int).toNat = u := by rw [hpos]; exact drop_next (by omega) hd
  have hlT := drop_len hk1 (by omega) hd
  rw [List.length_append] at hlT
  have hpl : (pos : Int) ≤ Tx.length := by omega
  subst hu
  rw [List.length_cons] at hlT
  have hS : SignIs Tx (pos : Int) [c] := by unfold SignIs; rw [hd2]; rfl
  have hS0 : [c] ≠ (Str.ofString "").cps.toList := by rw [cps_nil]; simp
  have hS1 : [c] ≠ (Str.ofString "\"").cps.toList := by rw [cps_quote]; exact one_ne (by omega)
  have hS2 : [c] ≠ (Str.ofString "-").cps.toList := by rw [cps_min]; exact one_ne (by omega)
  have hS3 : c ∉ (Str.ofString "0123456789").cps.toList := by rw [cps_dig]; rcases hc with rfl | rfl | rfl | rfl <;> decide
  have hS5 : c ∉ (Str.ofString "abcdefghijklmnopqrstuvwxyzABCDEFGHIJKLMNOPQRSTUVWXYZ_").cps.toList := by rcases hc with rfl | rfl | rfl | rfl <;> decide +kernel
  have hS6 : c ∈ (Str.ofString "()[]{},;:").cps.toList := by rcases hc with rfl | rfl | rfl | rfl <;> decide +kernel
  have hS4 : (Tx.cps.toList.drop (pos : Int).toNat).take ((pos : Int) + 2 - (pos : Int)).toNat ≠ (Str.ofString "..").cps.toList := by
    rw [hd2, show ((pos : Int) + 2 - (pos : Int)).toNat = 2 by omega, cps_dots]
    intro e
    rw [List.take_succ_cons] at e
    have := (List.cons.inj e).1
    omega
  refine wpAny_call ?_
  k_dflt (refine' code_def (binds := [(Str.ofString "self", .ref sc)]) ?k1 ?k2 ?k3 ?k4 ?k5 ?kA ?kF ?kK ?k6 ?k7 ?k8 ?k9 ?kB ?_ ?c2 ?c3 ?c4 ?c5; (case kA => exact rfl); (case kF => exact rfl); (case kK => assumption); (case k1 => k_asm); (case k2 => k_asm); (case k3 => k_asm); (case k4 => k_asm); (case k5 => k_asm); (case k6 => k_is); (case k7 => k_is); (case k8 => ktr_room); (case k9 => exact BindsTo.of_eq rfl); (case c5 => decide); (case kB => exact locs rfl); (case c2 => exact rfl); (case c3 => exact rfl); (case c4 => exact rfl); k_whole; intro g' L' h' FG' F' N' B' X' T'; (try dsimp only); (try k_fold); (show let Ab : PySem.Around := ktrTop dp un gd cn cs L a ccd cl outer; let ev : PySem.Env := _; let Ac : PySem.Around := PySem.Around.deeper Ab ev; wpAny _ Ac (PySem.execs _ ev) _ _ _); intro Ab ev Ac; (replace hdp : PySem.Around.depth Ab + _ < _ := hdp); (replace hun : PySem.Around.units Ab + _ < _ := hun))
  k_steps
  all_goals (
    (with_reducible rename Fr _ _ _ _ => Fz)
    (with_reducible rename News _ _ _ _ => Nz)
    refine' hQ _ _ _ _ _ _ _ _ ?kf ?vv ?lt1 ?lt2 Fz (newsSub Nz (tok_sub ?m1 ?m0 ?m2 fun q hq => ?m3))
    case m1 => k_mem
    case m0 => exact rfl
    case m2 => k_mem
    case m3 => k_mem
    case kf => rfl
    case vv => exact ⟨_, _, rfl, by assumption⟩
    case lt1 => first | assumption | exact Mine.cj1 (by assumption) | exact Mine.cj2 (by assumption) | exact Mine.cj3 (by assumption) | exact Mine.cj4 (by assumption) | exact Mine.cj5 (by assumption) | exact Mine.cj6 (by assumption) | exact Mine.cj7 (by assumption) | exact Mine.cj8 (by assumption) | omega
    case lt2 => exact allLt_mem (by (first | with_reducible assumption | exact Mine.al1 (by with_reducible assumption) | exact Mine.al2 (by with_reducible assumption) | exact Mine.al3 (by with_reducible assumption) | exact Mine.al4 (by with_reducible assumption) | exact Mine.al5 (by with_reducible assumption) | exact Mine.al6 (by with_reducible assumption) | exact Mine.al7 (by with_reducible assumption) | exact Mine.al8 (by with_reducible assumption))))
set_option maxHeartbeats 2000000 in
theorem tok_num {w : World} {mean : ExcName → Option Value} {mg mb : Str → Option Value} {dp un : Nat} {gd : Option (List Code)} {cn : Str} {cs : Scope} {a : Addr} {ccd : Value} {cl : List (Str × Addr)} {outer : List Env} {A₀ : Around} {base h₀ : Heap} {L : Addr} {m : Str → Option Value} {zh : Heap} {zg : Array GenState} {zd : Drawn} {zt : Nat} {zo : OsState} {Q E : Value → Shared → Prop} {sc dxs : Addr} {h1 h2 : Int} {t1 t2 : Tok} {Tx : Str} {tT tks : Tok} {k pos : Nat} {g u : List Nat} {rest : List (Addr × Obj)} {wr r : List Nat} {n : Int}
    (B : Below A₀ base outer h₀) (F : Fr h₀ L zh m) (X : (Mine.top.heap_1 w.params).In h₀) (T : Top Mine.V loose mean mg mb h₀) (hk : cs.kind = .function) (hdp : dp + 20 < recursionLimit) (hun : un + 200 < cLine)
    (N : News h₀ L zh ((dxs, scD h1 h2 t1 t2 Tx tT (k : Int) tks) :: rest)) (hsc : (sc, instObj 285 dxs) ∈ rest) (hoff : ∀ q ∈ rest, q.1 ≠ dxs) (hne : @Ne Nat sc dxs)
    (hk1 : (k : Int) ≤ Tx.length) (hT : Tx.length ≤ 20000) (hd : Tx.cps.toList.drop (k : Int).toNat = g ++ u) (hg : g ∈ gapL) (hr : ∀ c, u.head? = some c → c ∉ blankL ∧ c ≠ 37) (hpos : (pos : Int) = (k : Int) + (g.length : Int))
    (hQ : ∀ td tA tB vv tk2 h' tk' kf, (kf : Int) = (pos : Int) + (wr.length : Int) → (∃ t, vv = .int n t) → dxs < td → (∀ q ∈ rest, q.1 < td) → Fr h₀ L h' m → News h₀ L h' ((td, tupO [.str (Str.ofString "number") tA, vv, .int (pos : Int) tB]) :: (dxs, scD h1 h2 t1 t2 Tx tT kf tk2) :: rest) → Q (.ref td) ⟨h', zg, zd, tk', zo⟩)
    (hu : u = wr ++ r) (hw : NumW n wr) (hr2 : ∀ c, r.head? = some c → c ∉ digL) : wpAny (model prog w) (ktrTop dp un gd cn cs L a ccd cl outer) (call (.ref 282) [.ref sc]) Q E ⟨zh, zg, zd, zt, zo⟩ := by
  have hd2 : Tx.cps.toList.drop (pos : Int).toNat = u := by rw [hpos]; exact drop_next (by omega) hd
  have hlT := drop_len hk1 (by omega) hd
  rw [List.length_append] at hlT
  have hpl : (pos : Int) ≤ Tx.length := by omega
  subst hu
  rw [List.length_append] at hlT
  obtain ⟨c0, u0, rfl, hc0⟩ : ∃ c u, wr = c :: u ∧ (c = 45 ∨ c ∈ (Str.ofString "0123456789").cps.toList) := by
    obtain ⟨neg, ds, rfl, hdg, hne, _, _⟩ := hw
    cases neg with
    | true => exact ⟨45, ds, rfl, .inl rfl⟩
    | false =>
      cases ds with
      | nil => exact absurd rfl hne
      | cons c ds => exact ⟨c, ds, rfl, .inr (by rw [cps_dig]; exact dig_mem (hdg c List.mem_cons_self))⟩
  have hS : SignIs Tx (pos : Int) [c0] := by unfold SignIs; rw [hd2]; rfl
  have hS0 : [c0] ≠ (Str.ofString "").cps.toList := by rw [cps_nil]; simp
  have hS1 : [c0] ≠ (Str.ofString "\"").cps.toList := by
    rw [cps_quote]
    rcases hc0 with rfl | h
    · decide
    · intro e
      have e2 : c0 = 34 := by simpa using e
      subst e2
      exact absurd h (by rw [cps_dig]; decide)
  rw [List.length_cons] at hlT
  have hkf : (((pos : Int) + ((c0 :: u0 : List Nat).length : Int)) : Int) = (pos : Int) + ((c0 :: u0 : List Nat).length : Int) := rfl
  refine wpAny_call ?_
  k_dflt (refine' code_def (binds := [(Str.ofString "self", .ref sc)]) ?k1 ?k2 ?k3 ?k4 ?k5 ?kA ?kF ?kK ?k6 ?k7 ?k8 ?k9 ?kB ?_ ?c2 ?c3 ?c4 ?c5; (case kA => exact rfl); (case kF => exact rfl); (case kK => assumption); (case k1 => k_asm); (case k2 => k_asm); (case k3 => k_asm); (case k4 => k_asm); (case k5 => k_asm); (case k6 => k_is); (case k7 => k_is); (case k8 => ktr_room); (case k9 => exact BindsTo.of_eq rfl); (case c5 => decide); (case kB => exact locs rfl); (case c2 => exact rfl); (case c3 => exact rfl); (case c4 => exact rfl); k_whole; intro g' L' h' FG' F' N' B' X' T'; (try dsimp only); (try k_fold); (show let Ab : PySem.Around := ktrTop dp un gd cn cs L a ccd cl outer; let ev : PySem.Env := _; let Ac : PySem.Around := PySem.Around.deeper Ab ev; wpAny _ Ac (PySem.execs _ ev) _ _ _); intro Ab ev Ac; (replace hdp : PySem.Around.depth Ab + _ < _ := hdp); (replace hun : PySem.Around.units Ab + _ < _ := hun))
  k_with "exec If BoolOp" => (refine Mine.stop_intro ?_)
  k_steps
  refine Stop.mk ?_
  (with_reducible rename Fr _ _ _ _ => Fz)
  (with_reducible rename News _ _ _ _ => Nz)
  refine wpAny_If (keep_join (s0 := ⟨zh, zg, zd, zt, zo⟩) (fun c : Bool => c = true) Fz Nz ?_ ?_)
  · rcases hc0 with rfl | hdig
    · have hS2 : [45] = (Str.ofString "-").cps.toList := cps_min.symm
      k_steps
      all_goals (
        (with_reducible rename Fr _ _ _ _ => Fy)
        (with_reducible rename News _ _ _ _ => Ny)
        exact keep_end Fy Ny (fun _ h => h) rfl)
    · have hS2 : [c0] ≠ (Str.ofString "-").cps.toList := by
        rw [cps_min]
        intro e
        have e2 : c0 = 45 := by simpa using e
        subst e2
        exact absurd hdig (by rw [cps_dig]; decide)
      k_steps
      all_goals (
        (with_reducible rename Fr _ _ _ _ => Fy)
        (with_reducible rename News _ _ _ _ => Ny)
        exact keep_end Fy Ny (fun _ h => h) rfl)
  rintro c h5 tk5 rfl F6 N6
  clear Fz Nz
  (try dsimp only)
  k_steps
  all_goals (
    (with_reducible rename Fr _ _ _ _ => Fz)
    (with_reducible rename News _ _ _ _ => Nz)
    refine' hQ _ _ _ _ _ _ _ _ ?kf ?vv ?lt1 ?lt2 Fz (newsSub Nz (tok_sub ?m1 ?m0 ?m2 fun q hq => ?m3))
    case m1 => k_mem
    case m0 => exact rfl
    case m2 => k_mem
    case m3 => k_mem
    case kf => rfl
    case vv => exact ⟨_, rfl⟩
    case lt1 => first | assumption | exact Mine.cj1 (by assumption) | exact Mine.cj2 (by assumption) | exact Mine.cj3 (by assumption) | exact Mine.cj4 (by assumption) | exact Mine.cj5 (by assumption) | exact Mine.cj6 (by assumption) | exact Mine.cj7 (by assumption) | exact Mine.cj8 (by assumption) | omega
    case lt2 => exact allLt_mem (by (first | with_reducible assumption | exact Mine.al1 (by with_reducible assumption) | exact Mine.al2 (by with_reducible assumption) | exact Mine.al3 (by with_reducible assumption) | exact Mine.al4 (by with_reducible assumption) | exact Mine.al5 (by with_reducible assumption) | exact Mine.al6 (by with_reducible assumption) | exact Mine.al7 (by with_reducible assumption) | exact Mine.al8 (by with_reducible assumption))))
end Mine
namespace Mine
open PySem PySem.W PyProof.Rows PySem.Calls PyProof.V PySem.Spec PySem.NumText
theorem token_K {w : World} {mean : ExcName → Option Value} {mg mb : Str → Option Value} {dp un : Nat} {gd : Option (List Code)} {cn : Str} {cs : Scope} {a : Addr} {ccd : Value} {cl : List (Str × Addr)} {outer : List Env} {A₀ : Around} {base h₀ : Heap} {L : Addr} {m : Str → Option Value} {zh : Heap} {zg : Array GenState} {zd : Drawn} {zt : Nat} {zo : OsState} {Q E : Value → Shared → Prop} {news : List (Addr × Obj)} {gg : Obj → List (Addr × Obj)} {sc dxs : Addr} {h1 h2 : Int} {t1 t2 : Tok} {Tx : Str} {tT tks : Tok} {k : Nat} {b : Bool} {tk0 : TokD} {ks : List TokD}
    (B : Below A₀ base outer h₀) (F : Fr h₀ L zh m) (X : (Mine.top.heap_1 w.params).In h₀) (T : Top Mine.V loose mean mg mb h₀) (hk : cs.kind = .function) (hdp : dp + 20 < recursionLimit) (hun : un + 200 < cLine)
    (N : News h₀ L zh news) (hsc : (sc, instObj 285 dxs) ∈ news) (U : UpdF dxs (scD h1 h2 t1 t2 Tx tT (k : Int) tks) news gg) (hne : @Ne Nat sc dxs)
    (hk1 : (k : Int) ≤ Tx.length) (hT : Tx.length ≤ 20000) (hS : Sfx b (Tx.cps.toList.drop k) k (tk0 :: ks))
    (hQ : ∀ td o tk2 h' tk' (kf : Nat), TokO tk0 o → RestIs Tx kf ks → (kf : Int) ≤ Tx.length → (∀ q ∈ gg (scD h1 h2 t1 t2 Tx tT (kf : Int) tk2), q.1 < td) → Fr h₀ L h' m → News h₀ L h' ((td, o) :: gg (scD h1 h2 t1 t2 Tx tT (kf : Int) tk2)) → Q (.ref td) ⟨h', zg, zd, tk', zo⟩) :
    wpAny (model prog w) (ktrTop dp un gd cn cs L a ccd cl outer) (call (.ref 282) [.ref sc]) Q E ⟨zh, zg, zd, zt, zo⟩ := by
  obtain ⟨rest, r1, r2, r3, r4, r5⟩ := canonF U
  have hd0 : Tx.cps.toList.drop (k : Int).toNat = Tx.cps.toList.drop k := by rw [Int.toNat_natCast]
  have fin : ∀ (td : Addr) (tA tB : Tok) (vv : Value) (tk2 : Tok) (h' : Heap) (tk' : Nat) (kf : Int) (K : Str) (n : Nat), kf = (tk0.pos : Int) + (n : Int) → KindIs tk0 K vv → RestIs Tx (tk0.pos + n) ks → ((tk0.pos + n : Nat) : Int) ≤ Tx.length → dxs < td → (∀ q ∈ rest, q.1 < td) → Fr h₀ L h' m → News h₀ L h' ((td, tupO [.str K tA, vv, .int (tk0.pos : Int) tB]) :: (dxs, scD h1 h2 t1 t2 Tx tT kf tk2) :: rest) → Q (.ref td) ⟨h', zg, zd, tk', zo⟩ := by
    intro td tA tB vv tk2 h' tk' kf K n e1 e2 e3 e4 e5 e6 F' N'
    obtain rfl : kf = ((tk0.pos + n : Nat) : Int) := by omega
    refine hQ td _ tk2 h' tk' (tk0.pos + n) ⟨K, vv, tA, tB, rfl, e2⟩ e3 e4 (fun q hq => ?_) F' (newsSub N' fun q hq => ?_)
    · rcases List.mem_cons.mp (r3 _ _ hq) with rfl | hq
      · exact e5
      · exact e6 q hq
    · rcases List.mem_cons.mp hq with rfl | hq
      · exact .head _
      · exact .tail _ (r3 _ _ hq)
  clear hQ
  generalize e : Tx.cps.toList.drop k = u at hS hd0
  cases hS with
  | fin =>
    refine tok_end (g := []) (pos := k) B F X T hk hdp hun (newsSub N r1) (r4 _ hsc hne) r2 hne hk1 hT (u := []) (by rw [hd0]; rfl) (by decide) (fun c hc => by cases hc) (by simp) ?_ rfl
    intro td tA tB vv tk2 h' tk' kf e1 e2 e3 e4 F' N'
    obtain ⟨y, ty, rfl, hy⟩ := e2
    exact fin td tA tB _ tk2 h' tk' kf _ 0 e1 (.inr ⟨rfl, y, ty, rfl, hy, .inl ⟨rfl, rfl⟩⟩) (.inl rfl) (by simpa using hk1) e3 e4 F' N'
  | @cons _ g x r _ w _ hg hrw hb hs =>
    have hpos : ((k + g.length : Nat) : Int) = (k : Int) + (g.length : Int) := by omega
    have hlen := drop_len hk1 (by omega) (u := g ++ x ++ r) hd0
    simp only [List.length_append] at hlen
    have hdr : Tx.cps.toList.drop (k + g.length + x.length) = r := by
      rw [Nat.add_assoc, ← List.drop_drop, e, List.append_assoc, show g.length + x.length = (g ++ x).length by simp, ← List.append_assoc, List.drop_left]
    have hRest : RestIs Tx (k + g.length + x.length) ks := .inr ⟨_, by rw [hdr]; exact hs⟩
    have hkf : ((k + g.length + x.length : Nat) : Int) ≤ Tx.length := by omega
    obtain ⟨c0, u0, hcu, hcb⟩ := rowD_head (r := r) hrw
    have hhead : ∀ c, (x ++ r).head? = some c → c ∉ blankL ∧ c ≠ 37 := by
      intro c hc
      rw [hcu] at hc
      obtain rfl : c0 = c := by simpa using hc
      exact hcb
    have hd1 : Tx.cps.toList.drop (k : Int).toNat = g ++ (x ++ r) := by rw [hd0, List.append_assoc]
    rcases hrw with ⟨rfl, hx⟩ | ⟨n, rfl, hw, hb1, hb2⟩
    · have hx2 : x = [120] ∨ x ∈ lateL := by
        have : ∀ y ∈ signL, y = [120] ∨ y ∈ lateL := by decide
        exact this x hx
      rcases hx2 with rfl | hx2
      · refine tok_word B F X T hk hdp hun (newsSub N r1) (r4 _ hsc hne) r2 hne hk1 hT hd1 hg hhead hpos ?_ rfl (sfx_head (by simpa [lateL] using hs))
        intro td tA tB vv tk2 h' tk' kf e1 e2 e3 e4 F' N'
        obtain ⟨y, ty, rfl, hy⟩ := e2
        exact fin td tA tB _ tk2 h' tk' kf _ 1 e1 (.inr ⟨rfl, y, ty, rfl, hy, .inr (.inl ⟨rfl, rfl⟩)⟩) hRest hkf e3 e4 F' N'
      · have hx3 : x = [46, 46] ∨ ∃ c, x = [c] ∧ (c = 123 ∨ c = 125 ∨ c = 44 ∨ c = 58) := by
          simp only [lateL, List.mem_cons, List.not_mem_nil, or_false] at hx2
          rcases hx2 with rfl | rfl | rfl | rfl | rfl
          · exact .inl rfl
          all_goals exact .inr ⟨_, rfl, by decide⟩
        rcases hx3 with rfl | ⟨c, rfl, hc⟩
        · refine tok_dots B F X T hk hdp hun (newsSub N r1) (r4 _ hsc hne) r2 hne hk1 hT hd1 hg hhead hpos ?_ rfl
          intro td tA tB vv tk2 h' tk' kf e1 e2 e3 e4 F' N'
          obtain ⟨y, ty, rfl, hy⟩ := e2
          exact fin td tA tB _ tk2 h' tk' kf _ 2 e1 (.inr ⟨rfl, y, ty, rfl, hy, .inr (.inr ⟨hx2, rfl⟩)⟩) hRest hkf e3 e4 F' N'
        · refine tok_sign B F X T hk hdp hun (newsSub N r1) (r4 _ hsc hne) r2 hne hk1 hT hd1 hg hhead hpos ?_ rfl hc
          intro td tA tB vv tk2 h' tk' kf e1 e2 e3 e4 F' N'
          obtain ⟨y, ty, rfl, hy⟩ := e2
          exact fin td tA tB _ tk2 h' tk' kf _ 1 e1 (.inr ⟨rfl, y, ty, rfl, hy, .inr (.inr ⟨hx2, rfl⟩)⟩) hRest hkf e3 e4 F' N'
    · have hl : decide (x ∈ lateL) = false := decide_eq_false (numW_late hw)
      rw [hl] at hs
      refine tok_num B F X T hk hdp hun (newsSub N r1) (r4 _ hsc hne) r2 hne hk1 hT hd1 hg hhead hpos ?_ rfl hw fun c hc hdg => sfx_head hs c hc (.inl (dig_back hdg))
      intro td tA tB vv tk2 h' tk' kf e1 e2 e3 e4 F' N'
      obtain ⟨ty, rfl⟩ := e2
      exact fin td tA tB _ tk2 h' tk' kf _ x.length e1 (.inl ⟨n, ty, rfl, rfl, rfl⟩) hRest hkf e3 e4 F' N'
end Mine
namespace Mine
open PySem PySem.W PyProof.Rows PySem.Calls PyProof.V PySem.Spec
/-- an exception of which something is kept, its last mark of flight fl -/
def TrP (P : Obj → Prop) (fl : Value) (base : Heap) (e : Addr) (h : Heap) : Prop :=
  ∃ oe vs T oT ts, h.get? e = some oe ∧ P oe ∧ oe.data = .fields vs ∧ vs[1]? = some (.ref T) ∧ base.get? T = none ∧ T ≠ e ∧ h.get? T = some oT ∧ oT.data = .fields ts ∧ ts[3]? = some fl
def FlyP (P : Obj → Prop) (fl : Value) (base : Heap) (l : List Env) (e : Addr) (h : Heap) : Prop := base.StaysIn h ∧ base.get? e = none ∧ h.FunFrames base l ∧ TrP P fl base e h
def StP (P : Obj → Prop) : Prop := ∀ o f, P o → P (Obj.mapFields f o)
theorem FlyP.pop {P : Obj → Prop} {fl : Value} {base h : Heap} {env : Env} {l : List Env} {e : Addr} (x : FlyP P fl base (env :: l) e h) : FlyP P fl base l e h := ⟨x.1, x.2.1, x.2.2.1.2.2, x.2.2.2⟩
section
variable {M : Model} {A : Around} {E : Value → Shared → Prop} {s : Shared} {P : Obj → Prop} {base : Heap} {env : Env} {outer l : List Env} {L e : Addr} {Q : Unit → Shared → Prop}
theorem entryP {oe : Obj} {vs : Array Value} {head : Value} {hadNext : Bool} (hst : StP P)
    (hfr : A.frames = some (env :: outer)) (hl : s.heap.FunFrames base (env :: outer)) (hf : env.frame = some L) (he : s.heap.get? e = some oe) (hP : P oe) (hkb : base.StaysIn s.heap) (hen : base.get? e = none) (hd : oe.data = .fields vs) (hsz : 1 < vs.size)
    (h : ∀ h', FlyP P (rawInt L) base (env :: outer) e h' → s.heap.UpToSlots h' → Q () { s with heap := h' }) :
    wpAny M A (do let a ← frameOf env; let pl ← entryPlaceOf L hadNext; let b ← EntryCells.newEntry head a .none (rawInt L) .none pl; setField (.ref e) 1 b) Q E s := by
  have apart : e ∉ (env :: outer).filterMap (·.frame) := fun hm => by
    obtain ⟨_, o, ho, hnf⟩ := hl.mem hm
    rw [he] at ho
    cases ho
    exact hnf vs hd
  refine wpAny_bind (wpAny_frameOf_fun hfr hl hf fun h₁ hs₁ => wpAny_bind (wpAny_entryPlaceOf fun pl hpl => ?_))
  unfold EntryCells.newEntry newFields
  refine wpAny_bind (wpAny_newObj_type ?_ (hpl.sizeOk5 _ _ _ _ _))
  have he₁ : h₁.get? e = some oe := (hs₁.2.1 e apart).trans he
  have kb₁ : base.StaysIn h₁ := fun b o hbo => (hs₁.2.1 b fun hm => by rw [(hl.mem hm).1] at hbo; cases hbo).trans (hkb b o hbo)
  generalize hT0 : ({ cls := .type "traceback", dict := none, data := .fields ([head, .ref L, .none, rawInt L, .none] ++ (if pl.isEmpty then List.replicate 6 Value.none else pl)).toArray } : Obj) = oT
  have hTd : oT.data = .fields ([head, .ref L, .none, rawInt L, .none] ++ (if pl.isEmpty then List.replicate 6 Value.none else pl)).toArray := by rw [← hT0]
  have he₂ := Heap.get?_push_of_some (h := h₁) oT he₁
  have hTe : h₁.objs.size ≠ e := Nat.ne_of_gt (Heap.lt_size he₁)
  have noRec : ∀ b o, s.heap.get? b = some o → (∀ vs, o.data ≠ .fields vs) → b ≠ e := fun b o hb hnf q => by
    rw [q, he] at hb
    cases hb
    exact hnf vs hd
  have keep : ∀ b o, b ≠ e → h₁.get? b = some o → ((h₁.push oT).update e (Obj.mapFields (·.setIfInBounds 1 (Value.ref h₁.objs.size)))).get? b = some o := fun b o hbe hb => by
    rw [Heap.get?_update_other _ _ (Ne.symm hbe)]
    exact Heap.get?_push_of_some _ hb
  refine wpAny_setField he₂ hd hsz (h _ ?_ ?_)
  · refine ⟨fun b o hbo => keep b o (fun q => by rw [q, hen] at hbo; cases hbo) (kb₁ b o hbo), hen, hl.of_keeps fun b o hb hnf => ?_, ?_⟩
    · obtain ⟨sl, hs⟩ := hs₁.2.2 b o hb
      exact ⟨_, keep b _ (noRec b o hb hnf) hs, rfl⟩
    · have hd₃ := Obj.data_mapFields hd (·.setIfInBounds 1 (Value.ref h₁.objs.size))
      have he₃ := Heap.get?_update_self (Obj.mapFields (·.setIfInBounds 1 (Value.ref h₁.objs.size))) he₂ (Obj.isFreed_of_fields hd₃)
      have hT₃ := (Heap.get?_update_other (h₁.push oT) (Obj.mapFields (·.setIfInBounds 1 (Value.ref h₁.objs.size))) (Ne.symm hTe)).trans (Heap.get?_push_size h₁ (Obj.isFreed_of_fields hTd))
      exact ⟨_, _, h₁.objs.size, _, _, he₃, hst _ _ hP, hd₃, by simp [hsz], kb₁.fresh, hTe, hT₃, hTd, by first | (simp; done) | (rcases hpl with rfl | ⟨_, _, _, _, _, _, _, rfl⟩ <;> simp)⟩
  · intro b o hb hnf
    obtain ⟨sl, hs⟩ := hs₁.2.2 b o hb
    exact ⟨sl, keep b _ (noRec b o hb hnf) hs⟩
theorem noteP_first {oe : Obj} {vs : Array Value} (hst : StP P)
    (hfr : A.frames = some (env :: outer)) (hl : s.heap.FunFrames base (env :: outer)) (hf : env.frame = some L) (he : s.heap.get? e = some oe) (hP : P oe) (hkb : base.StaysIn s.heap) (hen : base.get? e = none) (hd : oe.data = .fields vs) (h1 : vs[1]? = some .none)
    (h : ∀ h', FlyP P (rawInt L) base (env :: outer) e h' → s.heap.UpToSlots h' → Q () { s with heap := h' }) : wpAny M A (noteFrame (.ref e) env) Q E s := by
  unfold noteFrame
  simp only [hf]
  refine wpAny_bind (wpAny_field he hd h1 ?_)
  rw [if_neg (by decide)]
  exact entryP hst hfr hl hf he hP hkb hen hd (Array.getElem?_eq_some_iff.mp h1).1 h
theorem setFlightP {fl : Value} (x : Option Addr) (hst : StP P) (R : FlyP P fl base l e s.heap)
    (h : ∀ h', FlyP P (x.elim Value.none fun f => rawInt f) base l e h' → s.heap.UpToSlots h' → Q () { s with heap := h' }) : wpAny M A (setFlight (.ref e) x) Q E s := by
  obtain ⟨hkb, hen, hl, oe, vs, T, oT, ts, he, hP, hd, h1, hnT, hTe, hT, hdT, h3⟩ := R
  have hsz3 : 3 < ts.size := (Array.getElem?_eq_some_iff.mp h3).1
  have other : ∀ b, b ≠ T → (s.heap.update T (Obj.mapFields (·.setIfInBounds 3 (x.elim Value.none fun f => rawInt f)))).get? b = s.heap.get? b := fun b hb => Heap.get?_update_other _ _ (Ne.symm hb)
  have noRec : ∀ b o, s.heap.get? b = some o → (∀ vs, o.data ≠ .fields vs) → b ≠ T := fun b o hb hnf q => by
    rw [q, hT] at hb
    cases hb
    exact hnf ts hdT
  unfold setFlight
  refine wpAny_bind (wpAny_field he hd h1 ?_)
  rw [if_pos (show (Value.ref T != Value.none) = true from by simp)]
  refine wpAny_setField hT hdT hsz3 (h _ ⟨fun b o hbo => (other b fun q => by rw [q, hnT] at hbo; cases hbo).trans (hkb b o hbo), hen, hl.of_keeps fun b o hb hnf => ⟨o, (other b (noRec b o hb hnf)).trans hb, rfl⟩, ?_⟩
    fun b o hb hnf => ⟨o.slots, (other b (noRec b o hb hnf)).trans hb⟩)
  exact ⟨oe, vs, T, _, _, (other e (Ne.symm hTe)).trans he, hP, hd, h1, hnT, hTe, Heap.get?_update_self _ hT (Obj.isFreed_of_fields (Obj.data_mapFields hdT _)), Obj.data_mapFields hdT _, by simp [hsz3]⟩
theorem noteP_next (hst : StP P) (hfr : A.frames = some (env :: outer)) (hf : env.frame = some L) (R : FlyP P .none base (env :: outer) e s.heap)
    (h : ∀ h', FlyP P (rawInt L) base (env :: outer) e h' → s.heap.UpToSlots h' → Q () { s with heap := h' }) : wpAny M A (noteFrame (.ref e) env) Q E s := by
  obtain ⟨hkb, hen, hl, oe, vs, T, oT, ts, he, hP, hd, h1, hnT, hTe, hT, hdT, h3⟩ := R
  unfold noteFrame
  simp only [hf]
  refine wpAny_bind (wpAny_field he hd h1 ?_)
  rw [if_pos (show (Value.ref T != Value.none) = true from by simp)]
  refine wpAny_bind (wpAny_field hT hdT h3 ?_)
  rw [if_neg (show ¬ ((Value.none == rawInt L) = true) from by simp [rawInt])]
  refine wpAny_bind (wpAny_setField hT hdT (Array.getElem?_eq_some_iff.mp h3).1 ?_)
  have other : ∀ b, b ≠ T → (s.heap.update T (Obj.mapFields (·.setIfInBounds 3 Value.none))).get? b = s.heap.get? b := fun b hb => Heap.get?_update_other _ _ (Ne.symm hb)
  have noRec : ∀ b o, s.heap.get? b = some o → (∀ vs, o.data ≠ .fields vs) → b ≠ T := fun b o hb hnf q => by
    rw [q, hT] at hb
    cases hb
    exact hnf ts hdT
  have ups : s.heap.UpToSlots (s.heap.update T (Obj.mapFields (·.setIfInBounds 3 Value.none))) := fun b o hb hnf => ⟨o.slots, (other b (noRec b o hb hnf)).trans hb⟩
  exact entryP hst hfr (hl.of_keeps fun b o hb hnf => ⟨o, (other b (noRec b o hb hnf)).trans hb, rfl⟩) hf ((other e (Ne.symm hTe)).trans he) hP
    (fun b o hbo => (other b fun q => by rw [q, hnT] at hbo; cases hbo).trans (hkb b o hbo)) hen hd (Array.getElem?_eq_some_iff.mp h1).1 fun h' R' U' => h h' R' (ups.trans U')
theorem leaveP_first {oe : Obj} {vs : Array Value} (hst : StP P)
    (hfr : A.frames = some (env :: outer)) (hl : s.heap.FunFrames base (env :: outer)) (hf : env.frame = some L) (he : s.heap.get? e = some oe) (hP : P oe) (hkb : base.StaysIn s.heap) (hen : base.get? e = none) (hd : oe.data = .fields vs) (h1 : vs[1]? = some .none)
    (h : ∀ h', FlyP P .none base outer e h' → s.heap.UpToSlots h' → Q () { s with heap := h' }) : wpAny M A (leaving env (.ref e)) Q E s := by
  unfold leaving
  exact wpAny_bind (noteP_first hst hfr hl hf he hP hkb hen hd h1 fun h' R U => setFlightP none hst R fun h'' R' U' => h h'' R'.pop (U.trans U'))
theorem leaveP_next (hst : StP P) (hfr : A.frames = some (env :: outer)) (hf : env.frame = some L) (R : FlyP P .none base (env :: outer) e s.heap)
    (h : ∀ h', FlyP P .none base outer e h' → s.heap.UpToSlots h' → Q () { s with heap := h' }) : wpAny M A (leaving env (.ref e)) Q E s := by
  unfold leaving
  exact wpAny_bind (noteP_next hst hfr hf R fun h' R U => setFlightP none hst R fun h'' R' U' => h h'' R'.pop (U.trans U'))
end
end Mine
namespace Mine
open PySem PySem.W PyProof.Rows PySem.Calls PyProof.V PySem.Spec
abbrev exO (dx t : Addr) : Obj := { cls := .ref 81, dict := some dx, data := .fields #[.ref t, .none, .none, .none, .bool false, .none] }
def keepT (dx : Addr) (o : Obj) : Prop := o.cls = .ref 81 ∧ o.dict = some dx
theorem keepT_st {dx : Addr} : StP (keepT dx) := by
  intro o f h
  obtain ⟨c, d, da, sl⟩ := o
  cases da <;> exact h
def SpotD (d : Obj) (sp : Int) : Prop := ∃ h1 h2 t1 t2 v t3, d = dictOf [⟨h1, .str (Str.ofString "what") t1, v⟩, ⟨h2, .str (Str.ofString "spot") t2, .int sp t3⟩] 2
def RaisedT (base : Heap) (l : List Env) (e : Addr) (sp : Int) (h : Heap) : Prop :=
  ∃ dx B d, base.StaysIn B ∧ B.get? dx = some d ∧ base.get? dx = none ∧ SpotD d sp ∧ FlyP (keepT dx) .none B l e h
/-- where a fault leaves a call: the caller's frame stands -/
def OnT (h₀ : Heap) (L : Addr) (m : Str → Option Value) (base : Heap) (l : List Env) (sp : Int) (E : Value → Shared → Prop) (s : Shared) : Prop :=
  ∀ g e h' tk', Fr h₀ L g m → RaisedT base l e sp h' → g.UpToSlots h' → E (.ref e) { s with heap := h', toks := tk' }
section
variable {M : Model} {A : Around} {E : Value → Shared → Prop} {s' : Shared} {base g g₂ h : Heap} {outer : List Env} {L a e : Addr} {m : Str → Option Value} {name : Str} {scope : Scope} {cd : Value} {Q : Unit → Shared → Prop} {sp : Int}
theorem leave_raiseT {dx t : Addr} {d : Obj} (K : Below A base outer g) (F : Fr g L s'.heap m) (N : News g L s'.heap [(e, exO dx t), (dx, d)]) (hde : dx ≠ e) (hsp : SpotD d sp)
    (hQ : ∀ h', RaisedT base outer e sp h' → g.UpToSlots h' → Q () { s' with heap := h' }) (hk : scope.kind = .function := by rfl) :
    wpAny M (A.deeper (envOf name scope L a cd)) (leaving (envOf name scope L a cd) (.ref e)) Q E s' := by
  have K' := K.push (name := name) (a := a) (cd := cd) F hk
  have he := N _ (.head _)
  have hd := N _ (.tail _ (.head _))
  have hin : ∀ env ∈ (envOf name scope L a cd :: outer), ∀ b, env.frame = some b → b ∈ e :: (envOf name scope L a cd :: outer).filterMap (·.frame) := fun env he b hb => .tail _ (List.mem_filterMap.mpr ⟨env, he, hb⟩)
  have nofr : ∀ b, g.get? b = none → b ≠ L → b ∉ (envOf name scope L a cd :: outer).filterMap (·.frame) := fun b hb hbL hm => by
    obtain ⟨env, hm, hf⟩ := List.mem_filterMap.mp hm
    rcases List.mem_cons.mp hm with rfl | hm
    · exact hbL (Option.some.inj hf).symm
    · obtain ⟨o, ho, _⟩ := (K.frames.mem (List.mem_filterMap.mpr ⟨env, hm, hf⟩)).2
      rw [hb] at ho
      cases ho
  have st : base.StaysIn (hideAll s'.heap (e :: (envOf name scope L a cd :: outer).filterMap (·.frame))) := fun b o q =>
    hideAll_get _ (K'.stays b o q) fun hm => by
      rcases List.mem_cons.mp hm with rfl | hm
      · have := K.stays _ _ q
        rw [he.2.2] at this
        cases this
      · have := (K'.frames.mem hm).1
        rw [q] at this
        cases this
  have hdx : (hideAll s'.heap (e :: (envOf name scope L a cd :: outer).filterMap (·.frame))).get? dx = some d := hideAll_get _ hd.1 fun hm => by
    rcases List.mem_cons.mp hm with z | hm
    · exact hde z
    · exact nofr dx hd.2.2 hd.2.1 hm
  refine leaveP_first (P := keepT dx) (base := hideAll s'.heap (e :: (envOf name scope L a cd :: outer).filterMap (·.frame))) keepT_st K'.stack (funFrames_hide K'.frames hin) rfl he.1 ⟨rfl, rfl⟩ (fun b o q => of_hideAll _ q) (hideAll_none _ (.head _)) rfl rfl fun h' R U => ?_
  exact hQ h' ⟨dx, _, d, st, hdx, fresh_of_stays K.stays hd.2.2, hsp, R⟩ ((Heap.UpToSlots.of_keeps F.keep).trans U)
theorem leave_onT (K : Below A base outer g) (F : Fr g L g₂ m) (R : RaisedT base (envOf name scope L a cd :: outer) e sp s'.heap) (hsm : g₂.UpToSlots s'.heap)
    (hQ : ∀ h', RaisedT base outer e sp h' → g.UpToSlots h' → Q () { s' with heap := h' }) :
    wpAny M (A.deeper (envOf name scope L a cd)) (leaving (envOf name scope L a cd) (.ref e)) Q E s' := by
  obtain ⟨dx, B, d, r1, r2, r3, r4, r5⟩ := R
  exact leaveP_next keepT_st (Around.frames_deeper K.stack) rfl r5 fun h' R' U => hQ h' ⟨dx, B, d, r1, r2, r3, r4, R'⟩ ((Heap.UpToSlots.of_keeps F.keep).trans (hsm.trans U))
end
section
variable {w : World} {A₀ : Around} {E : Value → Shared → Prop} {s' : Shared} {h₀ h : Heap} {outer : List Env} {L a e : Addr} {m : Str → Option Value} {name : Str} {scope : Scope} {cd : Value}
  {n : Str} {b₀ : Stmt} {suite : List Stmt} {pos np : Pos} {rest : List ExceptHandler} {Q : Flow → Shared → Prop} {news : List (Addr × Obj)} {sp : Int}
  {mean : ExcName → Option Value} {mg mb : Str → Option Value} {KF : Frag} {x : Str} {p : Program} {loose : List Str}
  {nm q : Str} {N : Addr} {bs bm : List Value} {hdct : Bool} {sn : List Str} {sub : List Value} {ab : Bool} {col : Option Bool} {dd : Option Addr} {k0 k1 k2 k3 k5 : Option Value} {newId : String}
theorem caught_T (K : Below A₀ h₀ outer h₀) (F : Fr h₀ L h m) (hsm : h.UpToSlots s'.heap) (R : RaisedT h₀ (envOf name scope L a cd :: outer) e sp s'.heap)
    (X : KF.In h₀) (T : TopRead p loose mg mb h₀) (ex : nsIn KF mainGlobals x = some (some (.ref 81)))
    (hC : KF.lookup 81 = some (excClassObj nm q 81 N bs bm hdct sn sub ab col dd k0 k1 k2 k3 k5 newId)) (hbase : bm.contains (.type "BaseException") = true)
    (k : ∀ h' dx oe d tk, SpotD d sp → oe.cls = .ref 81 → oe.dict = some dx → (∀ c, oe.data ≠ .cls c) → Fr h₀ L h' (fun y => if y = n then some (.ref e) else m y) → News h₀ L h' [(e, oe), (dx, d)] →
      wpAny (model prog w) ((A₀.deeper (envOf name scope L a cd)).mark (some (.ref e))) (execs (b₀ :: suite) (envOf name scope L a cd))
        (fun f s₄ => wpAny (model prog w) (A₀.deeper (envOf name scope L a cd)) (do bindName (envOf name scope L a cd) n .none; unbindBehindTheSuite (envOf name scope L a cd) n pos) (fun _ s₅ => Q f s₅) E s₄)
        (AsSuiteRaised (model prog w) ((A₀.deeper (envOf name scope L a cd)).mark (some (.ref e))) (envOf name scope L a cd) n pos (notedBy (model prog w) ((A₀.deeper (envOf name scope L a cd)).mark (some (.ref e))) (envOf name scope L a cd) (cameBackBy (model prog w) (A₀.deeper (envOf name scope L a cd)) (envOf name scope L a cd) E)))
        { s' with heap := h', toks := tk })
    (hk : scope.kind = .function := by rfl) (hlo : (envOf name scope L a cd).kindOf n = some .local := by rfl) (hx : (envOf name scope L a cd).kindOf x = some .globalImplicit := by rfl) (hd : (x == ("__debug__" : Str)) = false := by decide) :
    wpAny (model prog w) (A₀.deeper (envOf name scope L a cd)) (noteFrame (.ref e) (envOf name scope L a cd))
      (fun _ s₂ => wpAny (model prog w) (A₀.deeper (envOf name scope L a cd)) (setFlight (.ref e) none) (fun _ s₃ =>
        wpAny (model prog w) (A₀.deeper (envOf name scope L a cd)) (handleBy (.ref e) (envOf name scope L a cd) (.ExceptHandler (some (.Name x np)) (some n) (b₀ :: suite) pos :: rest)) Q E s₃) E s₂) E s' := by
  obtain ⟨dx, B, d, hB, hdB, hdb, hsp, hfl⟩ := R
  refine noteP_next keepT_st (Around.frames_deeper K.stack) rfl hfl fun h₄ R₄ U₄ => ?_
  refine setFlightP none keepT_st R₄ fun h₅ R₅ U₅ => ?_
  have hst₅ : h₀.StaysIn h₅ := fun b o z => R₅.1 b o (hB b o z)
  have F₅ := F.of_stays hst₅ (hsm.trans (U₄.trans U₅))
  obtain ⟨oe, vs, _, _, _, he, hP, hdat, _⟩ := R₅.2.2.2
  refine wpAny_handleBy_cons (codeAny_handlers_test (name_K F₅ X T ex ?_ hk hx hd)) (by intro q; cases q)
  refine wpAny_excMatches_sub_self (F₅.keep _ _ (X _ _ hC)) he hP.1 hbase (codeAny_handlers_suite_as ?_)
  refine setFlightP none keepT_st R₅ fun h₆ R₆ U₆ => ?_
  have hst₆ : h₀.StaysIn h₆ := fun b o z => R₆.1 b o (hB b o z)
  have F₆ := F.of_stays hst₆ (hsm.trans ((U₄.trans U₅).trans U₆))
  obtain ⟨oe₆, vs₆, _, _, _, he₆, hP₆, hdat₆, _⟩ := R₆.2.2.2
  have hL : B.get? L = none := by
    obtain ⟨_, ⟨L', _, hf, hn', _⟩, _⟩ := hfl.2.2.1
    obtain rfl : L = L' := Option.some.inj hf
    exact hn'
  have Nd : News h₀ L h₆ [(dx, d)] := fun q hq => by
    obtain rfl := List.mem_singleton.mp hq
    exact ⟨R₆.1 _ _ hdB, (fun z => by rw [show dx = L from z, hL] at hdB; exact nomatch hdB), hdb⟩
  have N₆ := News.more F₆ Nd he₆ (fun es n q => by rw [hdat₆] at q; cases q) (fresh_of_stays hB R₆.2.1)
  refine stN F₆ (news := _) N₆ (fun h₇ F₇ N₇ => ?_) hk hlo
  exact k h₇ dx oe₆ d _ hsp hP₆.1 hP₆.2 (fun c z => by rw [hdat₆] at z; cases z) F₇ N₇
end
end Mine
namespace Mine
open PySem PySem.W PyProof.Rows PySem.Calls PyProof.V PySem.Spec
theorem slot_wd_get : Slot "wrapper_descriptor" "__get__" "wrapper_descriptor.__get__" := .of (owner := "wrapper_descriptor") (n := "__get__") (by rw [typeLookup_type, builtinLookup_eq_fast]; kernel_rfl) (by decide +kernel) (by decide +kernel) (by decide +kernel)
  (by first | exact .inl (by decide +kernel) | exact .inr (by decide +kernel)) (by rw [isSubtype_type]; kernel_rfl)
theorem entry_wd_get : entryFor table "wrapper_descriptor.__get__" = some Builtin.«wrapper_descriptor.__get__» := entryFor_of_tree (by kernel_rfl)
theorem getArgs_wd (a b c : Value) : argsOk "wrapper_descriptor.__get__" ⟨[a, b, c], []⟩ := by unfold argsOk; kernel_rfl
theorem type_excInit : typeOf (.builtin "Exception.__init__") = pure (.type "wrapper_descriptor") := by
  show builtinType _ = _
  rw [builtinType_eq_fast]
  kernel_rfl
section
variable {w : World} {M : Model} {A : Around} {E : Value → Shared → Prop} {h : Heap} {g : Array GenState} {d : Drawn} {t : Nat} {os : OsState}
variable {nm q : Str} {N : Addr} {bs bm : List Value} {hdct : Bool} {sn : List Str} {sub : List Value} {ab : Bool} {col : Option Bool} {dd : Option Addr} {k0 k1 k2 k3 k5 : Option Value} {newId : String}
abbrev wrapO (id : String) (x : Addr) : Obj := { cls := .type "method-wrapper", dict := none, data := .fields #[.builtin id, .ref x], slots := #[] }
theorem wd_get {e : Addr} {oe : Obj} {Q : Fin → Shared → Prop} (hC : h.get? 81 = some (excClassObj nm q 81 N bs bm hdct sn sub ab col dd k0 k1 k2 k3 k5 newId)) (he : h.get? e = some oe) (hec : oe.cls = .ref 81) (hcB : bm.contains (.type "Exception") = true)
    (hq : Q (.done (.ret (.ref h.objs.size))) ⟨h.push (wrapO "Exception.__init__" e), g, d, t, os⟩) :
    wpAny M A (Builtin.«wrapper_descriptor.__get__» ⟨[.builtin "Exception.__init__", .ref e, .ref 81], []⟩) Q E ⟨h, g, d, t, os⟩ := by
  have hcc : (Value.ref 81 :: bm).contains (.type "Exception") = true := by rw [List.contains_cons, hcB, Bool.or_true]
  unfold Builtin.«wrapper_descriptor.__get__»
  repeat (first | (with_reducible refine wpAny_loadPart_at he ?_; rw [hec]) | with_reducible refine wpAny_loadPart_at hC ?_ | (with_reducible refine wpAny_isSubtype_exc hC ?_; rw [hcc]) | wp_step)
  have hown : ".".intercalate ("Exception.__init__".cutAt '.').dropLast = "Exception" := by decide +kernel
  rw [hown]
  refine wpAny_isSubtype_exc hC ?_
  rw [hcc]
  refine wpAny_pure ?_
  unfold newFields
  refine wpAny_bind (wpAny_newObj_type ?_ (by size_fits))
  exact wpAny_pure hq
set_option maxHeartbeats 1000000 in
theorem sga_wd {so e : Addr} {oe : Obj} {l₀ l : List Value} {K : Frag} {name : Str} {tk : Tok} {Q : Fin → Shared → Prop}
    (hso : h.get? so = some (ks_superObj 40 e 81)) (hno : Looks (model prog w) h (opaqueClassAbove (.ref 81)) none)
    (hM : Looks (model prog w) h (mroOf (.ref 81)) l₀) (hl : (l₀.dropWhile (· != .ref 40)).drop 1 = l) (X : K.In h) (hf : alongIn K name l = some (some (.builtin "Exception.__init__")))
    (hC : h.get? 81 = some (excClassObj nm q 81 N bs bm hdct sn sub ab col dd k0 k1 k2 k3 k5 newId)) (he : h.get? e = some oe) (hec : oe.cls = .ref 81) (hcB : bm.contains (.type "Exception") = true) (heC : e ≠ 81) (hn : (name == ("__class__" : Str)) = false)
    (hq : Q (.done (.ret (.ref h.objs.size))) ⟨h.push (wrapO "Exception.__init__" e), g, d, t, os⟩) :
    wpAny (model prog w) A (Builtin.«super.__getattribute__» ⟨[.ref so, .str name tk], []⟩) Q E ⟨h, g, d, t, os⟩ := by
  have hlk := slot_wd_get.lookup
  have hty := type_excInit
  have hTw : (⟨h, g, d, t, os⟩ : Shared).TypeIs (.builtin "Exception.__init__") "wrapper_descriptor" := type_excInit
  have hne : (Value.ref e == Value.ref 81) = false := by simp [heC]
  have hdt : (ks_superObj 40 e 81).data = .fields #[.ref 40, .ref e, .ref 81] := rfl
  have f0 : (#[.ref 40, .ref e, .ref 81] : Array Value)[0]? = some (.ref 40) := rfl
  have f1 : (#[.ref 40, .ref e, .ref 81] : Array Value)[1]? = some (.ref e) := rfl
  have f2 : (#[.ref 40, .ref e, .ref 81] : Array Value)[2]? = some (.ref 81) := rfl
  unfold Builtin.«super.__getattribute__»
  repeat (first
    | (with_reducible refine wpAny_field hso hdt f0 ?_) | (with_reducible refine wpAny_field hso hdt f1 ?_) | (with_reducible refine wpAny_field hso hdt f2 ?_)
    | (with_reducible refine ks_wpAny_notOpaque hno ?_)
    | (with_reducible refine Looks.at hM ?_; rw [hl])
    | (refine ks_forIn_along X (fun _ _ => rfl) rfl ?_ hf)
    | (with_reducible refine wpAny_of_eq hty ?_)
    | (with_reducible refine wpAny_call_entry slot_wd_get hTw entry_wd_get ?_ (getArgs_wd _ _ _))
    | (with_reducible refine wd_get hC he hec hcB ?_)
    | (with_reducible refine ⟨_, rfl, ?_⟩)
    | (simp only [hn, hne, Bool.or_false, Bool.false_eq_true, if_false])
    | wp_step
    | dsimp only)
  all_goals exact hq
theorem gm_wd {so e : Addr} {oe : Obj} {l₀ l : List Value} {K : Frag} {name : Str} {pl : Sem Bool} {Q : Value × List Value → Shared → Prop}
    (hso : h.get? so = some (ks_superObj 40 e 81)) (hno : Looks (model prog w) h (opaqueClassAbove (.ref 81)) none)
    (hM : Looks (model prog w) h (mroOf (.ref 81)) l₀) (hl : (l₀.dropWhile (· != .ref 40)).drop 1 = l) (X : K.In h) (hf : alongIn K name l = some (some (.builtin "Exception.__init__")))
    (hC : h.get? 81 = some (excClassObj nm q 81 N bs bm hdct sn sub ab col dd k0 k1 k2 k3 k5 newId)) (he : h.get? e = some oe) (hec : oe.cls = .ref 81) (hcB : bm.contains (.type "Exception") = true) (heC : e ≠ 81) (hn : (name == ("__class__" : Str)) = false)
    (hq : Q (.ref h.objs.size, []) ⟨h.push (wrapO "Exception.__init__" e), g, d, t + 1, os⟩) :
    wpAny (model prog w) A (getMethod (.ref so) name pl) Q E ⟨h, g, d, t, os⟩ := by
  have hlk := F.ks_slot_super_ga.lookup
  have hcan := F.ks_canon_super_ga
  have hT : ∀ t', (⟨h, g, d, t', os⟩ : Shared).TypeIs (.ref so) "super" := fun _ => ⟨_, hso, rfl⟩
  unfold getMethod
  refine wpAny_bind (wpAny_specialOf (hT _) hlk ?_)
  show wpAny _ _ (if (Manifest.canonical "super.__getattribute__" != "object.__getattribute__") = true then _ else _) _ _ _
  rw [if_pos hcan]
  unfold getAttr getAttrBy
  refine wpAny_bind (wpAny_bind (wpAny_mkText (wpAny_holding (wpAny_bind (wpAny_typeOf (hT _) (wpAny_bind (wpAny_of_eq hlk ?_)))))))
  show wpAny _ _ (getAttrByItsOwn (.ref so) (.str name t) (.type "super") (.builtin "super.__getattribute__") true false) _ _ _
  unfold getAttrByItsOwn hookBefore callGetattribute boundAndCalled
  refine wpAny_bind (wpAny_of_eq (show (if onTheHeap (.type "super") then typeLookup (.type "super") "__getattr__" else pure none) = pure none from rfl) ?_)
  refine wpAny_bind (wpAny_attempt (wpAny_holding ?_))
  show wpAny _ _ (bindSpecial (.builtin "super.__getattribute__") (.ref so) >>= _) _ _ _
  refine wpAny_bind (wpAny_of_eq (F.ks_slot_super_ga.bind _) ?_)
  refine wpAny_mono (Q := fun v s' => v = .ref h.objs.size ∧ s' = ⟨h.push (wrapO "Exception.__init__" e), g, d, t + 1, os⟩) (E := fun _ _ => False)
    (wpAny_call_entry F.ks_slot_super_ga (hT _) F.ks_entry_super_ga (sga_wd hso hno hM hl X hf hC he hec hcB heC hn ⟨_, rfl, rfl, rfl⟩) (F.ks_gaArgs_super _ _)) (fun v s' hv => ?_) fun _ _ z => z.elim
  obtain ⟨rfl, rfl⟩ := hv
  exact wpAny_pure (wpAny_pure hq)
end
end Mine
namespace Mine
open PySem PySem.W PyProof.Rows PySem.Calls PyProof.V PySem.Spec
abbrev exR (t : Addr) : Obj := { cls := .ref 81, data := .fields #[.ref t, .none, .none, .none, .bool false, .none] }
section
variable {nm q : Str} {N : Addr} {bs bm : List Value} {hdct : Bool} {sn : List Str} {sub : List Value} {ab : Bool} {col : Option Bool} {dd : Option Addr} {k0 k1 k2 k3 k5 : Option Value} {newId : String}
variable {w : World} {M : Model} {A : Around} {E : Value → Shared → Prop} {h : Heap} {g : Array GenState} {d : Drawn} {t : Nat} {os : OsState}
set_option maxHeartbeats 1000000 in
theorem call_wrap {qa e t0 : Addr} {v : Value} {Q : Value → Shared → Prop} (hq : h.get? qa = some (wrapO "Exception.__init__" e)) (he : h.get? e = some (exR t0)) (hC : h.get? 81 = some (excClassObj nm q 81 N bs bm hdct sn sub ab col dd k0 k1 k2 k3 k5 newId))
    (hQ : Q .none ⟨(h.push { cls := .type "tuple", data := .seq #[v] }).update e (Obj.mapFields (·.setIfInBounds 0 (.ref h.objs.size))), g, d, t, os⟩) :
    wpAny (model prog w) A (call (.ref qa) [v]) Q E ⟨h, g, d, t, os⟩ := by
  have F := PySem.F.excBase_Exception
  refine wpAny_call (codeAny_of_tree ?_)
  show wpAny _ A.in1 (callAny (.ref qa) _) _ _ _
  unfold callAny
  refine wpAny_bind (wpAny_load hq ?_)
  have hk := F.initKind
  have hr := F.initRow
  show wpAny _ _ (do checkBoundCall "Exception.__init__" ⟨[.ref e, v], []⟩; again (.builtin "Exception.__init__" ⟨[.ref e, v], []⟩)) _ _ _
  refine wpAny_bind ?_
  unfold checkBoundCall Bind.checkArgs
  simp only [hk, hr]
  repeat (first | (with_reducible refine wpAny_loadPart_at he ?_) | (with_reducible refine wpAny_loadPart_at hC ?_) | (with_reducible refine wpAny_load hC ?_) | wp_step)
  refine ⟨plainId_quiet F.init.plain _, codeAny_builtin F.initEntry ?_⟩
  rw [Around.under_plainId F.init.plain _]
  wp_walk
  exact hQ
end
end Mine
namespace Mine
open PySem PySem.W PyProof.Rows PySem.Calls PyProof.V PySem.Spec
open Builtin Builtin.ObjectAttr
theorem pass_exc (self : Value) : refuseLoop self "__setattr__" [.type "Exception", .type "BaseException", .type "object"] = pure () := by kernel_rfl
section
variable {w : World} {A : Around} {E : Value → Shared → Prop} {s : Shared} {K : Frag} {x C : Addr} {R : Result → Shared → Prop} {Q : Unit → Shared → Prop}
/-- a name is stored in an object's dict -/
theorem store_D {od od' : Obj} {dx : Addr} {name : Str} {tk : Tok} {v : Value} {es : List DictEntry} {n : Nat} {QF : Fin → Shared → Prop} (D : s.heap.get? dx = some od)
    (hl : (lookIn name od).isSome = true) (e : Obj.putName name (PyData.keyHash w.params name) (.str name s.toks) v od = od') (e' : od'.data = .dict es.toArray n) (hz : es.length ≤ 1000)
    (h : ∀ h', h'.get? dx = some od' → Heap.SameBut dx s.heap h' → QF (.done (.ret .none)) { s with heap := h', toks := s.toks + 1 }) :
    wpAny (model prog w) A (storeInDict dx (.str name tk) name v) QF E s := by
  have D' : (s.heap.update dx (Obj.putName name (PyData.keyHash w.params name) (.str name s.toks) v)).get? dx = some od' := by
    rw [← e]
    exact Heap.get?_update_self _ D (by rw [e]; obtain ⟨_, _, dd, _⟩ := od'; cases e'; rfl)
  unfold storeInDict newKeyGuard
  refine wpAny_bind (wpAny_pure (wpAny_bind ?_))
  unfold nsSet
  refine wpAny_bind (wpAny_bind (wpAny_askSetting (wpAny_pure (wpAny_bind (wpAny_mkText (wpAny_bind (wpAny_loadPart D ?_)))))))
  unfold lookIn at hl
  split at hl
  · rename_i es₀ n₀ q
    rw [q]
    dsimp only
    have c : (!es₀.any (·.key.isStr name) && es₀.any (·.refKey)) = false := by
      rw [← Array.any_toList, ← Array.any_toList]
      split at hl
      · rename_i en he
        rw [List.any_eq_true.mpr ⟨en, List.mem_of_find?_eq_some he, List.find?_some he⟩]; rfl
      · split at hl
        · cases hl
        · rename_i z; rw [Bool.not_eq_true] at z; rw [z, Bool.and_false]
    rw [aRefKeyMayBeTheName_at, c]
    refine wpAny_updatePart D ?_
    refine wpAny_bind (wpAny_lookBehind D' (by rw [e']; exact pastItsLine_dict (by rw [List.size_toArray, sizeLine_eq]; omega)) ?_)
    exact wpAny_pure (h _ D' (Heap.SameBut.update ..))
  · cases hl
theorem exc_open {ox : Obj} {odx : Option Obj} {cd : ClassData} {name : Str} {v : Value} (X : K.In s.heap) (I : InstAt s.heap x ox 81 odx) (hc : clsIn K 81 = some cd) (hm : cd.mro = [.ref 81, .ref 69, .ref 40, .type "Exception", .type "BaseException", .type "object"])
    (hs : findIn K (.ref 81) "__setattr__" = some (some (.builtin "object.__setattr__"))) (ho : mroIn K 81 (.type "object") = some true) (hf : findIn K (.ref 81) name = some none)
    (h : ∀ A' tk s2, s2 = { s with toks := s.toks + 1 } → wpAny (model prog w) A' (storeInOwnDict (.ref x) (.ref 81) (.str name tk) name v false) (fun fin s' => fin = .done (.ret .none) ∧ Q () s') (fun e s' => E e s') s2) :
    wpAny (model prog w) A (setAttr (.ref x) name v) Q E s := by
  refine set_plain X I hs ?_
  have SF := PySem.F.store_object
  have I2 : InstAt ({ s with toks := s.toks + 1 } : Shared).heap x ox 81 odx := I
  have X2 : K.In ({ s with toks := s.toks + 1 } : Shared).heap := X
  have sub : Looks (model prog w) ({ s with toks := s.toks + 1 } : Shared).heap (isInstance (.ref x) (.type "object")) true := I.type.andThen (looks_mroIn X ho)
  refine codeAny_call_builtin SF.slot.plain SF.entry (@check_slot (model prog w) _ _ { s with toks := s.toks + 1 } "object.__setattr__" "object" "__setattr__" (.ref x) [.str name s.toks, v] [] _ SF.kind SF.split sub (SF.args (.ref x) (.str name s.toks) v) ?_)
  have hmr : Looks (model prog w) ({ s with toks := s.toks + 1 } : Shared).heap (mroOf (.ref 81)) cd.mro := (looks_clsIn X hc).andThen .now
  rw [osa_eq, refuse_eq]
  refine wpAny_bind (wpAny_bind (I2.type.here (wpAny_bind (hmr.here ?_))))
  rw [hm, refuseLoop_ref, refuseLoop_ref, refuseLoop_ref, pass_exc]
  refine wpAny_pure (wpAny_bind (I2.type.here (wpAny_bind ((looks_findIn X2 hf).here (wpAny_bind (wpAny_pure ?_))))))
  refine wpAny_mono (h _ s.toks _ rfl) (fun fin s' z => ?_) fun _ _ z => z
  obtain ⟨rfl, z⟩ := z
  exact z
theorem exc_set_first {t : Addr} {cd : ClassData} {name : Str} {v : Value} (X : K.In s.heap) (hx : s.heap.get? x = some (exR t)) (hc : clsIn K 81 = some cd) (hdc : cd.hasDict = true) (hm : cd.mro = [.ref 81, .ref 69, .ref 40, .type "Exception", .type "BaseException", .type "object"])
    (hs : findIn K (.ref 81) "__setattr__" = some (some (.builtin "object.__setattr__"))) (ho : mroIn K 81 (.type "object") = some true) (hf : findIn K (.ref 81) name = some none)
    (h : ∀ h' dx hh tk tk', dx = s.heap.objs.size → h'.get? x = some (exO dx t) → h'.get? dx = some (dictOf [⟨hh, .str name tk, v⟩] 1) → (∀ b o, b ≠ x → s.heap.get? b = some o → h'.get? b = some o) → Q () { s with heap := h', toks := tk' }) :
    wpAny (model prog w) A (setAttr (.ref x) name v) Q E s := by
  refine exc_open (odx := none) X ⟨hx, rfl, rfl, trivial⟩ hc hm hs ho hf fun A' tk s2 hs2 => ?_
  subst hs2
  have hxs : x ≠ s.heap.objs.size := Nat.ne_of_lt (Heap.lt_size hx)
  have hx₁ : (s.heap.push { cls := .type "dict", data := .dict #[] }).get? x = some (exR t) := Heap.get?_push_of_some _ hx
  have X2 : K.In ({ s with toks := s.toks + 1 } : Shared).heap := X
  have hx2 : ({ s with toks := s.toks + 1 } : Shared).heap.get? x = some (exR t) := hx
  unfold storeInOwnDict ownStreamTells
  refine wpAny_bind (wpAny_pure ?_)
  rw [if_neg (by decide)]
  refine wpAny_bind ?_
  unfold ownDictForStores instanceDict
  refine wpAny_bind (wpAny_loadPart hx2 (wpAny_bind ((looks_clsIn X2 hc).here ?_)))
  rw [hdc, if_neg (by decide)]
  show wpAny _ _ (alloc { cls := .type "dict", data := .dict #[] } >>= fun d => update x (fun o => { o with dict := some d }) >>= fun _ => dictMade (.ref 81) x d) _ _ _
  refine wpAny_bind (wpAny_alloc' ?_)
  refine wpAny_bind (wpAny_update' hx₁ ?_)
  refine wpAny_pure ?_
  have hgd : ((s.heap.push { cls := .type "dict", data := .dict #[] }).update x fun o => { o with dict := some s.heap.objs.size }).get? s.heap.objs.size = some { cls := .type "dict", data := .dict #[] } :=
    (Heap.get?_update_ne _ _ _ _ hxs.symm).trans (Heap.get?_push_at rfl rfl)
  have hgx : ((s.heap.push { cls := .type "dict", data := .dict #[] }).update x fun o => { o with dict := some s.heap.objs.size }).get? x = some (exO s.heap.objs.size t) := Heap.get?_update_self _ hx₁ rfl
  refine store_D (s := ⟨_, s.gens, s.drawn, s.toks + 1, s.os⟩) (od := { cls := .type "dict", data := .dict #[] }) (od' := dictOf [⟨PyData.keyHash w.params name, .str name (s.toks + 1), v⟩] 1) (es := [⟨PyData.keyHash w.params name, .str name (s.toks + 1), v⟩]) (n := 1) hgd rfl rfl rfl (by simp) fun h' hd' hs' => ⟨rfl, ?_⟩
  refine h h' _ _ _ _ rfl ((hs'.2 x hxs).trans hgx) hd' fun b o hb ho => (hs'.2 b (Nat.ne_of_lt (Heap.lt_size ho))).trans ((Heap.get?_update_ne _ _ _ _ hb).trans (Heap.get?_push_of_some _ ho))
theorem exc_set_next {t dx : Addr} {cd : ClassData} {name : Str} {v : Value} {od od' : Obj} {es : List DictEntry} {n : Nat} (X : K.In s.heap) (hx : s.heap.get? x = some (exO dx t)) (hdx : s.heap.get? dx = some od) (hne : x ≠ dx) (hc : clsIn K 81 = some cd) (hdc : cd.hasDict = true) (hm : cd.mro = [.ref 81, .ref 69, .ref 40, .type "Exception", .type "BaseException", .type "object"])
    (hs : findIn K (.ref 81) "__setattr__" = some (some (.builtin "object.__setattr__"))) (ho : mroIn K 81 (.type "object") = some true) (hf : findIn K (.ref 81) name = some none)
    (hl : (lookIn name od).isSome = true) (e : Obj.putName name (PyData.keyHash w.params name) (.str name (s.toks + 1)) v od = od') (e' : od'.data = .dict es.toArray n) (hz : es.length ≤ 1000)
    (h : ∀ h' tk', h'.get? dx = some od' → (∀ b o, b ≠ dx → s.heap.get? b = some o → h'.get? b = some o) → Q () { s with heap := h', toks := tk' }) :
    wpAny (model prog w) A (setAttr (.ref x) name v) Q E s := by
  refine exc_open (odx := some od) X ⟨hx, rfl, rfl, hdx⟩ hc hm hs ho hf fun A' tk s2 hs2 => ?_
  subst hs2
  have X2 : K.In ({ s with toks := s.toks + 1 } : Shared).heap := X
  have hx2 : ({ s with toks := s.toks + 1 } : Shared).heap.get? x = some (exO dx t) := hx
  unfold storeInOwnDict ownStreamTells
  refine wpAny_bind (wpAny_pure ?_)
  rw [if_neg (by decide)]
  refine wpAny_bind ?_
  unfold ownDictForStores instanceDict
  refine wpAny_bind (wpAny_loadPart hx2 (wpAny_bind ((looks_clsIn X2 hc).here ?_)))
  rw [hdc, if_neg (by decide)]
  refine wpAny_pure ?_
  exact store_D (s := ⟨s.heap, s.gens, s.drawn, s.toks + 1, s.os⟩) hdx hl e e' hz fun h' hd' hs' => ⟨rfl, h h' _ hd' fun b o hb hbo => (hs'.2 b hb).trans hbo⟩
end
end Mine
namespace Mine
open PySem PySem.W PyProof.Rows PySem.Calls PyProof.V PySem.Spec
theorem two_sub {l rest : List (Addr × Obj)} {x y : Addr × Obj} (m1 : x ∈ l) (m2 : y ∈ l) (m3 : ∀ q ∈ rest, q ∈ l) : ∀ q ∈ x :: y :: rest, q ∈ l := by
  intro q hq
  rcases List.mem_cons.mp hq with rfl | hq
  · exact m1
  · rcases List.mem_cons.mp hq with rfl | hq
    · exact m2
    · exact m3 q hq
theorem chg {h₀ h h' : Heap} {L e : Addr} {m : Str → Option Value} {rest : List (Addr × Obj)} (F : Fr h₀ L h m) (N : News h₀ L h rest) (he : h₀.get? e = none) (heL : e ≠ L) (k : ∀ b o, b ≠ e → h.get? b = some o → h'.get? b = some o) (hoff : ∀ q ∈ rest, q.1 ≠ e) :
    Fr h₀ L h' m ∧ News h₀ L h' rest := by
  obtain ⟨oL, es, ep, hL, r⟩ := F.ns
  refine ⟨⟨⟨oL, es, ep, k _ _ (Ne.symm heL) hL, r⟩, fun b o q => k b o (fun z => ?_) (F.keep b o q), F.above⟩, fun q hq => ⟨k _ _ (hoff q hq) (N q hq).1, (N q hq).2⟩⟩
  rw [z, he] at q
  cases q
theorem instR {h₀ h : Heap} {L e t : Addr} {news : List (Addr × Obj)} (N : News h₀ L h news) (hm : (e, exR t) ∈ news) : InstAt h e (exR t) 81 none := ⟨(N _ hm).1, rfl, rfl, trivial⟩
theorem instO {h₀ h : Heap} {L e dx t : Addr} {d : Obj} {news : List (Addr × Obj)} (N : News h₀ L h news) (hm : (e, exO dx t) ∈ news) (hd : (dx, d) ∈ news) : InstAt h e (exO dx t) 81 (some d) := ⟨(N _ hm).1, rfl, rfl, (N _ hd).1⟩
section
variable {w : World} {A : Around} {E : Value → Shared → Prop} {s : Shared} {K : Frag} {h₀ : Heap} {L : Addr} {m : Str → Option Value} {news rest : List (Addr × Obj)} {e t so : Addr}
variable {nm q : Str} {N' : Addr} {bs bm : List Value} {hdct : Bool} {sn : List Str} {sub : List Value} {ab : Bool} {col : Option Bool} {dd : Option Addr} {k0 k1 k2 k3 k5 : Option Value} {newId : String}
theorem off81 (X₀ : K.In h₀) (N : News h₀ L s.heap news) {o o81 : Obj} (hm : (e, o) ∈ news) (hC : K.lookup 81 = some o81) : e ≠ 81 := fun z => by
  have := (N _ hm).2.2
  rw [show ((e, o) : Addr × Obj).1 = 81 from z, X₀ _ _ hC] at this
  cases this
theorem gm_wdK {name : Str} {pl : Sem Bool} {Q : Value × List Value → Shared → Prop} (F : Fr h₀ L s.heap m) (X₀ : K.In h₀) (N : News h₀ L s.heap news) (hso : (so, ks_superObj 40 e 81) ∈ news) (hm : (e, exR t) ∈ news)
    (ho : nsIn K cStatics "thirdparty.any" = some none) (hC : K.lookup 81 = some (excClassObj nm q 81 N' bs bm hdct sn sub ab col dd k0 k1 k2 k3 k5 newId)) (hcB : bm.contains (.type "Exception") = true) 
    (hs0 : ks_superIn K 81 40 name = some (some (.builtin "Exception.__init__"))) (hn : (name == ("__class__" : Str)) = false)
    (h : ∀ q h', Fr h₀ L h' m → News h₀ L h' ((q, wrapO "Exception.__init__" e) :: news) → (∀ p ∈ news, p.1 < q) → Q (.ref q, []) { s with heap := h', toks := s.toks + 1 }) : wpAny (model prog w) A (getMethod (.ref so) name pl) Q E s := by
  have X : K.In s.heap := X₀.keeps F.keep
  have h81 := off81 X₀ N hm hC
  obtain ⟨cd, hcd, hs⟩ : ∃ cd, clsIn K 81 = some cd ∧ alongIn K name ((cd.mro.dropWhile (· != .ref 40)).drop 1) = some (some (.builtin "Exception.__init__")) := by
    cases hc : clsIn K 81 with
    | none => unfold ks_superIn at hs0; rw [hc] at hs0; cases hs0
    | some cd => unfold ks_superIn at hs0; rw [hc] at hs0; exact ⟨cd, rfl, hs0⟩
  obtain ⟨hh, g, d, t, os⟩ := s
  refine gm_wd (N _ hso).1 (looks_opaque X ho) (l₀ := cd.mro) ?_ rfl X hs (X _ _ hC) (N _ hm).1 rfl hcB h81 hn ?_
  · exact fun A Q E s k q => wpAny_bind ((looks_clsIn X hcd) A _ E s k (wpAny_pure q))
  · obtain ⟨F', N', l'⟩ := ks_newsPush (s := ⟨hh, g, d, t, os⟩) (o := wrapO "Exception.__init__" e) F N rfl (Heap.get?_push_at rfl rfl) (fun b o e => Heap.get?_push_of_some _ e)
    exact h _ _ F' N' l'
def WrapAt (u e : Addr) (h : Heap) : Prop := h.get? u = some (wrapO "Exception.__init__" e)
theorem wrapAt_of {u : Addr} {h : Heap} (N : News h₀ L h news) (hm : (u, wrapO "Exception.__init__" e) ∈ news) : WrapAt u e h := (N _ hm).1
theorem callWith_wrap {pos : Pos} {u : Addr} {env : Env} {e1 : Expr} {rs : List Expr} {Q : Value → Shared → Prop} (_N : News h₀ L s.heap news) (_hm : (u, wrapO "Exception.__init__" e) ∈ news)
    (h : wpAny (model prog w) A (spliced (backTo pos (starEach (e1 :: rs) env))) (fun vs s₁ => WrapAt u e s₁.heap ∧ wpAny (model prog w) A (call (.ref u) vs) Q E s₁) E s)
    (he : starEach (e1 :: rs) env = (false, eval e1 env) :: starEach rs env := by rfl) (hplain : (backTo pos (starEach rs env)).any (·.1) = false := by rfl) :
    wpAny (model prog w) A (callWith pos (.ref u) [] (backTo pos (starEach (e1 :: rs) env)) []) Q E s := by
  rw [he] at h ⊢
  have hpl : (backTo pos ((false, eval e1 env) :: starEach rs env)).any (·.1) = false := by show (false || (backTo pos (starEach rs env)).any (·.1)) = false; rw [hplain]; rfl
  unfold callWith
  refine wpAny_bind (wpAny_holding (wpAny_mono (evalArgs_plain (Q := fun a s₂ => WrapAt u e s₂.heap ∧ wpAny (model prog w) A (call (.ref u) a.pos a.kw) Q E s₂) h) (fun x s₁ h₁ => wpAny_bind (wpAny_standAt ?_)) fun _ _ x => x))
  obtain ⟨ho, hcall⟩ := h₁
  simp only [hpl, List.any_nil, Bool.or_false]
  refine wpAny_bind (m := keeperOf (.ref u)) ?_
  unfold keeperOf
  refine wpAny_bind (wpAny_load ho ?_)
  simp only [show (Value.type "method-wrapper" != Value.type "method") = true by decide, show (Value.type "method-wrapper" == Value.type "builtin_function_or_method" || Value.type "method-wrapper" == Value.type "method-wrapper") = true by decide, if_true]
  refine wpAny_pure ?_
  exact wpAny_bind (wpAny_mono hcall (fun r s₂ hr => wpAny_bind (wpAny_holding (wpAny_point (wpAny_pure hr)))) fun _ _ x => x)
theorem call_wrapK {u : Addr} {v : Value} {Q : Value → Shared → Prop} (F : Fr h₀ L s.heap m) (X₀ : K.In h₀) (N : News h₀ L s.heap ((e, exR t) :: rest)) (hu : (u, wrapO "Exception.__init__" e) ∈ rest) (hoff : ∀ q ∈ rest, q.1 ≠ e)
    (hC : K.lookup 81 = some (excClassObj nm q 81 N' bs bm hdct sn sub ab col dd k0 k1 k2 k3 k5 newId))
    (h : ∀ t' h', Fr h₀ L h' m → News h₀ L h' ((e, exR t') :: rest) → Q .none { s with heap := h' }) : wpAny (model prog w) A (call (.ref u) [v]) Q E s := by
  have X : K.In s.heap := X₀.keeps F.keep
  have he := N _ (.head _)
  have hne : e ≠ s.heap.objs.size := Nat.ne_of_lt (Heap.lt_size he.1)
  have Nr := newsSub N (fun q hq => .tail _ hq)
  obtain ⟨hh, g, d, tk, os⟩ := s
  have hpx := Heap.get?_push_of_some (h := hh) { cls := .type "tuple", data := .seq #[v] } he.1
  refine call_wrap (Nr _ hu).1 he.1 (X _ _ hC) ?_
  obtain ⟨F', N2⟩ := chg (h' := (hh.push { cls := .type "tuple", data := .seq #[v] }).update e (Obj.mapFields (·.setIfInBounds 0 (.ref hh.objs.size)))) F Nr he.2.2 he.2.1 (fun b o hb ho => (Heap.get?_update_ne _ _ _ _ hb).trans (Heap.get?_push_of_some _ ho)) hoff
  refine h hh.objs.size _ F' fun q hq => ?_
  rcases List.mem_cons.mp hq with rfl | hq
  · exact ⟨Heap.get?_update_self _ hpx rfl, he.2⟩
  · exact N2 q hq
theorem set_firstK {cd : ClassData} {name : Str} {v : Value} {Q : Unit → Shared → Prop} (F : Fr h₀ L s.heap m) (X₀ : K.In h₀) (N : News h₀ L s.heap ((e, exR t) :: rest)) (hoff : ∀ q ∈ rest, q.1 ≠ e)
    (hc : clsIn K 81 = some cd) (hdc : cd.hasDict = true) (hm : cd.mro = [.ref 81, .ref 69, .ref 40, .type "Exception", .type "BaseException", .type "object"])
    (hs : findIn K (.ref 81) "__setattr__" = some (some (.builtin "object.__setattr__"))) (ho : mroIn K 81 (.type "object") = some true) (hf : findIn K (.ref 81) name = some none)
    (h : ∀ h' dx hh tk tk', e < dx → (∀ q ∈ rest, q.1 < dx) → Fr h₀ L h' m → News h₀ L h' ((e, exO dx t) :: (dx, dictOf [⟨hh, .str name tk, v⟩] 1) :: rest) → Q () { s with heap := h', toks := tk' }) :
    wpAny (model prog w) A (setAttr (.ref e) name v) Q E s := by
  have X : K.In s.heap := X₀.keeps F.keep
  have he := N _ (.head _)
  have Nr := newsSub N (fun q hq => .tail _ hq)
  refine exc_set_first X he.1 hc hdc hm hs ho hf fun h' dx hh tk tk' e1 e2 e3 k => ?_
  obtain ⟨F', N2⟩ := chg F Nr he.2.2 he.2.1 k hoff
  refine h h' dx hh tk tk' (by rw [e1]; exact Heap.lt_size he.1) (fun q hq => by rw [e1]; exact Heap.lt_size (Nr q hq).1) F' fun q hq => ?_
  rcases List.mem_cons.mp hq with rfl | hq
  · exact ⟨e2, he.2⟩
  · rcases List.mem_cons.mp hq with rfl | hq
    · refine ⟨e3, fun z => ?_, ?_⟩
      · obtain ⟨oL, es, ep, hL, r⟩ := F.ns
        have := Heap.lt_size hL
        rw [← z, e1] at this
        exact absurd this (Nat.lt_irrefl _)
      · cases z : h₀.get? dx with
        | none => rfl
        | some o =>
          have := Heap.lt_size (F.keep _ _ z)
          rw [e1] at this
          exact absurd this (Nat.lt_irrefl _)
    · exact N2 q hq
theorem set_nextK {cd : ClassData} {name : Str} {v : Value} {od od' : Obj} {dx : Addr} {es : List DictEntry} {n : Nat} {Q : Unit → Shared → Prop} (F : Fr h₀ L s.heap m) (X₀ : K.In h₀) (N : News h₀ L s.heap ((dx, od) :: rest)) (hme : (e, exO dx t) ∈ rest) (hoff : ∀ q ∈ rest, q.1 ≠ dx)
    (hc : clsIn K 81 = some cd) (hdc : cd.hasDict = true) (hm : cd.mro = [.ref 81, .ref 69, .ref 40, .type "Exception", .type "BaseException", .type "object"])
    (hs : findIn K (.ref 81) "__setattr__" = some (some (.builtin "object.__setattr__"))) (ho : mroIn K 81 (.type "object") = some true) (hf : findIn K (.ref 81) name = some none)
    (hl : (lookIn name od).isSome = true) (e1 : Obj.putName name (PyData.keyHash w.params name) (.str name (s.toks + 1)) v od = od') (e' : od'.data = .dict es.toArray n) (hz : es.length ≤ 1000)
    (h : ∀ h' tk', Fr h₀ L h' m → News h₀ L h' ((dx, od') :: rest) → Q () { s with heap := h', toks := tk' }) :
    wpAny (model prog w) A (setAttr (.ref e) name v) Q E s := by
  have X : K.In s.heap := X₀.keeps F.keep
  have hd := N _ (.head _)
  have Nr := newsSub N (fun q hq => .tail _ hq)
  refine exc_set_next X (Nr _ hme).1 hd.1 (hoff _ hme) hc hdc hm hs ho hf hl e1 e' hz fun h' tk' e2 k => ?_
  obtain ⟨F', N2⟩ := chg F Nr hd.2.2 hd.2.1 k hoff
  refine h h' tk' F' fun q hq => ?_
  rcases List.mem_cons.mp hq with rfl | hq
  · exact ⟨e2, hd.2⟩
  · exact N2 q hq
theorem call_wrapU {u : Addr} {v : Value} {g : Obj → List (Addr × Obj)} {Q : Value → Shared → Prop} (F : Fr h₀ L s.heap m) (X₀ : K.In h₀) (N : News h₀ L s.heap news) (U : UpdF e (exR t) news g) (hu : (u, wrapO "Exception.__init__" e) ∈ news) (hue : @Ne Nat u e)
    (hC : K.lookup 81 = some (excClassObj nm q 81 N' bs bm hdct sn sub ab col dd k0 k1 k2 k3 k5 newId))
    (h : ∀ t' h', Fr h₀ L h' m → News h₀ L h' (g (exR t')) → Q .none { s with heap := h' }) : wpAny (model prog w) A (call (.ref u) [v]) Q E s := by
  obtain ⟨rest, r1, r2, r3, r4, r5⟩ := canonF U
  exact call_wrapK F X₀ (newsSub N r1) (r4 _ hu hue) r2 hC fun t' h' F' N' => h t' h' F' (newsSub N' fun q hq => r3 _ _ hq)
theorem set_firstU {cd : ClassData} {name : Str} {v : Value} {g : Obj → List (Addr × Obj)} {Q : Unit → Shared → Prop} (F : Fr h₀ L s.heap m) (X₀ : K.In h₀) (N : News h₀ L s.heap news) (U : UpdF e (exR t) news g)
    (hc : clsIn K 81 = some cd) (hdc : cd.hasDict = true) (hm : cd.mro = [.ref 81, .ref 69, .ref 40, .type "Exception", .type "BaseException", .type "object"])
    (hs : findIn K (.ref 81) "__setattr__" = some (some (.builtin "object.__setattr__"))) (ho : mroIn K 81 (.type "object") = some true) (hf : findIn K (.ref 81) name = some none)
    (h : ∀ h' dx hh tk tk', (∀ q ∈ g (exO dx t), q.1 < dx) → Fr h₀ L h' m → News h₀ L h' ((dx, dictOf [⟨hh, .str name tk, v⟩] 1) :: g (exO dx t)) → Q () { s with heap := h', toks := tk' }) :
    wpAny (model prog w) A (setAttr (.ref e) name v) Q E s := by
  obtain ⟨rest, r1, r2, r3, r4, r5⟩ := canonF U
  refine set_firstK F X₀ (newsSub N r1) r2 hc hdc hm hs ho hf fun h' dx hh tk tk' e1 e2 F' N' => h h' dx hh tk tk' (fun q hq => ?_) F' (newsSub N' fun q hq => ?_)
  · rcases List.mem_cons.mp (r3 _ _ hq) with rfl | hq
    · exact e1
    · exact e2 q hq
  · rcases List.mem_cons.mp hq with rfl | hq
    · exact .tail _ (.head _)
    · rcases List.mem_cons.mp (r3 _ _ hq) with rfl | hq
      · exact .head _
      · exact .tail _ (.tail _ hq)
theorem set_nextU {cd : ClassData} {name : Str} {v : Value} {od od' : Obj} {dx : Addr} {es : List DictEntry} {n : Nat} {g : Obj → List (Addr × Obj)} {Q : Unit → Shared → Prop} (F : Fr h₀ L s.heap m) (X₀ : K.In h₀) (N : News h₀ L s.heap news) (hme : (e, exO dx t) ∈ news) (U : UpdF dx od news g) (hne : @Ne Nat e dx)
    (hc : clsIn K 81 = some cd) (hdc : cd.hasDict = true) (hm : cd.mro = [.ref 81, .ref 69, .ref 40, .type "Exception", .type "BaseException", .type "object"])
    (hs : findIn K (.ref 81) "__setattr__" = some (some (.builtin "object.__setattr__"))) (ho : mroIn K 81 (.type "object") = some true) (hf : findIn K (.ref 81) name = some none)
    (hl : (lookIn name od).isSome = true) (e1 : Obj.putName name (PyData.keyHash w.params name) (.str name (s.toks + 1)) v od = od') (e' : od'.data = .dict es.toArray n) (hz : es.length ≤ 1000)
    (h : ∀ h' tk', Fr h₀ L h' m → News h₀ L h' (g od') → Q () { s with heap := h', toks := tk' }) :
    wpAny (model prog w) A (setAttr (.ref e) name v) Q E s := by
  obtain ⟨rest, r1, r2, r3, r4, r5⟩ := canonF U
  exact set_nextK F X₀ (newsSub N r1) (r4 _ hme hne) r2 hc hdc hm hs ho hf hl e1 e' hz fun h' tk' F' N' => h h' tk' F' (newsSub N' fun q hq => r3 _ _ hq)
theorem set_spotU {cd : ClassData} {v v0 : Value} {dx : Addr} {hh : Int} {tk0 : Tok} {g : Obj → List (Addr × Obj)} {Q : Unit → Shared → Prop} (F : Fr h₀ L s.heap m) (X₀ : K.In h₀) (N : News h₀ L s.heap news) (hme : (e, exO dx t) ∈ news) (U : UpdF dx (dictOf [⟨hh, .str (Str.ofString "what") tk0, v0⟩] 1) news g) (hne : @Ne Nat e dx)
    (hc : clsIn K 81 = some cd) (hdc : cd.hasDict = true) (hm : cd.mro = [.ref 81, .ref 69, .ref 40, .type "Exception", .type "BaseException", .type "object"])
    (hs : findIn K (.ref 81) "__setattr__" = some (some (.builtin "object.__setattr__"))) (ho : mroIn K 81 (.type "object") = some true) (hf : findIn K (.ref 81) (Str.ofString "spot") = some none)
    (h : ∀ h2 tk1 h' tk', Fr h₀ L h' m → News h₀ L h' (g (dictOf [⟨hh, .str (Str.ofString "what") tk0, v0⟩, ⟨h2, .str (Str.ofString "spot") tk1, v⟩] 2)) → Q () { s with heap := h', toks := tk' }) :
    wpAny (model prog w) A (setAttr (.ref e) (Str.ofString "spot") v) Q E s :=
  set_nextU (od' := dictOf [⟨hh, .str (Str.ofString "what") tk0, v0⟩, ⟨PyData.keyHash w.params (Str.ofString "spot"), .str (Str.ofString "spot") (s.toks + 1), v⟩] 2) (es := [⟨hh, .str (Str.ofString "what") tk0, v0⟩, ⟨PyData.keyHash w.params (Str.ofString "spot"), .str (Str.ofString "spot") (s.toks + 1), v⟩]) (n := 2)
    F X₀ N hme U hne hc hdc hm hs ho hf rfl rfl rfl (by simp) fun h' tk' F' N' => h _ _ h' tk' F' N'
end
end Mine
section
local macro_rules | `(tactic| k_inst) => `(tactic| first | exact Mine.instR (by k_asm) (by k_mem) | exact Mine.instO (by k_asm) (by k_mem) (by k_mem))
theorem Mine.rw_P20_init : True := by
  k_with_none
  (k_with "subscriptTail" => (k_here; (fail_if_success fail_if_success with_reducible show wpAny _ _ (subscriptTail _ _ (Value.ref _) (Value.str _ _)) _ _ _); k_dflt (refine' Mine.d_get ?zzN ?zzm ?zzo ?zzf ?_; (case zzN => k_asm); (case zzm => k_mem); (case zzo => with_reducible assumption); (case zzf => exact rfl); k_whole)))
  (k_with "setItem ref str" => (k_here; (fail_if_success fail_if_success with_reducible show wpAny _ _ (setItem (Value.ref _) (Value.str _ _) _) _ _ _); k_dflt (refine' Mine.d_set ?zzF ?zzN ?zzU ?zzo ?_ ?zzz; (case zzF => k_asm); (case zzN => k_asm); (case zzU => k_updF); (case zzo => with_reducible assumption); (case zzz => exact Nat.le_of_ble_eq_true rfl)); intro _ _ _ _ _; (try k_sweep)))
  (k_with "call builtin:len" => (k_here; (fail_if_success fail_if_success with_reducible show wpAny _ _ (call (Value.builtin "len") [Value.ref _]) _ _ _); k_dflt (refine' Mine.len_L ?zzN ?zzm ?zzb ?_; (case zzN => k_asm); (case zzm => k_mem); (case zzb => omega); k_whole)))
  (k_with "subscriptTail" => (k_here; (fail_if_success fail_if_success with_reducible show wpAny _ _ (subscriptTail _ _ (Value.ref _) (Value.int _ _)) _ _ _); k_dflt (refine' Mine.item_L ?zzN ?zzm ?zza ?zzb ?zzc ?_; (case zzN => k_asm); (case zzm => k_mem); (case zza => omega); (case zzb => omega); (case zzc => omega); k_whole); intro _ _))
  (k_with "subscriptTail" => (k_here; (fail_if_success fail_if_success with_reducible show wpAny _ _ (subscriptTail _ _ (Value.ref _) (Value.int _ _)) _ _ _); k_dflt (refine' Mine.item_LI ?zzN ?zzm ?zzi ?zza ?zzb ?zzc ?_; (case zzN => k_asm); (case zzm => k_mem); (case zzi => with_reducible assumption); (case zza => omega); (case zzb => omega); (case zzc => omega); k_whole); intro _ _))
  (k_with "ite" => first | with_reducible refine PyProof.Rows.ite_tt ?_ | with_reducible refine PyProof.Rows.ite_ff ?_)
  (k_with "execs cons" => (k_here; (try k_gentoks); (with_reducible refine wpAny_execs_cons ?_); (try dsimp only); k_fold))
  (k_with "eval Constant int" => (with_reducible refine Mine.constI ?_))
  (k_with "eval Constant str" => (with_reducible refine Mine.constS ?_))
  (k_with "binaryOp Add int int" => (with_reducible refine Mine.addI ?_))
  (k_with "getMethod ref" => (k_here; (fail_if_success fail_if_success with_reducible show wpAny _ _ (getMethod (Value.ref _) _ _) _ _ _); k_dflt (refine' Mine.gm_wdK ?zzF ?zzX ?zzN ?zzso ?zzm ?zzo ?zzC ?zzB ?zzs ?zzn ?_; (case zzF => k_asm); (case zzX => k_asm); (case zzN => k_asm); (case zzso => k_mem); (case zzm => k_mem); (case zzo => k_is); (case zzC => k_is); (case zzB => rfl); (case zzs => ks_is); (case zzn => decide)); intro _ _ _ _ l1; (try k_lt l1)))
  (k_with "callWith ref" => (k_here; (fail_if_success fail_if_success with_reducible show wpAny _ _ (callWith _ (Value.ref _) [] (backTo _ (starEach (_ :: _) _)) []) _ _ _); k_dflt (refine' Mine.callWith_wrap ?zzN ?zzm ?_; (case zzN => k_asm); (case zzm => k_mem))))
  (k_with "And" => (refine ⟨Mine.wrapAt_of (by k_asm) (by k_mem), ?_⟩))
  (k_with "call ref" => (k_here; (fail_if_success fail_if_success with_reducible show wpAny _ _ (call (Value.ref _) [_]) _ _ _); k_dflt (refine' Mine.call_wrapU ?zzF ?zzX ?zzN ?zzU ?zzu ?zze ?zzC ?_; (case zzF => k_asm); (case zzX => k_asm); (case zzN => k_asm); (case zzu => k_mem); (case zzU => k_updF); (case zze => omega); (case zzC => k_is)); intro _ _ _ N9; (try dsimp only at N9); (try k_sweep)))
  (k_with "setAttr ref" => (k_here; k_dflt (refine' Mine.set_firstU ?zzF ?zzX ?zzN ?zzU ?zzc ?zzdc ?zzm ?zzs ?zzo ?zzf ?_; (case zzF => k_asm); (case zzX => k_asm); (case zzN => k_asm); (case zzU => k_updF); (case zzc => k_is); (case zzdc => exact rfl); (case zzm => exact rfl); (case zzs => k_is); (case zzo => k_is); (case zzf => k_is)); intro _ _ _ _ _ l1 _ N9; (try dsimp only at N9 l1); (try k_lt l1); (try k_sweep)))
  (k_with "setAttr ref" => (k_here; k_dflt (refine' Mine.set_spotU ?zzF ?zzX ?zzN ?zzme ?zzU ?zzne ?zzc ?zzdc ?zzm ?zzs ?zzo ?zzf ?_; (case zzF => k_asm); (case zzX => k_asm); (case zzN => k_asm); (case zzme => k_mem); (case zzU => k_updF); (case zzne => k_ne); (case zzc => k_is); (case zzdc => exact rfl); (case zzm => exact rfl); (case zzs => k_is); (case zzo => k_is); (case zzf => k_is)); intro _ _ _ _ _ N9; (try dsimp only at N9); (try k_sweep)))
  trivial
namespace Mine
open PySem PySem.W PyProof.Rows PySem.Calls PyProof.V PySem.Spec
set_option maxHeartbeats 2000000 in
theorem fd_body {w : World} {mean : ExcName → Option Value} {mg mb : Str → Option Value} {dp un : Nat} {gd : Option (List Code)} {cn : Str} {cs : Scope} {a : Addr} {ccd : Value} {cl : List (Str × Addr)} {outer : List Env} {A₀ : Around} {base h₀ : Heap} {L : Addr} {m : Str → Option Value} {zh : Heap} {zg : Array GenState} {zd : Drawn} {zt : Nat} {zo : OsState} {Q E : Value → Shared → Prop} {e t : Addr} {x : Str} {tx : Tok} {rest : List (Addr × Obj)}
    (B : Below A₀ base outer h₀) (F : Fr h₀ L zh m) (X : (Mine.top.heap_1 w.params).In h₀) (T : Top Mine.V loose mean mg mb h₀) (hk : cs.kind = .function) (hdp : dp + 5 < recursionLimit) (hun : un + 50 < cLine)
    (N : News h₀ L zh ((e, exR t) :: rest)) (hoff : ∀ q ∈ rest, q.1 ≠ e)
    (hQ : ∀ t' dx hh tk0 h' tk', e < dx → (∀ q ∈ rest, q.1 < dx) → Fr h₀ L h' m → News h₀ L h' ((e, exO dx t') :: (dx, dictOf [⟨hh, .str (Str.ofString "what") tk0, .str x tx⟩] 1) :: rest) → Q .none ⟨h', zg, zd, tk', zo⟩) :
    codeAny (model prog w) (ktrTop dp un gd cn cs L a ccd cl outer) (.call (.ref 30) ⟨[.ref e, .str x tx], []⟩) (fun r s' => match r with | .ok (.ret v) => Q v s' | .ok _ => False | .error e => E e s') ⟨zh, zg, zd, zt, zo⟩ := by
  k_dflt (refine' ks_code_super (binds := [(Str.ofString "self", .ref e), (Str.ofString "what", .str x tx)]) ?k1 ?k2 ?k3 ?k4 ?k5 ?kA ?kF ?kK ?k6 ?k7 ?k8 ?k9 ?kB ?_ ?c1 ?c2 ?c3 ?c4; (case kA => exact rfl); (case kF => exact rfl); (case kK => assumption); (case k1 => k_asm); (case k2 => k_asm); (case k3 => k_asm); (case k4 => k_asm); (case k5 => k_asm); (case k6 => k_is); (case k7 => k_is); (case k8 => ktr_room); (case k9 => exact BindsTo.of_eq rfl); (case kB => exact locs rfl); (case c1 => decide); (case c2 => exact rfl); (case c3 => exact rfl); (case c4 => exact rfl); intro g' L' h' FG' F' N' B' X' T' l1'; (try k_lt l1'); (try dsimp only); (try k_fold); (try ((show let Ab : PySem.Around := ktrTop dp un gd cn cs L a ccd cl outer; let ev : PySem.Env := _; let Ac : PySem.Around := PySem.Around.deeper Ab ev; PySem.wpAt _ Ac _ (PySem.execs _ ev) _ _ _); intro Ab ev Ac; (replace hdp : PySem.Around.depth Ab + _ < _ := hdp); (replace hun : PySem.Around.units Ab + _ < _ := hun))))
  k_steps
  all_goals (
    (with_reducible rename Fr _ _ _ _ => Fz)
    (with_reducible rename News _ _ _ _ => Nz)
    first
    | exact wrapAt_of Nz (by k_mem)
    | (refine' hQ _ _ _ _ _ _ ?l1 ?l2 Fz (newsSub Nz (two_sub ?m1 ?m2 fun q hq => ?m3))
       case m1 => k_mem
       case m2 => k_mem
       case m3 => k_mem
       case l1 => first | assumption | exact Mine.cj1 (by assumption) | exact Mine.cj2 (by assumption) | exact Mine.cj3 (by assumption) | exact Mine.cj4 (by assumption) | exact Mine.cj5 (by assumption) | exact Mine.cj6 (by assumption) | exact Mine.cj7 (by assumption) | exact Mine.cj8 (by assumption) | omega
       case l2 => exact allLt_mem (by (first | with_reducible assumption | exact Mine.al1 (by with_reducible assumption) | exact Mine.al2 (by with_reducible assumption) | exact Mine.al3 (by with_reducible assumption) | exact Mine.al4 (by with_reducible assumption) | exact Mine.al5 (by with_reducible assumption) | exact Mine.al6 (by with_reducible assumption) | exact Mine.al7 (by with_reducible assumption) | exact Mine.al8 (by with_reducible assumption)))))
theorem fd_K {w : World} {mean : ExcName → Option Value} {mg mb : Str → Option Value} {dp un : Nat} {gd : Option (List Code)} {cn : Str} {cs : Scope} {a : Addr} {ccd : Value} {cl : List (Str × Addr)} {outer : List Env} {A₀ : Around} {base h₀ : Heap} {L : Addr} {m : Str → Option Value} {zh : Heap} {zg : Array GenState} {zd : Drawn} {zt : Nat} {zo : OsState} {Q E : Value → Shared → Prop} {news : List (Addr × Obj)} {g : Obj → List (Addr × Obj)} {e t : Addr} {x : Str} {tx : Tok}
    (B : Below A₀ base outer h₀) (F : Fr h₀ L zh m) (X : (Mine.top.heap_1 w.params).In h₀) (T : Top Mine.V loose mean mg mb h₀) (hk : cs.kind = .function) (hdp : dp + 5 < recursionLimit) (hun : un + 50 < cLine)
    (N : News h₀ L zh news) (U : UpdF e (exR t) news g)
    (hQ : ∀ t' dx hh tk0 h' tk', (∀ q ∈ g (exO dx t'), q.1 < dx) → Fr h₀ L h' m → News h₀ L h' ((dx, dictOf [⟨hh, .str (Str.ofString "what") tk0, .str x tx⟩] 1) :: g (exO dx t')) → Q .none ⟨h', zg, zd, tk', zo⟩) :
    codeAny (model prog w) (ktrTop dp un gd cn cs L a ccd cl outer) (.call (.ref 30) ⟨[.ref e, .str x tx], []⟩) (fun r s' => match r with | .ok (.ret v) => Q v s' | .ok _ => False | .error e => E e s') ⟨zh, zg, zd, zt, zo⟩ := by
  obtain ⟨rest, r1, r2, r3, r4, r5⟩ := canonF U
  refine fd_body B F X T hk hdp hun (newsSub N r1) r2 fun t' dx hh tk0 h' tk' e1 e2 F' N' => hQ t' dx hh tk0 h' tk' (fun q hq => ?_) F' (newsSub N' fun q hq => ?_)
  · rcases List.mem_cons.mp (r3 _ _ hq) with rfl | hq
    · exact e1
    · exact e2 q hq
  · rcases List.mem_cons.mp hq with rfl | hq
    · exact .tail _ (.head _)
    · rcases List.mem_cons.mp (r3 _ _ hq) with rfl | hq
      · exact .head _
      · exact .tail _ (.tail _ hq)
theorem fd_M {w : World} {mean : ExcName → Option Value} {mg mb : Str → Option Value} {dp un : Nat} {gd : Option (List Code)} {cn : Str} {cs : Scope} {a : Addr} {ccd : Value} {cl : List (Str × Addr)} {outer : List Env} {A₀ : Around} {base h₀ : Heap} {L : Addr} {m : Str → Option Value} {zh : Heap} {zg : Array GenState} {zd : Drawn} {zt : Nat} {zo : OsState} {Q E : Value → Shared → Prop} {news : List (Addr × Obj)} {g : Obj → List (Addr × Obj)} {q e t : Addr} {x : Str} {tx : Tok}
    (B : Below A₀ base outer h₀) (F : Fr h₀ L zh m) (X : (Mine.top.heap_1 w.params).In h₀) (T : Top Mine.V loose mean mg mb h₀) (hk : cs.kind = .function) (hdp : dp + 5 < recursionLimit) (hun : un + 50 < cLine)
    (N : News h₀ L zh news) (hq : (q, methodObj (.ref 30) (.ref e)) ∈ news) (U : UpdF e (exR t) news g)
    (hQ : ∀ t' dx hh tk0 h' tk', (∀ q ∈ g (exO dx t'), q.1 < dx) → Fr h₀ L h' m → News h₀ L h' ((dx, dictOf [⟨hh, .str (Str.ofString "what") tk0, .str x tx⟩] 1) :: g (exO dx t')) → Q .none ⟨h', zg, zd, tk', zo⟩) :
    wpAny (model prog w) (ktrTop dp un gd cn cs L a ccd cl outer) (call (.ref q) [.str x tx]) Q E ⟨zh, zg, zd, zt, zo⟩ := call_meth N hq (fd_K B F X T hk hdp hun N U hQ)
end Mine
end
section
local macro_rules | `(tactic| k_inst) => `(tactic| first | exact Mine.instR (by k_asm) (by k_mem) | exact Mine.instO (by k_asm) (by k_mem) (by k_mem))
local macro_rules | `(tactic| walk_at "wpAt") => `(tactic| fail)
theorem Mine.rw_P21_spot : True := by
  k_with_none
  (k_with "subscriptTail" => (k_here; (fail_if_success fail_if_success with_reducible show wpAny _ _ (subscriptTail _ _ (Value.ref _) (Value.str _ _)) _ _ _); k_dflt (refine' Mine.d_get ?zzN ?zzm ?zzo ?zzf ?_; (case zzN => k_asm); (case zzm => k_mem); (case zzo => with_reducible assumption); (case zzf => exact rfl); k_whole)))
  (k_with "setItem ref str" => (k_here; (fail_if_success fail_if_success with_reducible show wpAny _ _ (setItem (Value.ref _) (Value.str _ _) _) _ _ _); k_dflt (refine' Mine.d_set ?zzF ?zzN ?zzU ?zzo ?_ ?zzz; (case zzF => k_asm); (case zzN => k_asm); (case zzU => k_updF); (case zzo => with_reducible assumption); (case zzz => exact Nat.le_of_ble_eq_true rfl)); intro _ _ _ _ _; (try k_sweep)))
  (k_with "call builtin:len" => (k_here; (fail_if_success fail_if_success with_reducible show wpAny _ _ (call (Value.builtin "len") [Value.ref _]) _ _ _); k_dflt (refine' Mine.len_L ?zzN ?zzm ?zzb ?_; (case zzN => k_asm); (case zzm => k_mem); (case zzb => omega); k_whole)))
  (k_with "subscriptTail" => (k_here; (fail_if_success fail_if_success with_reducible show wpAny _ _ (subscriptTail _ _ (Value.ref _) (Value.int _ _)) _ _ _); k_dflt (refine' Mine.item_L ?zzN ?zzm ?zza ?zzb ?zzc ?_; (case zzN => k_asm); (case zzm => k_mem); (case zza => omega); (case zzb => omega); (case zzc => omega); k_whole); intro _ _))
  (k_with "subscriptTail" => (k_here; (fail_if_success fail_if_success with_reducible show wpAny _ _ (subscriptTail _ _ (Value.ref _) (Value.int _ _)) _ _ _); k_dflt (refine' Mine.item_LI ?zzN ?zzm ?zzi ?zza ?zzb ?zzc ?_; (case zzN => k_asm); (case zzm => k_mem); (case zzi => with_reducible assumption); (case zza => omega); (case zzb => omega); (case zzc => omega); k_whole); intro _ _))
  (k_with "ite" => first | with_reducible refine PyProof.Rows.ite_tt ?_ | with_reducible refine PyProof.Rows.ite_ff ?_)
  (k_with "execs cons" => (k_here; (try k_gentoks); (with_reducible refine wpAny_execs_cons ?_); (try dsimp only); k_fold))
  (k_with "eval Constant int" => (with_reducible refine Mine.constI ?_))
  (k_with "eval Constant str" => (with_reducible refine Mine.constS ?_))
  (k_with "binaryOp Add int int" => (with_reducible refine Mine.addI ?_))
  (k_with "getMethod ref" => (k_here; (fail_if_success fail_if_success with_reducible show wpAny _ _ (getMethod (Value.ref _) _ _) _ _ _); k_dflt (refine' Mine.gm_wdK ?zzF ?zzX ?zzN ?zzso ?zzm ?zzo ?zzC ?zzB ?zzs ?zzn ?_; (case zzF => k_asm); (case zzX => k_asm); (case zzN => k_asm); (case zzso => k_mem); (case zzm => k_mem); (case zzo => k_is); (case zzC => k_is); (case zzB => rfl); (case zzs => ks_is); (case zzn => decide)); intro _ _ _ _ l1; (try k_lt l1)))
  (k_with "callWith ref" => (k_here; (fail_if_success fail_if_success with_reducible show wpAny _ _ (callWith _ (Value.ref _) [] (backTo _ (starEach (_ :: _) _)) []) _ _ _); k_dflt (refine' Mine.callWith_wrap ?zzN ?zzm ?_; (case zzN => k_asm); (case zzm => k_mem))))
  (k_with "And" => (refine ⟨Mine.wrapAt_of (by k_asm) (by k_mem), ?_⟩))
  (k_with "call ref" => (k_here; (fail_if_success fail_if_success with_reducible show wpAny _ _ (call (Value.ref _) [_]) _ _ _); k_dflt (refine' Mine.call_wrapU ?zzF ?zzX ?zzN ?zzU ?zzu ?zze ?zzC ?_; (case zzF => k_asm); (case zzX => k_asm); (case zzN => k_asm); (case zzu => k_mem); (case zzU => k_updF); (case zze => omega); (case zzC => k_is)); intro _ _ _ N9; (try dsimp only at N9); (try k_sweep)))
  (k_with "setAttr ref" => (k_here; k_dflt (refine' Mine.set_firstU ?zzF ?zzX ?zzN ?zzU ?zzc ?zzdc ?zzm ?zzs ?zzo ?zzf ?_; (case zzF => k_asm); (case zzX => k_asm); (case zzN => k_asm); (case zzU => k_updF); (case zzc => k_is); (case zzdc => exact rfl); (case zzm => exact rfl); (case zzs => k_is); (case zzo => k_is); (case zzf => k_is)); intro _ _ _ _ _ l1 _ N9; (try dsimp only at N9 l1); (try k_lt l1); (try k_sweep)))
  (k_with "setAttr ref" => (k_here; k_dflt (refine' Mine.set_spotU ?zzF ?zzX ?zzN ?zzme ?zzU ?zzne ?zzc ?zzdc ?zzm ?zzs ?zzo ?zzf ?_; (case zzF => k_asm); (case zzX => k_asm); (case zzN => k_asm); (case zzme => k_mem); (case zzU => k_updF); (case zzne => k_ne); (case zzc => k_is); (case zzdc => exact rfl); (case zzm => exact rfl); (case zzs => k_is); (case zzo => k_is); (case zzf => k_is)); intro _ _ _ _ _ N9; (try dsimp only at N9); (try k_sweep)))
  (k_with "call ref" => (k_here; (fail_if_success fail_if_success with_reducible show wpAny _ _ (call (Value.ref _) [_]) _ _ _); k_dflt (refine' Mine.fd_M ?zzB ?zzF ?zzX ?zzT ?zzhk ?zzhd ?zzhu ?zzN ?zzmq ?zzU ?_; (case zzN => k_asm); (case zzmq => k_mem); (case zzB => k_asm); (case zzF => k_asm); (case zzX => k_asm); (case zzT => k_asm); (case zzhk => first | exact rfl | assumption); (case zzU => k_updF); (case zzhd => ktr_room); (case zzhu => ktr_units)); intro _ _ _ _ _ _ l1 _ N9; (try dsimp only at N9 l1); (try k_lt l1); (try k_sweep)))
  trivial
namespace Mine
open PySem PySem.W PyProof.Rows PySem.Calls PyProof.V PySem.Spec
set_option maxHeartbeats 2000000 in
theorem spot_body {w : World} {mean : ExcName → Option Value} {mg mb : Str → Option Value} {dp un : Nat} {gd : Option (List Code)} {cn : Str} {cs : Scope} {a : Addr} {ccd : Value} {cl : List (Str × Addr)} {outer : List Env} {A₀ : Around} {base h₀ : Heap} {L : Addr} {m : Str → Option Value} {zh : Heap} {zg : Array GenState} {zd : Drawn} {zt : Nat} {zo : OsState} {Q E : Value → Shared → Prop} {e t : Addr} {x : Str} {tx ts : Tok} {sp : Int} {rest : List (Addr × Obj)}
    (B : Below A₀ base outer h₀) (F : Fr h₀ L zh m) (X : (Mine.top.heap_1 w.params).In h₀) (T : Top Mine.V loose mean mg mb h₀) (hk : cs.kind = .function) (hdp : dp + 10 < recursionLimit) (hun : un + 100 < cLine)
    (N : News h₀ L zh ((e, exR t) :: rest)) (hoff : ∀ q ∈ rest, q.1 ≠ e)
    (hQ : ∀ t' dx d h' tk', SpotD d sp → e < dx → (∀ q ∈ rest, q.1 < dx) → Fr h₀ L h' m → News h₀ L h' ((e, exO dx t') :: (dx, d) :: rest) → Q .none ⟨h', zg, zd, tk', zo⟩) :
    wpAny (model prog w) (ktrTop dp un gd cn cs L a ccd cl outer) (call (.ref 59) [.ref e, .str x tx, .int sp ts]) Q E ⟨zh, zg, zd, zt, zo⟩ := by
  refine wpAny_call ?_
  k_dflt (refine' ks_code_super (binds := [(Str.ofString "self", .ref e), (Str.ofString "what", .str x tx), (Str.ofString "spot", .int sp ts)]) ?k1 ?k2 ?k3 ?k4 ?k5 ?kA ?kF ?kK ?k6 ?k7 ?k8 ?k9 ?kB ?_ ?c1 ?c2 ?c3 ?c4; (case kA => exact rfl); (case kF => exact rfl); (case kK => assumption); (case k1 => k_asm); (case k2 => k_asm); (case k3 => k_asm); (case k4 => k_asm); (case k5 => k_asm); (case k6 => k_is); (case k7 => k_is); (case k8 => ktr_room); (case k9 => exact BindsTo.of_eq rfl); (case kB => exact locs rfl); (case c1 => decide); (case c2 => exact rfl); (case c3 => exact rfl); (case c4 => exact rfl); intro g' L' h' FG' F' N' B' X' T' l1'; (try k_lt l1'); (try dsimp only); (try k_fold); (try ((show let Ab : PySem.Around := ktrTop dp un gd cn cs L a ccd cl outer; let ev : PySem.Env := _; let Ac : PySem.Around := PySem.Around.deeper Ab ev; PySem.wpAt _ Ac _ (PySem.execs _ ev) _ _ _); intro Ab ev Ac; (replace hdp : PySem.Around.depth Ab + _ < _ := hdp); (replace hun : PySem.Around.units Ab + _ < _ := hun))))
  k_steps
  all_goals (
    (with_reducible rename Fr _ _ _ _ => Fz)
    (with_reducible rename News _ _ _ _ => Nz)
    refine' hQ _ _ _ _ _ ⟨_, _, _, _, _, _, rfl⟩ ?l1 ?l2 Fz (newsSub Nz (two_sub ?m1 ?m2 fun q hq => ?m3))
    case m1 => k_mem
    case m2 => k_mem
    case m3 => k_mem
    case l1 => first | assumption | exact Mine.cj1 (by assumption) | exact Mine.cj2 (by assumption) | exact Mine.cj3 (by assumption) | exact Mine.cj4 (by assumption) | exact Mine.cj5 (by assumption) | exact Mine.cj6 (by assumption) | exact Mine.cj7 (by assumption) | exact Mine.cj8 (by assumption) | omega
    case l2 => exact allLt_mem (by (first | with_reducible assumption | exact Mine.al1 (by with_reducible assumption) | exact Mine.al2 (by with_reducible assumption) | exact Mine.al3 (by with_reducible assumption) | exact Mine.al4 (by with_reducible assumption) | exact Mine.al5 (by with_reducible assumption) | exact Mine.al6 (by with_reducible assumption) | exact Mine.al7 (by with_reducible assumption) | exact Mine.al8 (by with_reducible assumption))))
end Mine
end
namespace Mine
open PySem PySem.W PyProof.Rows PySem.Calls PyProof.V PySem.Spec
section
variable {M : Model} {w : World} {A : Around} {E : Value → Shared → Prop} {R : Result → Shared → Prop} {h : Heap} {g : Array GenState} {d : Drawn} {t : Nat} {os : OsState}
variable {nm q : Str} {N : Addr} {bs bm : List Value} {hdct : Bool} {sn : List Str} {sub : List Value} {ab : Bool} {col : Option Bool} {dd : Option Addr} {k0 k1 k2 k3 k5 : Option Value}
theorem tf_check_new {rest : List Value} {Q : Unit → Shared → Prop} (hcB : bm.contains (.type "Exception") = true) (hC : h.get? 81 = some (excClassObj nm q 81 N bs bm hdct sn sub ab col dd k0 k1 k2 k3 k5 "Exception.__new__"))
    (hq : Q () ⟨h, g, d, t, os⟩) : wpAny M A (checkBuiltinCall "Exception.__new__" ⟨.ref 81 :: rest, []⟩) Q E ⟨h, g, d, t, os⟩ := by
  have Fn := PySem.F.excBase_Exception
  have hcont : (Value.ref 81 :: bm).contains (.type "Exception") = true := by rw [List.contains_cons, hcB, Bool.or_true]
  have hstar := Fn.noStar
  simp only [checkBuiltinCall, Fn.newKind, Fn.newSplit, Fn.newRow]
  repeat (first | refine wpAny_loadPart_at hC ?_ | (refine wpAny_isSubtype_exc hC ?_; rw [hcont]) | refine wpAny_staticBase_exc hC ?_ | refine wpAny_madeBy_exc hC ?_ | simp only [bne_self_eq_false, Bool.false_eq_true, if_false] | wp_step)
  exact hq
theorem tf_new {rest : List Value} (hcB : bm.contains (.type "Exception") = true) (hA : bm.contains (.type "AttributeError") = false) (hN : bm.contains (.type "NameError") = false) (hC : h.get? 81 = some (excClassObj nm q 81 N bs bm hdct sn sub ab col dd k0 k1 k2 k3 k5 "Exception.__new__"))
    (hq : R (.ok (.ret (.ref (h.objs.size + 1)))) ⟨(h.push { cls := .type "tuple", data := .seq rest.toArray }).push (exR h.objs.size), g, d, t, os⟩) (hrest : rest.length ≤ sizeLine) :
    codeAny (model prog w) A (.builtin "Exception.__new__" ⟨.ref 81 :: rest, []⟩) R ⟨h, g, d, t, os⟩ := by
  have Fn := PySem.F.excBase_Exception
  have hends := Fn.ends
  have hcont : (Value.ref 81 :: bm).contains (.type "Exception") = true := by rw [List.contains_cons, hcB, Bool.or_true]
  have hcA : (Value.ref 81 :: bm).contains (.type "AttributeError") = false := by rw [List.contains_cons, hA]; rfl
  have hcN : (Value.ref 81 :: bm).contains (.type "NameError") = false := by rw [List.contains_cons, hN]; rfl
  refine codeAny_builtinAt Fn.entry ?_
  unfold Builtin.«BaseException.__new__»
  refine PySem.wpAt_bind ?_
  show PySem.wpAt _ _ _ (stack >>= _) _ _ _
  refine PySem.wpAt_bind (PySem.wpAt_stack fun p below => PySem.wpAt_of_wpAny ?_)
  wp_walk
  refine PySem.wpAt_of_wpAny ?_
  rw [Fn.owner]
  repeat (first | with_reducible refine wpAny_madeHere_exc Fn.canon hC ?_ | with_reducible refine wpAny_loadPart_at hC ?_ | (with_reducible refine wpAny_isSubtype_exc hC ?_; first | rw [hcont] | rw [hcA] | rw [hcN]) | wp_step)
  show R _ _
  rw [Heap.size_push]
  exact hq
theorem tf_type_call {K : Frag} {rest : List Value} {Q : Fin → Shared → Prop} (X : K.In h) (hcB : bm.contains (.type "Exception") = true) (hA : bm.contains (.type "AttributeError") = false) (hN : bm.contains (.type "NameError") = false)
    (hC : h.get? 81 = some (excClassObj nm q 81 N bs bm hdct sn sub ab col dd k0 k1 k2 k3 k5 "Exception.__new__")) (hi : findIn K (.ref 81) "__init__" = some (some (.ref 59))) (hf : typeIn K (.ref 59) = some (.type "function"))
    (hq : ∀ h' e, Heap.MadeExcOf h h' e (.ref 81) rest → wpAny (model prog w) A (call (.ref 59) (.ref e :: rest)) (fun r s' => r = .none ∧ Q (.done (.ret (.ref e))) s') E ⟨h', g, d, t, os⟩) (hrest : rest.length ≤ sizeLine) :
    wpAny (model prog w) A (Builtin.«type.__call__» ⟨.ref 81 :: rest, []⟩) Q E ⟨h, g, d, t, os⟩ := by
  have Fn := PySem.F.excBase_Exception
  repeat (first | with_reducible refine wpAny_loadPart_at hC ?_ | with_reducible refine wpAny_madeBy_exc hC ?_ | wp_step)
  refine codeAny_call_builtin_code (Code.quiet_builtin _ Fn.quiet) (tf_check_new hcB hC ?_)
  refine tf_new hcB hA hN hC ?_ hrest
  show wpAny _ _ _ _ _ _
  have up : ∀ b o, h.get? b = some o → ((h.push { cls := .type "tuple", data := .seq rest.toArray }).push (exR h.objs.size)).get? b = some o := fun b o e => Heap.get?_push_of_some _ (Heap.get?_push_of_some _ e)
  have hC₁ := up _ _ hC
  have X₁ : K.In ((h.push { cls := .type "tuple", data := .seq rest.toArray }).push (exR h.objs.size)) := X.keeps up
  have hget : ((h.push { cls := .type "tuple", data := .seq rest.toArray }).push (exR h.objs.size)).get? (h.objs.size + 1) = some (exR h.objs.size) := by heap_get
  have hcC : (Value.ref 81 :: bm).contains (.ref 81) = true := by simp
  unfold isInstance
  repeat (first | with_reducible refine wpAny_loadPart_at hget ?_ | (with_reducible refine wpAny_isSubtype_exc hC₁ ?_; rw [hcC]) | wp_step)
  show wpAny _ _ (typeLookup (.ref 81) _) _ _ _
  refine (looks_findIn X₁ hi).at ?_
  refine wpAny_holding (wpAny_bind ((bind_fn X₁ _ hf).at ?_))
  refine wpAny_bind (wpAny_mono (hq _ (h.objs.size + 1) ⟨up, Heap.get?_none_of_le (Nat.le_succ _), h.objs.size, hget, Heap.get?_none_of_le (Nat.le_refl _), ?_⟩) (fun r s' hr => ?_) fun _ _ x => x)
  · exact Heap.get?_push_of_some _ (Heap.get?_push_at rfl rfl)
  · obtain ⟨rfl, hQ⟩ := hr
    wp_walk
    exact hQ
theorem tf_call {K : Frag} {rest : List Value} {Q : Value → Shared → Prop} (X : K.In h) (hcB : bm.contains (.type "Exception") = true) (hA : bm.contains (.type "AttributeError") = false) (hN : bm.contains (.type "NameError") = false)
    (hC : h.get? 81 = some (excClassObj nm q 81 N bs bm hdct sn sub ab col dd k0 k1 k2 k3 k5 "Exception.__new__")) (hi : findIn K (.ref 81) "__init__" = some (some (.ref 59))) (hf : typeIn K (.ref 59) = some (.type "function"))
    (hq : ∀ h' e, Heap.MadeExcOf h h' e (.ref 81) rest → wpAny (model prog w) (A.under (.builtin "type.__call__" ⟨.ref 81 :: rest, []⟩)) (call (.ref 59) (.ref e :: rest)) (fun r s' => r = .none ∧ Q (.ref e) s') E ⟨h', g, d, t, os⟩) (hrest : rest.length ≤ sizeLine) :
    wpAny (model prog w) A (call (.ref 81) rest) Q E ⟨h, g, d, t, os⟩ := by
  have f1 := tc_lookup
  have f2 := tc_bind (.ref 81)
  have hT : (⟨h, g, d, t, os⟩ : Shared).TypeIs (.ref 81) "type" := ⟨_, hC, rfl⟩
  refine wpAny_call (codeAny_of_tree ?_)
  show wpAny _ _ (callAny (.ref 81) _) _ _ _
  repeat (any_goals (first | assumption | with_reducible refine wpAny_loadPart_at hC ?_ | wp_step))
  refine ⟨rfl, ?_⟩
  refine codeAny_call_builtin_at (Code.quiet_builtin _ (by decide +kernel)) entry_typeCall (wpAny_check_type_call_sub hC (tf_type_call X hcB hA hN hC hi hf (fun h' e hm => ?_) hrest))
  exact hq h' e hm
theorem tf_raise {x : Sem Value} {env : Env} {s : Shared} {Q : Flow → Shared → Prop} (hbase : bm.contains (.type "BaseException") = true) (hh : A.handled = none)
    (h : wpAny M A x (fun v s₁ => ∃ e t dx, v = .ref e ∧ s₁.heap.get? 81 = some (excClassObj nm q 81 N bs bm hdct sn sub ab col dd k0 k1 k2 k3 k5 "Exception.__new__") ∧ s₁.heap.get? e = some (exO dx t) ∧ E (.ref e) s₁) E s) :
    wpAny M A (raiseStmt env (some x) none) Q E s := by
  have hcB : (Value.ref 81 :: bm).contains (.type "BaseException") = true := by rw [List.contains_cons, hbase, Bool.or_true]
  unfold raiseStmt
  refine wpAny_bind (wpAny_mono h (fun v s₁ h₁ => ?_) fun _ _ x => x)
  obtain ⟨e, t, dx, rfl, hC, he, hE⟩ := h₁
  obtain ⟨hp, g, d, tk, os⟩ := s₁
  repeat (first | with_reducible refine wpAny_loadPart_at he ?_ | with_reducible refine wpAny_loadPart_at hC ?_ | (with_reducible refine wpAny_isSubtype_exc hC ?_; rw [hcB]) | wp_step)
  exact wpAny_raiseNew_none hh hE
end
end Mine
theorem Mine.rw_P23_raiseK : True := by
  k_with_none
  (k_with "subscriptTail" => (k_here; (fail_if_success fail_if_success with_reducible show wpAny _ _ (subscriptTail _ _ (Value.ref _) (Value.str _ _)) _ _ _); k_dflt (refine' Mine.d_get ?zzN ?zzm ?zzo ?zzf ?_; (case zzN => k_asm); (case zzm => k_mem); (case zzo => with_reducible assumption); (case zzf => exact rfl); k_whole)))
  (k_with "setItem ref str" => (k_here; (fail_if_success fail_if_success with_reducible show wpAny _ _ (setItem (Value.ref _) (Value.str _ _) _) _ _ _); k_dflt (refine' Mine.d_set ?zzF ?zzN ?zzU ?zzo ?_ ?zzz; (case zzF => k_asm); (case zzN => k_asm); (case zzU => k_updF); (case zzo => with_reducible assumption); (case zzz => exact Nat.le_of_ble_eq_true rfl)); intro _ _ _ _ _; (try k_sweep)))
  (k_with "call builtin:len" => (k_here; (fail_if_success fail_if_success with_reducible show wpAny _ _ (call (Value.builtin "len") [Value.ref _]) _ _ _); k_dflt (refine' Mine.len_L ?zzN ?zzm ?zzb ?_; (case zzN => k_asm); (case zzm => k_mem); (case zzb => omega); k_whole)))
  (k_with "subscriptTail" => (k_here; (fail_if_success fail_if_success with_reducible show wpAny _ _ (subscriptTail _ _ (Value.ref _) (Value.int _ _)) _ _ _); k_dflt (refine' Mine.item_L ?zzN ?zzm ?zza ?zzb ?zzc ?_; (case zzN => k_asm); (case zzm => k_mem); (case zza => omega); (case zzb => omega); (case zzc => omega); k_whole); intro _ _))
  (k_with "subscriptTail" => (k_here; (fail_if_success fail_if_success with_reducible show wpAny _ _ (subscriptTail _ _ (Value.ref _) (Value.int _ _)) _ _ _); k_dflt (refine' Mine.item_LI ?zzN ?zzm ?zzi ?zza ?zzb ?zzc ?_; (case zzN => k_asm); (case zzm => k_mem); (case zzi => with_reducible assumption); (case zza => omega); (case zzb => omega); (case zzc => omega); k_whole); intro _ _))
  (k_with "ite" => first | with_reducible refine PyProof.Rows.ite_tt ?_ | with_reducible refine PyProof.Rows.ite_ff ?_)
  (k_with "execs cons" => (k_here; (try k_gentoks); (with_reducible refine wpAny_execs_cons ?_); (try dsimp only); k_fold))
  (k_with "eval Constant int" => (with_reducible refine Mine.constI ?_))
  (k_with "eval Constant str" => (with_reducible refine Mine.constS ?_))
  (k_with "binaryOp Add int int" => (with_reducible refine Mine.addI ?_))
  trivial
namespace Mine
open PySem PySem.W PyProof.Rows PySem.Calls PyProof.V PySem.Spec
def TfCls (K : Frag) : Prop := ∃ nm q N bs bm hdct sn sub ab col dd k0 k1 k2 k3 k5, K.lookup 81 = some (excClassObj nm q 81 N bs bm hdct sn sub ab col dd k0 k1 k2 k3 k5 "Exception.__new__") ∧ bm.contains (.type "Exception") = true ∧ bm.contains (.type "AttributeError") = false ∧ bm.contains (.type "NameError") = false ∧ bm.contains (.type "BaseException") = true
theorem TfCls.mk {K : Frag} {nm q N bs bm hdct sn sub ab col dd k0 k1 k2 k3 k5} (h : K.lookup 81 = some (excClassObj nm q 81 N bs bm hdct sn sub ab col dd k0 k1 k2 k3 k5 "Exception.__new__")) (a : bm.contains (.type "Exception") = true) (b : bm.contains (.type "AttributeError") = false) (c : bm.contains (.type "NameError") = false) (d : bm.contains (.type "BaseException") = true) : TfCls K :=
  ⟨_, _, _, _, _, _, _, _, _, _, _, _, _, _, _, _, h, a, b, c, d⟩
theorem tf_cls (w : World) : TfCls (Mine.top.heap_1 w.params) := by
  refine' TfCls.mk ?h ?a ?b ?c ?d
  case h => k_is
  case a => rfl
  case b => rfl
  case c => rfl
  case d => rfl
theorem tf_init (w : World) : findIn (Mine.top.heap_1 w.params) (.ref 81) "__init__" = some (some (.ref 59)) := by k_is
theorem tf_fn (w : World) : typeIn (Mine.top.heap_1 w.params) (.ref 59) = some (.type "function") := by k_is
theorem tf_name (w : World) : nsIn (Mine.top.heap_1 w.params) mainGlobals (Str.ofString "TextFault") = some (some (.ref 81)) := by k_is
set_option maxHeartbeats 1000000 in
theorem raise_TK {w : World} {mean : ExcName → Option Value} {mg mb : Str → Option Value} {dp un : Nat} {gd : Option (List Code)} {cn : Str} {cs : Scope} {a : Addr} {ccd : Value} {outer : List Env} {A₀ : Around} {base h₀ : Heap} {L : Addr} {m : Str → Option Value} {zh : Heap} {zg : Array GenState} {zd : Drawn} {zt : Nat} {zo : OsState} {Q : Flow → Shared → Prop} {E : Value → Shared → Prop} {np cpos pos : Pos} {e₀ : PySem.Expr} {rs : List PySem.Expr}
    (B : Below A₀ base outer h₀) (F : Fr h₀ L zh m) (X : (Mine.top.heap_1 w.params).In h₀) (T : Top Mine.V loose mean mg mb h₀) (hk : cs.kind = .function) (hdp : dp + 20 < recursionLimit) (hun : un + 200 < cLine)
    (h : wpAny (model prog w) (ktrTop dp un gd cn cs L a ccd [] outer) (spliced (backTo cpos (starEach (e₀ :: rs) (envOf cn cs L a ccd))))
      (fun vs s₂ => ∃ x tx sp ts, vs = [.str x tx, .int sp ts] ∧ Fr h₀ L s₂.heap m ∧ ∀ h' e dx t d tk', Fr h₀ L h' m → News h₀ L h' [(e, exO dx t), (dx, d)] → dx ≠ e → SpotD d sp → E (.ref e) { s₂ with heap := h', toks := tk' }) E ⟨zh, zg, zd, zt, zo⟩)
    (he : starEach (e₀ :: rs) (envOf cn cs L a ccd) = (false, eval e₀ (envOf cn cs L a ccd)) :: starEach rs (envOf cn cs L a ccd) := by rfl) (hplain : (backTo cpos (starEach rs (envOf cn cs L a ccd))).any (·.1) = false := by rfl)
    (hx : (envOf cn cs L a ccd).kindOf (Str.ofString "TextFault") = some .globalImplicit := by rfl) :
    wpAny (model prog w) (ktrTop dp un gd cn cs L a ccd [] outer) (exec (.Raise (some (.Call (.Name (Str.ofString "TextFault") np) (e₀ :: rs) [] cpos)) none pos) (envOf cn cs L a ccd)) Q E ⟨zh, zg, zd, zt, zo⟩ := by
  obtain ⟨nm, q, N, bs, bm, hdct, sn, sub, ab, col, dd, k0, k1, k2, k3, k5, hC, hcB, hcA, hcN, hcBase⟩ := tf_cls w
  rw [arm_exec_Raise]
  rw [he] at h
  have hpl : (backTo cpos ((false, eval e₀ (envOf cn cs L a ccd)) :: starEach rs (envOf cn cs L a ccd))).any (·.1) = false := by show (false || (backTo cpos (starEach rs (envOf cn cs L a ccd))).any (·.1)) = false; rw [hplain]; rfl
  simp only [evalOpt, Option.map]
  refine wpAny_bind (wpAny_standAt (tf_raise (nm := nm) (q := q) (N := N) (bs := bs) (bm := bm) (hdct := hdct) (sn := sn) (sub := sub) (ab := ab) (col := col) (dd := dd) (k0 := k0) (k1 := k1) (k2 := k2) (k3 := k3) (k5 := k5) hcBase rfl (wpAny_bind (wpAny_mono (wpAny_Call_ofName (name_K F X (topRead_of T) (tf_name w) ?_ hk hx)) (fun v s₃ h₃ => wpAny_bind (wpAny_standAt (wpAny_pure h₃))) fun _ _ x => x))))
  rw [he]
  unfold callWith
  refine wpAny_bind (wpAny_holding (wpAny_mono (Calls.evalArgs_plain (Q := fun a s₂ => ∃ x tx sp ts, a = ⟨[.str x tx, .int sp ts], []⟩ ∧ Fr h₀ L s₂.heap m ∧ ∀ h' e dx t d tk', Fr h₀ L h' m → News h₀ L h' [(e, exO dx t), (dx, d)] → dx ≠ e → SpotD d sp → E (.ref e) { s₂ with heap := h', toks := tk' }) (wpAny_mono h (fun vs s₂ h₂ => ?_) fun _ _ x => x)) (fun a s₂ h₂ => wpAny_bind (wpAny_standAt ?_)) fun _ _ x => x))
  · obtain ⟨x, tx, sp, ts, rfl, r⟩ := h₂
    exact ⟨x, tx, sp, ts, rfl, r⟩
  obtain ⟨x, tx, sp, ts, rfl, F₂, hE⟩ := h₂
  simp only [hpl]
  obtain ⟨hp, g, d, tk, os⟩ := s₂
  have X₂ : (Mine.top.heap_1 w.params).In hp := X.keeps F₂.keep
  refine wpAny_bind (wpAny_keeperOf_exc (X₂ _ _ hC) ?_)
  refine wpAny_bind (tf_call X₂ hcB hcA hcN (X₂ _ _ hC) (tf_init w) (tf_fn w) (fun h' e hm => ?_) (by rw [sizeLine_eq]; simp))
  obtain ⟨t, he1, htn, _⟩ := hm.there
  have F₁ : Fr h₀ L h' m := by
    obtain ⟨o, es, ep, hL, r⟩ := F₂.ns
    exact ⟨⟨o, es, ep, hm.keeps _ _ hL, r⟩, fun b o z => hm.keeps _ _ (F₂.keep b o z), F₂.above⟩
  have N₁ : News h₀ L h' [(e, exR t)] := fun q hq => by
    obtain rfl := List.mem_singleton.mp hq
    refine ⟨he1, fun z => ?_, ?_⟩
    · obtain ⟨o, es, ep, hL, r⟩ := F₂.ns
      have hn := hm.new
      rw [show e = L from z, hL] at hn
      cases hn
    · cases z : h₀.get? e with
      | none => rfl
      | some o =>
        have := F₂.keep _ _ z
        rw [show hp.get? e = none from hm.new] at this
        cases this
  have hun' : ((ktrTop dp un gd cn cs L a ccd [] outer).under (Code.builtin "type.__call__" ⟨Value.ref 81 :: ([] ++ [Value.str x tx, Value.int sp ts]), []⟩)).units + 100 < cLine := by
    rw [show ((ktrTop dp un gd cn cs L a ccd [] outer).under (Code.builtin "type.__call__" ⟨Value.ref 81 :: ([] ++ [Value.str x tx, Value.int sp ts]), []⟩)).units = un + 1 from rfl]
    omega
  refine spot_body (zh := h') (zg := g) (zd := d) (zt := tk) (zo := os) (rest := []) B F₁ X T hk ?hd hun' N₁ (fun _ h => nomatch h) fun t' dx dd' h2 tk' hsp hlt _ F' N' => ⟨rfl, ?_⟩
  case hd =>
    have hwt : (Code.builtin "type.__call__" ⟨Value.ref 81 :: ([] ++ [Value.str x tx, Value.int sp ts]), []⟩).weight ≤ 5 := by
      rw [show (Code.builtin "type.__call__" ⟨Value.ref 81 :: ([] ++ [Value.str x tx, Value.int sp ts]), []⟩).weight = 1 from rfl]
      decide
    show dp + (Code.builtin "type.__call__" ⟨Value.ref 81 :: ([] ++ [Value.str x tx, Value.int sp ts]), []⟩).weight + 10 < recursionLimit
    omega
  refine wpAny_bind (wpAny_holding (wpAny_point (wpAny_pure ?_)))
  exact ⟨e, t', dx, rfl, F'.keep _ _ (X _ _ hC), (N' _ (.head _)).1, hE h2 e dx t' dd' tk' F' N' (Nat.ne_of_gt hlt) hsp⟩
end Mine
namespace Mine
open PySem PySem.W PyProof.Rows PySem.Calls PyProof.V PySem.Spec PySem.NumText
theorem three_sub {l rest : List (Addr × Obj)} {x y z : Addr × Obj} (m1 : x ∈ l) (m2 : y ∈ l) (m3 : z ∈ l) (m4 : ∀ q ∈ rest, q ∈ l) : ∀ q ∈ x :: y :: z :: rest, q ∈ l := by
  intro q hq
  rcases List.mem_cons.mp hq with rfl | hq
  · exact m1
  · rcases List.mem_cons.mp hq with rfl | hq
    · exact m2
    · rcases List.mem_cons.mp hq with rfl | hq
      · exact m3
      · exact m4 q hq
structure RdH where
  (a1 a2 a3 a4 a5 a6 : Int)
  (t1 t2 t3 t4 t5 t6 : Tok)
  (fl sp : Addr)
  (g1 g2 : Int)
  (u1 u2 : Tok)
abbrev rdD (e : RdH) (sc ah : Addr) : Obj := dictOf [⟨e.a1, .str (Str.ofString "scanner") e.t1, .ref sc⟩, ⟨e.a2, .str (Str.ofString "ahead") e.t2, .ref ah⟩, ⟨e.a3, .str (Str.ofString "flat") e.t3, .ref e.fl⟩, ⟨e.a4, .str (Str.ofString "spots") e.t4, .ref e.sp⟩, ⟨e.a5, .str (Str.ofString "goal_spot") e.t5, .int e.g1 e.u1⟩, ⟨e.a6, .str (Str.ofString "shown_spot") e.t6, .int e.g2 e.u2⟩] 6
theorem canon2 {news : List (Addr × Obj)} {d1 d2 : Addr} {o1 o2 : Obj} {g1 : Obj → List (Addr × Obj)} {g2 : Obj → Obj → List (Addr × Obj)} (U1 : UpdF d1 o1 news g1) (U2 : ∀ o, UpdF d2 o2 (g1 o) (g2 o)) (hne : @Ne Nat d1 d2) :
    ∃ rest, (∀ p ∈ (d1, o1) :: (d2, o2) :: rest, p ∈ news) ∧ (∀ q ∈ rest, q.1 ≠ d1) ∧ (∀ q ∈ rest, q.1 ≠ d2) ∧ (∀ a b, ∀ p ∈ g2 a b, p ∈ (d1, a) :: (d2, b) :: rest) ∧ (∀ p ∈ news, p.1 ≠ d1 → p.1 ≠ d2 → p ∈ rest) := by
  obtain ⟨pre, post, rfl, hg, x, y⟩ := U1.split
  have hU : ∀ o, ∃ pre2 post2, g1 o = pre2 ++ (d2, o2) :: post2 ∧ (∀ b, g2 o b = pre2 ++ (d2, b) :: post2) ∧ (∀ p ∈ pre2, p.1 ≠ d2) ∧ ∀ p ∈ post2, p.1 ≠ d2 := fun o => (U2 o).split
  refine ⟨(pre ++ post).filter fun q => decide (q.1 ≠ d2), fun p hp => ?_, fun q hq => ?_, fun q hq => ?_, fun a b p hp => ?_, fun p hp h1 h2 => ?_⟩
  · rcases List.mem_cons.mp hp with rfl | hp
    · exact List.mem_append_right _ (.head _)
    · rcases List.mem_cons.mp hp with rfl | hp
      · obtain ⟨pre2, post2, e1, _, _, _⟩ := hU o1
        rw [hg] at e1
        rw [e1]
        exact List.mem_append_right _ (.head _)
      · rcases List.mem_append.mp (List.mem_filter.mp hp).1 with hp | hp
        · exact List.mem_append_left _ hp
        · exact List.mem_append_right _ (.tail _ hp)
  · rcases List.mem_append.mp (List.mem_filter.mp hq).1 with hq | hq
    · exact x q hq
    · exact y q hq
  · simpa using (List.mem_filter.mp hq).2
  · obtain ⟨pre2, post2, e1, e2, e3, e4⟩ := hU a
    rw [e2] at hp
    rw [hg] at e1
    have key : ∀ p, p ∈ pre2 ∨ p ∈ post2 → p ∈ (d1, a) :: (d2, b) :: (pre ++ post).filter fun q => decide (q.1 ≠ d2) := fun p hp => by
      have hm : p ∈ pre ++ (d1, a) :: post := by
        rw [e1]
        rcases hp with hp | hp
        · exact List.mem_append_left _ hp
        · exact List.mem_append_right _ (.tail _ hp)
      have hn : p.1 ≠ d2 := hp.elim (e3 p) (e4 p)
      rcases List.mem_append.mp hm with hm | hm
      · exact .tail _ (.tail _ (List.mem_filter.mpr ⟨List.mem_append_left _ hm, by simpa using hn⟩))
      · rcases List.mem_cons.mp hm with rfl | hm
        · exact .head _
        · exact .tail _ (.tail _ (List.mem_filter.mpr ⟨List.mem_append_right _ hm, by simpa using hn⟩))
    rcases List.mem_append.mp hp with hp | hp
    · exact key p (.inl hp)
    · rcases List.mem_cons.mp hp with rfl | hp
      · exact .tail _ (.head _)
      · exact key p (.inr hp)
  · rcases List.mem_append.mp hp with hp | hp
    · exact List.mem_filter.mpr ⟨List.mem_append_left _ hp, by simpa using h2⟩
    · rcases List.mem_cons.mp hp with rfl | hp
      · exact absurd rfl h1
      · exact List.mem_filter.mpr ⟨List.mem_append_right _ hp, by simpa using h2⟩
end Mine
theorem Mine.rw_P24_take : True := by
  k_with_none
  (k_with "subscriptTail" => (k_here; (fail_if_success fail_if_success with_reducible show wpAny _ _ (subscriptTail _ _ (Value.ref _) (Value.str _ _)) _ _ _); k_dflt (refine' Mine.d_get ?zzN ?zzm ?zzo ?zzf ?_; (case zzN => k_asm); (case zzm => k_mem); (case zzo => with_reducible assumption); (case zzf => exact rfl); k_whole)))
  (k_with "setItem ref str" => (k_here; (fail_if_success fail_if_success with_reducible show wpAny _ _ (setItem (Value.ref _) (Value.str _ _) _) _ _ _); k_dflt (refine' Mine.d_set ?zzF ?zzN ?zzU ?zzo ?_ ?zzz; (case zzF => k_asm); (case zzN => k_asm); (case zzU => k_updF); (case zzo => with_reducible assumption); (case zzz => exact Nat.le_of_ble_eq_true rfl)); intro _ _ _ _ _; (try k_sweep)))
  (k_with "call builtin:len" => (k_here; (fail_if_success fail_if_success with_reducible show wpAny _ _ (call (Value.builtin "len") [Value.ref _]) _ _ _); k_dflt (refine' Mine.len_L ?zzN ?zzm ?zzb ?_; (case zzN => k_asm); (case zzm => k_mem); (case zzb => omega); k_whole)))
  (k_with "subscriptTail" => (k_here; (fail_if_success fail_if_success with_reducible show wpAny _ _ (subscriptTail _ _ (Value.ref _) (Value.int _ _)) _ _ _); k_dflt (refine' Mine.item_L ?zzN ?zzm ?zza ?zzb ?zzc ?_; (case zzN => k_asm); (case zzm => k_mem); (case zza => omega); (case zzb => omega); (case zzc => omega); k_whole); intro _ _))
  (k_with "subscriptTail" => (k_here; (fail_if_success fail_if_success with_reducible show wpAny _ _ (subscriptTail _ _ (Value.ref _) (Value.int _ _)) _ _ _); k_dflt (refine' Mine.item_LI ?zzN ?zzm ?zzi ?zza ?zzb ?zzc ?_; (case zzN => k_asm); (case zzm => k_mem); (case zzi => with_reducible assumption); (case zza => omega); (case zzb => omega); (case zzc => omega); k_whole); intro _ _))
  (k_with "ite" => first | with_reducible refine PyProof.Rows.ite_tt ?_ | with_reducible refine PyProof.Rows.ite_ff ?_)
  (k_with "execs cons" => (k_here; (try k_gentoks); (with_reducible refine wpAny_execs_cons ?_); (try dsimp only); k_fold))
  (k_with "eval Constant int" => (with_reducible refine Mine.constI ?_))
  (k_with "eval Constant str" => (with_reducible refine Mine.constS ?_))
  (k_with "binaryOp Add int int" => (with_reducible refine Mine.addI ?_))
  (k_with "subscriptTail" => (k_here; (fail_if_success fail_if_success with_reducible show wpAny _ _ (subscriptTail _ (Expr.Slice (some _) (some _) none _) (Value.str _ _) (Value.ref _)) _ _ _); k_dflt (refine' Mine.str_slice (s := ⟨_, _, _, _, _⟩) ?zzF ?zzN ?zza ?zzb ?zzc ?zzd ?_ ?zzs ?zzt; (case zzF => k_asm); (case zzN => k_asm); (case zza => omega); (case zzb => omega); (case zzc => omega); (case zzd => omega); (case zzs => with_unfolding_all rfl); (case zzt => kmk_pure)); intro _ _ _ _ _ _ _; (try k_sweep)))
  (k_with "subscriptTail" => (k_here; (fail_if_success fail_if_success with_reducible show wpAny _ _ (subscriptTail _ _ (Value.str _ _) (Value.int _ _)) _ _ _); k_dflt (refine' Mine.str_item ?zza ?zzb ?zzc ?_; (case zza => omega); (case zzb => omega); (case zzc => omega)); intro _ _ _ _))
  (k_with "compareOp In str str" => (k_here; (fail_if_success fail_if_success with_reducible show wpAny _ _ (compareOp CmpOp.In (Value.str _ _) (Value.str _ _)) _ _ _); (refine Mine.str_in (by with_reducible assumption) ?_); intro _ _))
  (k_with "exec While Compare cons nil" => (refine Mine.stop_intro ?_))
  (k_with "exec While BoolOp cons nil" => (refine Mine.stop_intro ?_))
  (k_with "exec While UnaryOp cons nil" => (refine Mine.stop_intro ?_))
  (k_with "exec While Constant cons nil" => (refine Mine.stop_intro ?_))
  (k_with "exec While" => (refine Mine.stop_intro ?_))
  (k_with "call" => ((fail_if_success fail_if_success with_reducible show wpAny _ _ (call (Prod.fst _) _) _ _ _); dsimp only [List.cons_append, List.nil_append, List.append_nil]))
  (k_with "call ref" => (k_here; (fail_if_success fail_if_success with_reducible show wpAny _ _ (call (Value.ref 282) [Value.ref _]) _ _ _); k_dflt (refine' Mine.token_K ?zzB ?zzF ?zzX ?zzT ?zzhk ?zzhd ?zzhu ?zzN ?zzsc ?zzU ?zzne ?zzk1 ?zzhT ?zzhS ?_; (case zzB => k_asm); (case zzF => k_asm); (case zzX => k_asm); (case zzT => k_asm); (case zzhk => first | exact rfl | assumption); (case zzN => k_asm); (case zzsc => k_mem); (case zzU => k_updF); (case zzne => k_ne); (case zzhS => with_reducible assumption); (case zzk1 => omega); (case zzhT => omega); (case zzhd => ktr_room); (case zzhu => ktr_units)); intro _ _ _ _ _ _ _ _ _ l1 _ N9; (try dsimp only at N9 l1); (try k_lt l1); (try dsimp only); (try k_fold); (try k_sweep)))
  trivial
namespace Mine
open PySem PySem.W PyProof.Rows PySem.Calls PyProof.V PySem.Spec PySem.NumText
set_option maxHeartbeats 2000000 in
theorem take_body {w : World} {mean : ExcName → Option Value} {mg mb : Str → Option Value} {dp un : Nat} {gd : Option (List Code)} {cn : Str} {cs : Scope} {a : Addr} {ccd : Value} {cl : List (Str × Addr)} {outer : List Env} {A₀ : Around} {base h₀ : Heap} {L : Addr} {m : Str → Option Value} {zh : Heap} {zg : Array GenState} {zd : Drawn} {zt : Nat} {zo : OsState} {Q E : Value → Shared → Prop} {rd dr sc dxs ah : Addr} {eh : RdH} {h1 h2 : Int} {t1 t2 : Tok} {Tx : Str} {tT tks : Tok} {k : Nat} {tk1 : TokD} {ks : List TokD} {rest : List (Addr × Obj)}
    (B : Below A₀ base outer h₀) (F : Fr h₀ L zh m) (X : (Mine.top.heap_1 w.params).In h₀) (T : Top Mine.V loose mean mg mb h₀) (hk : cs.kind = .function) (hdp : dp + 30 < recursionLimit) (hun : un + 300 < cLine)
    (N : News h₀ L zh ((dr, rdD eh sc ah) :: (dxs, scD h1 h2 t1 t2 Tx tT (k : Int) tks) :: rest)) (hrd : (rd, instObj 446 dr) ∈ rest) (hsc : (sc, instObj 285 dxs) ∈ rest) (hoff1 : ∀ q ∈ rest, q.1 ≠ dr) (hoff2 : ∀ q ∈ rest, q.1 ≠ dxs) (hdd : @Ne Nat dr dxs) (hne1 : @Ne Nat sc dxs) (hne2 : @Ne Nat sc dr) (hne3 : @Ne Nat rd dr) (hne4 : @Ne Nat rd dxs)
    (hk1 : (k : Int) ≤ Tx.length) (hT : Tx.length ≤ 20000) (hS : RestIs Tx k (tk1 :: ks))
    (hQ : ∀ td o tk2 h' tk' (kf : Nat), TokO tk1 o → RestIs Tx kf ks → (kf : Int) ≤ Tx.length → dr < td → dxs < td → (∀ q ∈ rest, q.1 < td) → Fr h₀ L h' m → News h₀ L h' ((td, o) :: (dr, rdD eh sc td) :: (dxs, scD h1 h2 t1 t2 Tx tT (kf : Int) tk2) :: rest) → Q (.ref ah) ⟨h', zg, zd, tk', zo⟩) :
    wpAny (model prog w) (ktrTop dp un gd cn cs L a ccd cl outer) (call (.ref 310) [.ref rd]) Q E ⟨zh, zg, zd, zt, zo⟩ := by
  rcases hS with hS | ⟨b, hS⟩
  · cases hS
  refine wpAny_call ?_
  k_dflt (refine' code_def (binds := [(Str.ofString "self", .ref rd)]) ?k1 ?k2 ?k3 ?k4 ?k5 ?kA ?kF ?kK ?k6 ?k7 ?k8 ?k9 ?kB ?_ ?c2 ?c3 ?c4 ?c5; (case kA => exact rfl); (case kF => exact rfl); (case kK => assumption); (case k1 => k_asm); (case k2 => k_asm); (case k3 => k_asm); (case k4 => k_asm); (case k5 => k_asm); (case k6 => k_is); (case k7 => k_is); (case k8 => ktr_room); (case k9 => exact BindsTo.of_eq rfl); (case c5 => decide); (case kB => exact locs rfl); (case c2 => exact rfl); (case c3 => exact rfl); (case c4 => exact rfl); k_whole; intro g' L' h' FG' F' N' B' X' T'; (try dsimp only); (try k_fold); (show let Ab : PySem.Around := ktrTop dp un gd cn cs L a ccd cl outer; let ev : PySem.Env := _; let Ac : PySem.Around := PySem.Around.deeper Ab ev; wpAny _ Ac (PySem.execs _ ev) _ _ _); intro Ab ev Ac; (replace hdp : PySem.Around.depth Ab + _ < _ := hdp); (replace hun : PySem.Around.units Ab + _ < _ := hun))
  k_steps
  all_goals (
    (with_reducible rename Fr _ _ _ _ => Fz)
    (with_reducible rename News _ _ _ _ => Nz)
    refine' hQ _ _ _ _ _ _ (by assumption) (by assumption) (by assumption) ?l1 ?l2 ?l3 Fz (newsSub Nz (three_sub ?m1 ?m2 ?m3 fun q hq => ?m4))
    case m1 => k_mem
    case m2 => k_mem
    case m3 => k_mem
    case m4 => k_mem
    case l1 => first | assumption | exact Mine.cj1 (by assumption) | exact Mine.cj2 (by assumption) | exact Mine.cj3 (by assumption) | exact Mine.cj4 (by assumption) | exact Mine.cj5 (by assumption) | exact Mine.cj6 (by assumption) | exact Mine.cj7 (by assumption) | exact Mine.cj8 (by assumption) | omega
    case l2 => first | assumption | exact Mine.cj1 (by assumption) | exact Mine.cj2 (by assumption) | exact Mine.cj3 (by assumption) | exact Mine.cj4 (by assumption) | exact Mine.cj5 (by assumption) | exact Mine.cj6 (by assumption) | exact Mine.cj7 (by assumption) | exact Mine.cj8 (by assumption) | omega
    case l3 => exact allLt_mem (by (first | with_reducible assumption | exact Mine.al1 (by with_reducible assumption) | exact Mine.al2 (by with_reducible assumption) | exact Mine.al3 (by with_reducible assumption) | exact Mine.al4 (by with_reducible assumption) | exact Mine.al5 (by with_reducible assumption) | exact Mine.al6 (by with_reducible assumption) | exact Mine.al7 (by with_reducible assumption) | exact Mine.al8 (by with_reducible assumption))))
theorem take_K {w : World} {mean : ExcName → Option Value} {mg mb : Str → Option Value} {dp un : Nat} {gd : Option (List Code)} {cn : Str} {cs : Scope} {a : Addr} {ccd : Value} {cl : List (Str × Addr)} {outer : List Env} {A₀ : Around} {base h₀ : Heap} {L : Addr} {m : Str → Option Value} {zh : Heap} {zg : Array GenState} {zd : Drawn} {zt : Nat} {zo : OsState} {Q E : Value → Shared → Prop} {news : List (Addr × Obj)} {gA : Obj → List (Addr × Obj)} {gB : Obj → Obj → List (Addr × Obj)} {rd dr sc dxs ah : Addr} {eh : RdH} {h1 h2 : Int} {t1 t2 : Tok} {Tx : Str} {tT tks : Tok} {k : Nat} {tk1 : TokD} {ks : List TokD}
    (B : Below A₀ base outer h₀) (F : Fr h₀ L zh m) (X : (Mine.top.heap_1 w.params).In h₀) (T : Top Mine.V loose mean mg mb h₀) (hk : cs.kind = .function) (hdp : dp + 30 < recursionLimit) (hun : un + 300 < cLine)
    (N : News h₀ L zh news) (hrd : (rd, instObj 446 dr) ∈ news) (hsc : (sc, instObj 285 dxs) ∈ news) (U1 : UpdF dr (rdD eh sc ah) news gA) (U2 : ∀ o, UpdF dxs (scD h1 h2 t1 t2 Tx tT (k : Int) tks) (gA o) (gB o)) (hdd : @Ne Nat dr dxs) (hne1 : @Ne Nat sc dxs) (hne2 : @Ne Nat sc dr) (hne3 : @Ne Nat rd dr) (hne4 : @Ne Nat rd dxs)
    (hk1 : (k : Int) ≤ Tx.length) (hT : Tx.length ≤ 20000) (hS : RestIs Tx k (tk1 :: ks))
    (hQ : ∀ td o tk2 h' tk' (kf : Nat), TokO tk1 o → RestIs Tx kf ks → (kf : Int) ≤ Tx.length → (∀ q ∈ gB (rdD eh sc td) (scD h1 h2 t1 t2 Tx tT (kf : Int) tk2), q.1 < td) → Fr h₀ L h' m → News h₀ L h' ((td, o) :: gB (rdD eh sc td) (scD h1 h2 t1 t2 Tx tT (kf : Int) tk2)) → Q (.ref ah) ⟨h', zg, zd, tk', zo⟩) :
    wpAny (model prog w) (ktrTop dp un gd cn cs L a ccd cl outer) (call (.ref 310) [.ref rd]) Q E ⟨zh, zg, zd, zt, zo⟩ := by
  obtain ⟨rest, r1, r2, r3, r4, r5⟩ := canon2 U1 U2 hdd
  refine take_body B F X T hk hdp hun (newsSub N r1) (r5 _ hrd hne3 hne4) (r5 _ hsc hne2 hne1) r2 r3 hdd hne1 hne2 hne3 hne4 hk1 hT hS fun td o tk2 h' tk' kf e1 e2 e3 e4 e5 e6 F' N' => hQ td o tk2 h' tk' kf e1 e2 e3 (fun q hq => ?_) F' (newsSub N' fun q hq => ?_)
  · rcases List.mem_cons.mp (r4 _ _ _ hq) with rfl | hq
    · exact e4
    · rcases List.mem_cons.mp hq with rfl | hq
      · exact e5
      · exact e6 q hq
  · rcases List.mem_cons.mp hq with rfl | hq
    · exact .head _
    · exact .tail _ (r4 _ _ _ hq)
end Mine
namespace Mine
open PySem PySem.W PyProof.Rows PySem.Calls PyProof.V PySem.Spec
section
variable {w : World} {A : Around} {E : Value → Shared → Prop} {s : Shared} {h₀ : Heap} {L : Addr} {m : Str → Option Value} {news : List (Addr × Obj)}
theorem sliceApplied_2 {sl : Addr} {u : Tok} {Q : Int × Int × Nat → Shared → Prop} (hs : s.heap.IsSliceOf sl .none (.int 2 u) .none) (h : Q (0, 1, 2) s) :
    wpAny (model prog w) A (Builtin.Slice.sliceApplied (.ref sl) (pure ((3 : Nat) : Int))) Q E s := by
  obtain ⟨os, hos, hcs, hds⟩ := id hs
  unfold Builtin.Slice.sliceApplied Builtin.Slice.sliceFields
  refine wpAny_bind (wpAny_bind (wpAny_field hos hds (x := .none) rfl (wpAny_bind (wpAny_field hos hds (x := .int 2 u) rfl (wpAny_bind (wpAny_field hos hds (x := .none) rfl (wpAny_pure ?_)))))))
  refine wpAny_bind (slicePart_none ?_)
  show wpAny _ _ (if ((1 : Int) == 0) = true then _ else _) _ _ s
  rw [if_neg (by decide)]
  refine wpAny_bind (slicePart_none (wpAny_bind (slicePart_int (wpAny_bind (wpAny_pure ?_)))))
  exact wpAny_pure h
theorem tup2 {t : Addr} {x y z : Value} {nn : Nat} {u : Tok} {value slice : PySem.Expr} {Q : Value → Shared → Prop} (F : Fr h₀ L s.heap m) (N : News h₀ L s.heap news) (hm : (t, ({ cls := .type "tuple", data := .seq #[x, y, z] nn } : Obj)) ∈ news)
    (h : ∀ D h', Fr h₀ L h' m → News h₀ L h' ((D, tupO [x, y]) :: news) → (∀ q ∈ news, q.1 < D) → Q (.ref D) { s with heap := h' })
    (hs : subscripted slice false (.ref t) (.ref s.heap.objs.size) = operate [.ref s.heap.objs.size, .ref t] (getItem (.ref t) (.ref s.heap.objs.size)))
    (hg : ∀ r, letTemporaryGo value (.ref t) r = pure ()) :
    wpAny (model prog w) A (subscriptTail value slice (.ref t) (.ref s.heap.objs.size)) Q E { s with heap := s.heap.push { cls := .type "slice", data := .fields #[.none, .int 2 u, .none] } } := by
  have ht : IsTup s.heap t #[x, y, z] := ⟨_, (N _ hm).1, rfl, _, rfl⟩
  have ht' : IsTup (s.heap.push { cls := .type "slice", data := .fields #[.none, .int 2 u, .none] }) t #[x, y, z] := ht.keeps fun _ _ e => Heap.get?_push_of_some _ e
  refine subscriptTail_ops (s := { s with heap := s.heap.push { cls := .type "slice", data := .fields #[.none, .int 2 u, .none] } }) ht'.typeIs slot_tuple_getitem.lookup ?_ hs hg
  have hsl : ({ s with heap := s.heap.push { cls := .type "slice", data := .fields #[.none, .int 2 u, .none] } } : Shared).heap.IsSliceOf s.heap.objs.size .none (.int 2 u) .none := Heap.IsSliceOf.new ..
  obtain ⟨os, hos, hcs, hds⟩ := id hsl
  have hTs : ({ s with heap := s.heap.push { cls := .type "slice", data := .fields #[.none, .int 2 u, .none] } } : Shared).TypeIs (.ref s.heap.objs.size) "slice" := ⟨os, hos, hcs⟩
  have hfin : Q (.ref (s.heap.push { cls := .type "slice", data := .fields #[.none, .int 2 u, .none] }).objs.size) { s with heap := (s.heap.push { cls := .type "slice", data := .fields #[.none, .int 2 u, .none] }).push { cls := .type "tuple", data := .seq #[x, y] } } := by
    have N1 := News.push (F.push { cls := .type "slice", data := .fields #[.none, .int 2 u, .none] }) (N.grown fun _ _ e => Heap.get?_push_of_some _ e) { cls := .type "tuple", data := .seq #[x, y] }
    exact h _ _ ((F.push _).push _) N1 fun q hq => by rw [Heap.size_push]; exact Nat.lt_succ_of_lt (Heap.lt_size (N q hq).1)
  unfold getItem
  try with_reducible refine wpAny_holding ?_
  first | refine wpAny_bind (wpAny_pure ?_) | skip
  refine wpAny_bind (wpAny_sequenceKey ht'.typeIs (by decide) ?_)
  refine wpAny_bind (wpAny_callSpecial?_slot (name := Str.ofString "__getitem__") ht'.typeIs slot_tuple_getitem
    (wpAny_call_entry slot_tuple_getitem ht'.typeIs entry_tuple_getitem ?_ (args_tuple_getitem _ _)))
  show wpAny _ _ (Builtin.Tuple.tupleItemsOf (.ref t) >>= _) _ _ _
  refine wpAny_bind (tupleItemsOf_ ht' ?_)
  refine wpAny_bind (wpAny_typeOf hTs ?_)
  rw [if_pos (by decide)]
  refine wpAny_bind (sliceApplied_2 hsl ?_)
  show wpAny _ _ (if ((0 : Int) == 0 && (1 : Int) == 1 && (2 : Nat) == 3) = true then _ else _) _ _ _
  rw [if_neg (by decide)]
  have hdrop : sizeOk (.seq #[x, y]) := by
    show (#[x, y] : Array Value).size ≤ sizeLine
    rw [sizeLine_eq]
    exact Nat.le_of_ble_eq_true rfl
  first
    | exact wpAny_bind (m := Builtin.Tuple.tupleExact _) (wpAny_newObj_type (wpAny_pure ⟨_, rfl, wpAny_pure hfin⟩) hdrop)
    | exact wpAny_bind (m := Builtin.Tuple.tupleExact _) (wpAny_newObj_type (wpAny_bind (wpAny_pure (wpAny_pure ⟨_, rfl, wpAny_pure hfin⟩))) hdrop)
    | exact wpAny_bind (wpAny_bind (m := Builtin.Tuple.tupleExact _) (wpAny_newObj_type (wpAny_pure (wpAny_pure ⟨_, rfl, wpAny_pure hfin⟩)) hdrop))
    | exact wpAny_bind (wpAny_bind (m := Builtin.Tuple.tupleExact _) (wpAny_newObj_type (wpAny_pure ⟨_, rfl, wpAny_pure hfin⟩) hdrop))
theorem eq_tokI {a b : Addr} {K K2 S : Str} {n : Int} {t u t2 t3 : Tok} {n1 n2 : Nat} {Q : Value → Shared → Prop} (N : News h₀ L s.heap news) (ma : (a, ({ cls := .type "tuple", data := .seq #[.str K t, .int n u] n1 } : Obj)) ∈ news) (mb : (b, ({ cls := .type "tuple", data := .seq #[.str K2 t2, .str S t3] n2 } : Obj)) ∈ news)
    (k1 : PyData.strOk K = true) (k2 : PyData.strOk K2 = true) (k3 : PyData.strOk S = true) (hu : A.units + 64 < cLine) (h : Q (.bool false) s) : wpAny (model prog w) A (compareOp .Eq (.ref a) (.ref b)) Q E s := by
  refine eq_dataH (reads_tuple_at (N.get ma) rfl rfl (ReadsAll.cons (Reads.str _ _) (ReadsAll.cons (Reads.int _ _) ReadsAll.nil))) (reads_tuple_at (N.get mb) rfl rfl (ReadsAll.cons (Reads.str _ _) (ReadsAll.cons (Reads.str _ _) ReadsAll.nil))) ?_ ?_ hu ?_
  · simp [SeqAt.shaped, PyData.canLay0, PyData.canLayAll0, PyData.depth, PyData.depthAll, k1]
  · simp [SeqAt.shaped, PyData.canLay0, PyData.canLayAll0, PyData.depth, PyData.depthAll, k2, k3]
  · simp only [PyData.eqv, PyData.eqvAll, Bool.false_and, Bool.and_false]
    exact h
theorem eq_tokS {a b : Addr} {K K2 S y : Str} {r : Bool} {t u t2 t3 : Tok} {n1 n2 : Nat} {Q : Value → Shared → Prop} (N : News h₀ L s.heap news) (ma : (a, ({ cls := .type "tuple", data := .seq #[.str K t, .str y u] n1 } : Obj)) ∈ news) (mb : (b, ({ cls := .type "tuple", data := .seq #[.str K2 t2, .str S t3] n2 } : Obj)) ∈ news)
    (k1 : PyData.strOk K = true) (k2 : PyData.strOk K2 = true) (k3 : PyData.strOk S = true) (k4 : PyData.strOk y = true) (hu : A.units + 64 < cLine) (hr : r = (K == K2 && y == S)) (h : Q (.bool r) s) : wpAny (model prog w) A (compareOp .Eq (.ref a) (.ref b)) Q E s := by
  subst hr
  refine eq_dataH (reads_tuple_at (N.get ma) rfl rfl (ReadsAll.cons (Reads.str _ _) (ReadsAll.cons (Reads.str _ _) ReadsAll.nil))) (reads_tuple_at (N.get mb) rfl rfl (ReadsAll.cons (Reads.str _ _) (ReadsAll.cons (Reads.str _ _) ReadsAll.nil))) ?_ ?_ hu ?_
  · simp [SeqAt.shaped, PyData.canLay0, PyData.canLayAll0, PyData.depth, PyData.depthAll, k1, k4]
  · simp [SeqAt.shaped, PyData.canLay0, PyData.canLayAll0, PyData.depth, PyData.depthAll, k2, k3]
  · simp only [PyData.eqv, PyData.eqvAll, Bool.and_true]
    exact h
theorem strOk_of {x : Str} {l : List Nat} (h : x.cps.toList = l) (hl : l ∈ [([] : List Nat), [120], [46, 46], [123], [125], [44], [58]]) : PyData.strOk x = true := by
  unfold PyData.strOk
  rw [← Array.all_toList, h]
  have : ∀ l ∈ [([] : List Nat), [120], [46, 46], [123], [125], [44], [58]], (l.all fun c => decide (c < 0x110000)) = true := by decide
  exact this l hl
end
end Mine
theorem Mine.rw_P25_issign : True := by
  k_with_none
  (k_with "subscriptTail" => (k_here; (fail_if_success fail_if_success with_reducible show wpAny _ _ (subscriptTail _ _ (Value.ref _) (Value.str _ _)) _ _ _); k_dflt (refine' Mine.d_get ?zzN ?zzm ?zzo ?zzf ?_; (case zzN => k_asm); (case zzm => k_mem); (case zzo => with_reducible assumption); (case zzf => exact rfl); k_whole)))
  (k_with "setItem ref str" => (k_here; (fail_if_success fail_if_success with_reducible show wpAny _ _ (setItem (Value.ref _) (Value.str _ _) _) _ _ _); k_dflt (refine' Mine.d_set ?zzF ?zzN ?zzU ?zzo ?_ ?zzz; (case zzF => k_asm); (case zzN => k_asm); (case zzU => k_updF); (case zzo => with_reducible assumption); (case zzz => exact Nat.le_of_ble_eq_true rfl)); intro _ _ _ _ _; (try k_sweep)))
  (k_with "call builtin:len" => (k_here; (fail_if_success fail_if_success with_reducible show wpAny _ _ (call (Value.builtin "len") [Value.ref _]) _ _ _); k_dflt (refine' Mine.len_L ?zzN ?zzm ?zzb ?_; (case zzN => k_asm); (case zzm => k_mem); (case zzb => omega); k_whole)))
  (k_with "subscriptTail" => (k_here; (fail_if_success fail_if_success with_reducible show wpAny _ _ (subscriptTail _ _ (Value.ref _) (Value.int _ _)) _ _ _); k_dflt (refine' Mine.item_L ?zzN ?zzm ?zza ?zzb ?zzc ?_; (case zzN => k_asm); (case zzm => k_mem); (case zza => omega); (case zzb => omega); (case zzc => omega); k_whole); intro _ _))
  (k_with "subscriptTail" => (k_here; (fail_if_success fail_if_success with_reducible show wpAny _ _ (subscriptTail _ _ (Value.ref _) (Value.int _ _)) _ _ _); k_dflt (refine' Mine.item_LI ?zzN ?zzm ?zzi ?zza ?zzb ?zzc ?_; (case zzN => k_asm); (case zzm => k_mem); (case zzi => with_reducible assumption); (case zza => omega); (case zzb => omega); (case zzc => omega); k_whole); intro _ _))
  (k_with "ite" => first | with_reducible refine PyProof.Rows.ite_tt ?_ | with_reducible refine PyProof.Rows.ite_ff ?_)
  (k_with "execs cons" => (k_here; (try k_gentoks); (with_reducible refine wpAny_execs_cons ?_); (try dsimp only); k_fold))
  (k_with "eval Constant int" => (with_reducible refine Mine.constI ?_))
  (k_with "eval Constant str" => (with_reducible refine Mine.constS ?_))
  (k_with "binaryOp Add int int" => (with_reducible refine Mine.addI ?_))
  (k_with "subscriptTail" => (k_here; (fail_if_success fail_if_success with_reducible show wpAny _ _ (subscriptTail _ (Expr.Slice (some _) (some _) none _) (Value.str _ _) (Value.ref _)) _ _ _); k_dflt (refine' Mine.str_slice (s := ⟨_, _, _, _, _⟩) ?zzF ?zzN ?zza ?zzb ?zzc ?zzd ?_ ?zzs ?zzt; (case zzF => k_asm); (case zzN => k_asm); (case zza => omega); (case zzb => omega); (case zzc => omega); (case zzd => omega); (case zzs => with_unfolding_all rfl); (case zzt => kmk_pure)); intro _ _ _ _ _ _ _; (try k_sweep)))
  (k_with "subscriptTail" => (k_here; (fail_if_success fail_if_success with_reducible show wpAny _ _ (subscriptTail _ _ (Value.str _ _) (Value.int _ _)) _ _ _); k_dflt (refine' Mine.str_item ?zza ?zzb ?zzc ?_; (case zza => omega); (case zzb => omega); (case zzc => omega)); intro _ _ _ _))
  (k_with "compareOp In str str" => (k_here; (fail_if_success fail_if_success with_reducible show wpAny _ _ (compareOp CmpOp.In (Value.str _ _) (Value.str _ _)) _ _ _); (refine Mine.str_in (by with_reducible assumption) ?_); intro _ _))
  (k_with "exec While Compare cons nil" => (refine Mine.stop_intro ?_))
  (k_with "exec While BoolOp cons nil" => (refine Mine.stop_intro ?_))
  (k_with "exec While UnaryOp cons nil" => (refine Mine.stop_intro ?_))
  (k_with "exec While Constant cons nil" => (refine Mine.stop_intro ?_))
  (k_with "exec While" => (refine Mine.stop_intro ?_))
  (k_with "call" => ((fail_if_success fail_if_success with_reducible show wpAny _ _ (call (Prod.fst _) _) _ _ _); dsimp only [List.cons_append, List.nil_append, List.append_nil]))
  (k_with "subscriptTail Name Slice ref ref" => (k_here; (fail_if_success fail_if_success with_reducible show wpAny _ _ (subscriptTail _ (PySem.Expr.Slice none (some _) none _) (Value.ref _) (Value.ref _)) _ _ _); k_dflt (refine' Mine.tup2 ?zzF ?zzN ?zzm ?_ ?zzs ?zzt; (case zzF => k_asm); (case zzN => k_asm); (case zzm => k_mem); (case zzs => with_unfolding_all rfl); (case zzt => kmk_pure)); intro _ _ _ _ l1; (try k_lt l1); (try k_sweep)))
  (k_with "compareOp Eq ref ref" => (k_here; (fail_if_success fail_if_success with_reducible show wpAny _ _ (compareOp CmpOp.Eq (Value.ref _) (Value.ref _)) _ _ _); k_dflt (refine' Mine.eq_tokI ?zzN ?zzma ?zzmb ?zzk1 ?zzk2 ?zzk3 ?zzu ?_; (case zzN => k_asm); (case zzma => k_mem); (case zzmb => k_mem); (case zzk1 => first | with_reducible assumption | decide +kernel); (case zzk2 => first | with_reducible assumption | decide +kernel); (case zzk3 => with_reducible assumption); (case zzu => ktr_units))))
  (k_with "compareOp Eq ref ref" => (k_here; (fail_if_success fail_if_success with_reducible show wpAny _ _ (compareOp CmpOp.Eq (Value.ref _) (Value.ref _)) _ _ _); k_dflt (refine' Mine.eq_tokS ?zzN ?zzma ?zzmb ?zzk1 ?zzk2 ?zzk3 ?zzk4 ?zzu ?zzr ?_; (case zzN => k_asm); (case zzma => k_mem); (case zzmb => k_mem); (case zzk1 => first | with_reducible assumption | decide +kernel); (case zzk2 => first | with_reducible assumption | decide +kernel); (case zzk3 => with_reducible assumption); (case zzk4 => with_reducible assumption); (case zzr => with_reducible assumption); (case zzu => ktr_units))))
  trivial
namespace Mine
open PySem PySem.W PyProof.Rows PySem.Calls PyProof.V PySem.Spec PySem.NumText
set_option maxHeartbeats 2000000 in
theorem issign_K {w : World} {mean : ExcName → Option Value} {mg mb : Str → Option Value} {dp un : Nat} {gd : Option (List Code)} {cn : Str} {cs : Scope} {a : Addr} {ccd : Value} {cl : List (Str × Addr)} {outer : List Env} {A₀ : Around} {base h₀ : Heap} {L : Addr} {m : Str → Option Value} {zh : Heap} {zg : Array GenState} {zd : Drawn} {zt : Nat} {zo : OsState} {Q E : Value → Shared → Prop} {news : List (Addr × Obj)} {rd dr sc ah : Addr} {eh : RdH} {o : Obj} {tk0 : TokD} {S : Str} {tS : Tok}
    (B : Below A₀ base outer h₀) (F : Fr h₀ L zh m) (X : (Mine.top.heap_1 w.params).In h₀) (T : Top Mine.V loose mean mg mb h₀) (hk : cs.kind = .function) (hdp : dp + 5 < recursionLimit) (hun : un + 100 < cLine)
    (N : News h₀ L zh news) (hrd : (rd, instObj 446 dr) ∈ news) (hdr : (dr, rdD eh sc ah) ∈ news) (hah : (ah, o) ∈ news) (ho : TokO tk0 o) (hS : S.cps.toList ∈ lateL)
    (hQ : ∀ h' tk', Fr h₀ L h' m → News h₀ L h' news → Q (.bool (decide (tk0.worth = none ∧ tk0.txt = S.cps.toList))) ⟨h', zg, zd, tk', zo⟩) :
    wpAny (model prog w) (ktrTop dp un gd cn cs L a ccd cl outer) (call (.ref 317) [.ref rd, .str S tS]) Q E ⟨zh, zg, zd, zt, zo⟩ := by
  obtain ⟨K, vv, tA, tB, rfl, hK⟩ := ho
  have hSok : PyData.strOk S = true := by
    refine strOk_of rfl ?_
    have : ∀ l ∈ lateL, l ∈ [([] : List Nat), [120], [46, 46], [123], [125], [44], [58]] := by decide
    exact this _ hS
  refine wpAny_call ?_
  k_dflt (refine' code_def (binds := [(Str.ofString "self", .ref rd), (Str.ofString "sign", .str S tS)]) ?k1 ?k2 ?k3 ?k4 ?k5 ?kA ?kF ?kK ?k6 ?k7 ?k8 ?k9 ?kB ?_ ?c2 ?c3 ?c4 ?c5; (case kA => exact rfl); (case kF => exact rfl); (case kK => assumption); (case k1 => k_asm); (case k2 => k_asm); (case k3 => k_asm); (case k4 => k_asm); (case k5 => k_asm); (case k6 => k_is); (case k7 => k_is); (case k8 => ktr_room); (case k9 => exact BindsTo.of_eq rfl); (case c5 => decide); (case kB => exact locs rfl); (case c2 => exact rfl); (case c3 => exact rfl); (case c4 => exact rfl); k_whole; intro g' L' h' FG' F' N' B' X' T'; (try dsimp only); (try k_fold); (show let Ab : PySem.Around := ktrTop dp un gd cn cs L a ccd cl outer; let ev : PySem.Env := _; let Ac : PySem.Around := PySem.Around.deeper Ab ev; wpAny _ Ac (PySem.execs _ ev) _ _ _); intro Ab ev Ac; (replace hdp : PySem.Around.depth Ab + _ < _ := hdp); (replace hun : PySem.Around.units Ab + _ < _ := hun))
  rcases hK with ⟨n, tn, hw, rfl, rfl⟩ | ⟨hw, y, ty, rfl, hy, hK⟩
  · have hb : decide (tk0.worth = none ∧ tk0.txt = S.cps.toList) = false := decide_eq_false fun h => by rw [hw] at h; cases h.1
    rw [hb] at hQ
    k_steps
    all_goals (
      (with_reducible rename Fr _ _ _ _ => Fz)
      (with_reducible rename News _ _ _ _ => Nz)
      exact hQ _ _ Fz (newsSub Nz fun q hq => by repeat (first | exact hq | refine .tail _ ?_)))
  · have hKok : PyData.strOk K = true := by rcases hK with ⟨_, rfl⟩ | ⟨_, rfl⟩ | ⟨_, rfl⟩ <;> decide +kernel
    have hyok : PyData.strOk y = true := by
      refine strOk_of hy ?_
      have hl : ∀ l ∈ lateL, l ∈ [([] : List Nat), [120], [46, 46], [123], [125], [44], [58]] := by decide
      rcases hK with ⟨h, _⟩ | ⟨h, _⟩ | ⟨h, _⟩
      · rw [h]; decide
      · rw [h]; decide
      · exact hl _ h
    have hr : decide (tk0.worth = none ∧ tk0.txt = S.cps.toList) = (K == Str.ofString "sign" && y == S) := by
      have hne1 : (Str.ofString "end" == Str.ofString "sign") = false := by decide +kernel
      have hne2 : (Str.ofString "word" == Str.ofString "sign") = false := by decide +kernel
      rcases hK with ⟨h, rfl⟩ | ⟨h, rfl⟩ | ⟨h, rfl⟩
      · rw [hne1, Bool.false_and]
        refine decide_eq_false fun z => ?_
        rw [h] at z
        rw [← z.2] at hS
        exact absurd hS (by decide)
      · rw [hne2, Bool.false_and]
        refine decide_eq_false fun z => ?_
        rw [h] at z
        rw [← z.2] at hS
        exact absurd hS (by decide)
      · rw [beq_self_eq_true, Bool.true_and]
        by_cases z : y = S
        · subst z
          rw [beq_self_eq_true]
          exact decide_eq_true ⟨hw, hy.symm⟩
        · rw [beq_eq_false_iff_ne.mpr z]
          exact decide_eq_false fun q => z (str_ext (hy.trans q.2))
    k_steps
    all_goals (
      (with_reducible rename Fr _ _ _ _ => Fz)
      (with_reducible rename News _ _ _ _ => Nz)
      exact hQ _ _ Fz (newsSub Nz fun q hq => by repeat (first | exact hq | refine .tail _ ?_)))
end Mine
namespace Mine
open PySem PySem.W PyProof.Rows PySem.Calls PyProof.V PySem.Spec PySem.NumText
theorem len_empty : Str.empty.length = 0 := rfl
theorem len_wanted : (Str.ofString " is wanted").length = 10 := by decide +kernel
theorem len_lit1 : (Str.ofString "..").length = 2 := by decide +kernel
theorem len_lit2 : (Str.ofString ", ").length = 2 := by decide +kernel
theorem len_lit3 : (Str.ofString "{").length = 1 := by decide +kernel
theorem len_lit4 : (Str.ofString "}").length = 1 := by decide +kernel
theorem len_lit5 : (Str.ofString "").length = 0 := by decide +kernel
theorem len_fit {n : Nat} (h : n ≤ 100000) : n ≤ sizeLine := by rw [sizeLine_eq]; omega
end Mine
theorem Mine.rw_P26_want : True := by
  k_with_none
  (k_with "subscriptTail" => (k_here; (fail_if_success fail_if_success with_reducible show wpAny _ _ (subscriptTail _ _ (Value.ref _) (Value.str _ _)) _ _ _); k_dflt (refine' Mine.d_get ?zzN ?zzm ?zzo ?zzf ?_; (case zzN => k_asm); (case zzm => k_mem); (case zzo => with_reducible assumption); (case zzf => exact rfl); k_whole)))
  (k_with "setItem ref str" => (k_here; (fail_if_success fail_if_success with_reducible show wpAny _ _ (setItem (Value.ref _) (Value.str _ _) _) _ _ _); k_dflt (refine' Mine.d_set ?zzF ?zzN ?zzU ?zzo ?_ ?zzz; (case zzF => k_asm); (case zzN => k_asm); (case zzU => k_updF); (case zzo => with_reducible assumption); (case zzz => exact Nat.le_of_ble_eq_true rfl)); intro _ _ _ _ _; (try k_sweep)))
  (k_with "call builtin:len" => (k_here; (fail_if_success fail_if_success with_reducible show wpAny _ _ (call (Value.builtin "len") [Value.ref _]) _ _ _); k_dflt (refine' Mine.len_L ?zzN ?zzm ?zzb ?_; (case zzN => k_asm); (case zzm => k_mem); (case zzb => omega); k_whole)))
  (k_with "subscriptTail" => (k_here; (fail_if_success fail_if_success with_reducible show wpAny _ _ (subscriptTail _ _ (Value.ref _) (Value.int _ _)) _ _ _); k_dflt (refine' Mine.item_L ?zzN ?zzm ?zza ?zzb ?zzc ?_; (case zzN => k_asm); (case zzm => k_mem); (case zza => omega); (case zzb => omega); (case zzc => omega); k_whole); intro _ _))
  (k_with "subscriptTail" => (k_here; (fail_if_success fail_if_success with_reducible show wpAny _ _ (subscriptTail _ _ (Value.ref _) (Value.int _ _)) _ _ _); k_dflt (refine' Mine.item_LI ?zzN ?zzm ?zzi ?zza ?zzb ?zzc ?_; (case zzN => k_asm); (case zzm => k_mem); (case zzi => with_reducible assumption); (case zza => omega); (case zzb => omega); (case zzc => omega); k_whole); intro _ _))
  (k_with "ite" => first | with_reducible refine PyProof.Rows.ite_tt ?_ | with_reducible refine PyProof.Rows.ite_ff ?_)
  (k_with "execs cons" => (k_here; (try k_gentoks); (with_reducible refine wpAny_execs_cons ?_); (try dsimp only); k_fold))
  (k_with "eval Constant int" => (with_reducible refine Mine.constI ?_))
  (k_with "eval Constant str" => (with_reducible refine Mine.constS ?_))
  (k_with "binaryOp Add int int" => (with_reducible refine Mine.addI ?_))
  (k_with "subscriptTail" => (k_here; (fail_if_success fail_if_success with_reducible show wpAny _ _ (subscriptTail _ (Expr.Slice (some _) (some _) none _) (Value.str _ _) (Value.ref _)) _ _ _); k_dflt (refine' Mine.str_slice (s := ⟨_, _, _, _, _⟩) ?zzF ?zzN ?zza ?zzb ?zzc ?zzd ?_ ?zzs ?zzt; (case zzF => k_asm); (case zzN => k_asm); (case zza => omega); (case zzb => omega); (case zzc => omega); (case zzd => omega); (case zzs => with_unfolding_all rfl); (case zzt => kmk_pure)); intro _ _ _ _ _ _ _; (try k_sweep)))
  (k_with "subscriptTail" => (k_here; (fail_if_success fail_if_success with_reducible show wpAny _ _ (subscriptTail _ _ (Value.str _ _) (Value.int _ _)) _ _ _); k_dflt (refine' Mine.str_item ?zza ?zzb ?zzc ?_; (case zza => omega); (case zzb => omega); (case zzc => omega)); intro _ _ _ _))
  (k_with "compareOp In str str" => (k_here; (fail_if_success fail_if_success with_reducible show wpAny _ _ (compareOp CmpOp.In (Value.str _ _) (Value.str _ _)) _ _ _); (refine Mine.str_in (by with_reducible assumption) ?_); intro _ _))
  (k_with "exec While Compare cons nil" => (refine Mine.stop_intro ?_))
  (k_with "exec While BoolOp cons nil" => (refine Mine.stop_intro ?_))
  (k_with "exec While UnaryOp cons nil" => (refine Mine.stop_intro ?_))
  (k_with "exec While Constant cons nil" => (refine Mine.stop_intro ?_))
  (k_with "exec While" => (refine Mine.stop_intro ?_))
  (k_with "call" => ((fail_if_success fail_if_success with_reducible show wpAny _ _ (call (Prod.fst _) _) _ _ _); dsimp only [List.cons_append, List.nil_append, List.append_nil]))
  (k_with "exec Raise some none" => (k_here; (fail_if_success fail_if_success with_reducible show wpAny _ _ (exec (Stmt.Raise (some (PySem.Expr.Call (PySem.Expr.Name _ _) (_ :: _) [] _)) none _) _) _ _ _); k_dflt (refine' Mine.raise_TK ?zzB ?zzF ?zzX ?zzT ?zzhk ?zzhd ?zzhu ?_ ?zzhe ?zzhp ?zzhx; (case zzB => k_asm); (case zzF => k_asm); (case zzX => k_asm); (case zzT => k_asm); (case zzhk => first | exact rfl | assumption); (case zzhd => ktr_room); (case zzhu => ktr_units); (case zzhe => exact rfl); (case zzhp => exact rfl); (case zzhx => exact rfl))))
  (k_with "call ref" => (k_here; (fail_if_success fail_if_success with_reducible show wpAny _ _ (call (Value.ref 317) [Value.ref _, Value.str _ _]) _ _ _); k_dflt (refine' Mine.issign_K ?zzB ?zzF ?zzX ?zzT ?zzhk ?zzhd ?zzhu ?zzN ?zzrd ?zzdr ?zzah ?zzo ?zzS ?_; (case zzB => k_asm); (case zzF => k_asm); (case zzX => k_asm); (case zzT => k_asm); (case zzhk => first | exact rfl | assumption); (case zzN => k_asm); (case zzrd => k_mem); (case zzdr => k_mem); (case zzah => k_mem); (case zzo => with_reducible assumption); (case zzS => first | with_reducible assumption | decide +kernel); (case zzhd => ktr_room); (case zzhu => ktr_units)); intro _ _ _ _; (try dsimp only); (try k_fold); (try k_sweep)))
  (k_with "call ref" => (k_here; (fail_if_success fail_if_success with_reducible show wpAny _ _ (call (Value.ref 310) [Value.ref _]) _ _ _); k_dflt (refine' Mine.take_K ?zzB ?zzF ?zzX ?zzT ?zzhk ?zzhd ?zzhu ?zzN ?zzrd ?zzsc ?zzU1 ?zzU2 ?zzdd ?zzn1 ?zzn2 ?zzn3 ?zzn4 ?zzk1 ?zzhT ?zzS ?_; (case zzB => k_asm); (case zzF => k_asm); (case zzX => k_asm); (case zzT => k_asm); (case zzhk => first | exact rfl | assumption); (case zzN => k_asm); (case zzrd => k_mem); (case zzsc => k_mem); (case zzU1 => k_updF); (case zzU2 => (intro _; (try dsimp only); k_updF)); (case zzdd => k_ne); (case zzn1 => k_ne); (case zzn2 => k_ne); (case zzn3 => k_ne); (case zzn4 => k_ne); (case zzS => with_reducible assumption); (case zzk1 => omega); (case zzhT => omega); (case zzhd => ktr_room); (case zzhu => ktr_units)); intro _ _ _ _ _ _ _ _ _ l1 _ N9; (try dsimp only at N9 l1); (try k_lt l1); (try dsimp only); (try k_fold); (try k_sweep)))
  (k_with "formatField str" => (k_here; (fail_if_success fail_if_success with_reducible show wpAny _ _ (formatField (Value.str _ _) _) _ _ _); (refine' formatField_str ?zzh ?zzz; (case zzz => (rw [sizeLine_eq]; omega))); intro _ _; (try dsimp only)))
  (k_with "And" => (refine ⟨Mine.len_fit (by simp only [Str.length_append, Mine.len_empty, Mine.len_wanted, Mine.len_lit1, Mine.len_lit2, Mine.len_lit3, Mine.len_lit4, Mine.len_lit5]; omega), ?_⟩))
  trivial
namespace Mine
open PySem PySem.W PyProof.Rows PySem.Calls PyProof.V PySem.Spec PySem.NumText
def IsS (tk0 : TokD) (S : Str) : Prop := tk0.worth = none ∧ tk0.txt = S.cps.toList
set_option maxHeartbeats 2000000 in
theorem want_body {w : World} {mean : ExcName → Option Value} {mg mb : Str → Option Value} {dp un : Nat} {gd : Option (List Code)} {cn : Str} {cs : Scope} {a : Addr} {ccd : Value} {cl : List (Str × Addr)} {outer : List Env} {A₀ : Around} {base h₀ : Heap} {L : Addr} {m : Str → Option Value} {zh : Heap} {zg : Array GenState} {zd : Drawn} {zt : Nat} {zo : OsState} {Q E : Value → Shared → Prop} {rd dr sc dxs ah : Addr} {eh : RdH} {o : Obj} {tk0 tk1 : TokD} {ks : List TokD} {h1 h2 : Int} {t1 t2 : Tok} {Tx S : Str} {tT tks tS : Tok} {k : Nat} {rest : List (Addr × Obj)}
    (B : Below A₀ base outer h₀) (F : Fr h₀ L zh m) (X : (Mine.top.heap_1 w.params).In h₀) (T : Top Mine.V loose mean mg mb h₀) (hk : cs.kind = .function) (hdp : dp + 50 < recursionLimit) (hun : un + 500 < cLine)
    (N : News h₀ L zh ((dr, rdD eh sc ah) :: (dxs, scD h1 h2 t1 t2 Tx tT (k : Int) tks) :: rest)) (hrd : (rd, instObj 446 dr) ∈ rest) (hsc : (sc, instObj 285 dxs) ∈ rest) (hah : (ah, o) ∈ rest) (hoff1 : ∀ q ∈ rest, q.1 ≠ dr) (hoff2 : ∀ q ∈ rest, q.1 ≠ dxs) (hdd : @Ne Nat dr dxs) (hne1 : @Ne Nat sc dxs) (hne2 : @Ne Nat sc dr) (hne3 : @Ne Nat rd dr) (hne4 : @Ne Nat rd dxs)
    (ho : TokO tk0 o) (hSl : S.cps.toList ∈ lateL)
    (hk1 : (k : Int) ≤ Tx.length) (hT : Tx.length ≤ 20000)
    (hgo : tk0.worth = none ∧ tk0.txt = S.cps.toList → RestIs Tx k (tk1 :: ks))
    (hE : ¬ (tk0.worth = none ∧ tk0.txt = S.cps.toList) → OnT h₀ L m base (envX cn cs L a ccd cl :: outer) tk0.pos E ⟨zh, zg, zd, zt, zo⟩)
    (hQ : tk0.worth = none ∧ tk0.txt = S.cps.toList → ∀ td o tk2 h' tk' (kf : Nat), TokO tk1 o → RestIs Tx kf ks → (kf : Int) ≤ Tx.length → dr < td → dxs < td → (∀ q ∈ rest, q.1 < td) → Fr h₀ L h' m → News h₀ L h' ((td, o) :: (dr, rdD eh sc td) :: (dxs, scD h1 h2 t1 t2 Tx tT (kf : Int) tk2) :: rest) → Q .none ⟨h', zg, zd, tk', zo⟩) :
    wpAny (model prog w) (ktrTop dp un gd cn cs L a ccd cl outer) (call (.ref 324) [.ref rd, .str S tS]) Q E ⟨zh, zg, zd, zt, zo⟩ := by
  refine wpAny_call ?_
  k_dflt (refine' code_def (binds := [(Str.ofString "self", .ref rd), (Str.ofString "sign", .str S tS)]) ?k1 ?k2 ?k3 ?k4 ?k5 ?kA ?kF ?kK ?k6 ?k7 ?k8 ?k9 ?kB ?_ ?c2 ?c3 ?c4 ?c5; (case kA => exact rfl); (case kF => exact rfl); (case kK => assumption); (case k1 => k_asm); (case k2 => k_asm); (case k3 => k_asm); (case k4 => k_asm); (case k5 => k_asm); (case k6 => k_is); (case k7 => k_is); (case k8 => ktr_room); (case k9 => exact BindsTo.of_eq rfl); (case c5 => decide); (case kB => exact locs rfl); (case c2 => exact rfl); (case c3 => exact rfl); (case c4 => exact rfl); k_whole; intro g' L' h' FG' F' N' B' X' T'; (try dsimp only); (try k_fold); (show let Ab : PySem.Around := ktrTop dp un gd cn cs L a ccd cl outer; let ev : PySem.Env := _; let Ac : PySem.Around := PySem.Around.deeper Ab ev; wpAny _ Ac (PySem.execs _ ev) _ _ _); intro Ab ev Ac; (replace hdp : PySem.Around.depth Ab + _ < _ := hdp); (replace hun : PySem.Around.units Ab + _ < _ := hun))
  by_cases hm : tk0.worth = none ∧ tk0.txt = S.cps.toList
  · have hb : decide (tk0.worth = none ∧ tk0.txt = S.cps.toList) = true := decide_eq_true hm
    have hR := hgo hm
    have hQ' := hQ hm
    clear hQ hgo hE
    k_steps
    all_goals (
      (with_reducible rename Fr _ _ _ _ => Fz)
      (with_reducible rename News _ _ _ _ => Nz)
      refine' hQ' _ _ _ _ _ _ (by assumption) (by assumption) (by assumption) ?l1 ?l2 ?l3 Fz (newsSub Nz (three_sub ?m1 ?m2 ?m3 fun q hq => ?m4))
      case m1 => k_mem
      case m2 => k_mem
      case m3 => k_mem
      case m4 => k_mem
      case l1 => first | assumption | exact Mine.cj1 (by assumption) | exact Mine.cj2 (by assumption) | exact Mine.cj3 (by assumption) | exact Mine.cj4 (by assumption) | exact Mine.cj5 (by assumption) | exact Mine.cj6 (by assumption) | exact Mine.cj7 (by assumption) | exact Mine.cj8 (by assumption) | omega
      case l2 => first | assumption | exact Mine.cj1 (by assumption) | exact Mine.cj2 (by assumption) | exact Mine.cj3 (by assumption) | exact Mine.cj4 (by assumption) | exact Mine.cj5 (by assumption) | exact Mine.cj6 (by assumption) | exact Mine.cj7 (by assumption) | exact Mine.cj8 (by assumption) | omega
      case l3 => exact allLt_mem (by (first | with_reducible assumption | exact Mine.al1 (by with_reducible assumption) | exact Mine.al2 (by with_reducible assumption) | exact Mine.al3 (by with_reducible assumption) | exact Mine.al4 (by with_reducible assumption) | exact Mine.al5 (by with_reducible assumption) | exact Mine.al6 (by with_reducible assumption) | exact Mine.al7 (by with_reducible assumption) | exact Mine.al8 (by with_reducible assumption))))
  · have hb : decide (tk0.worth = none ∧ tk0.txt = S.cps.toList) = false := decide_eq_false hm
    have hE' := hE hm
    have hSn : S.length ≤ 2 := by
      have hl : ∀ l ∈ lateL, l.length ≤ 2 := by decide
      have := hl _ hSl
      rwa [len_cps] at this
    clear hQ hgo hE
    obtain ⟨K, vv, tA, tB, rfl, hK⟩ := id ho
    k_steps
    all_goals (
      (with_reducible rename Fr _ _ _ _ => Fz)
      first
      | exact Fz
      | ((with_reducible rename SpotD _ _ => hsp9)
         (with_reducible rename News _ _ _ _ => Nz)
         exact leave_raiseT B' Fz Nz (by assumption) hsp9 fun h'' R U => hE' _ _ _ _ FG' R U))
theorem want_K {w : World} {mean : ExcName → Option Value} {mg mb : Str → Option Value} {dp un : Nat} {gd : Option (List Code)} {cn : Str} {cs : Scope} {a : Addr} {ccd : Value} {cl : List (Str × Addr)} {outer : List Env} {A₀ : Around} {base h₀ : Heap} {L : Addr} {m : Str → Option Value} {zh : Heap} {zg : Array GenState} {zd : Drawn} {zt : Nat} {zo : OsState} {Q E : Value → Shared → Prop} {news : List (Addr × Obj)} {gA : Obj → List (Addr × Obj)} {gB : Obj → Obj → List (Addr × Obj)} {rd dr sc dxs ah : Addr} {eh : RdH} {o : Obj} {tk0 tk1 : TokD} {ks : List TokD} {h1 h2 : Int} {t1 t2 : Tok} {Tx S : Str} {tT tks tS : Tok} {k : Nat}
    (B : Below A₀ base outer h₀) (F : Fr h₀ L zh m) (X : (Mine.top.heap_1 w.params).In h₀) (T : Top Mine.V loose mean mg mb h₀) (hk : cs.kind = .function) (hdp : dp + 50 < recursionLimit) (hun : un + 500 < cLine)
    (N : News h₀ L zh news) (hrd : (rd, instObj 446 dr) ∈ news) (hsc : (sc, instObj 285 dxs) ∈ news) (hah : (ah, o) ∈ news) (U1 : UpdF dr (rdD eh sc ah) news gA) (U2 : ∀ o, UpdF dxs (scD h1 h2 t1 t2 Tx tT (k : Int) tks) (gA o) (gB o)) (hdd : @Ne Nat dr dxs) (hne1 : @Ne Nat sc dxs) (hne2 : @Ne Nat sc dr) (hne3 : @Ne Nat rd dr) (hne4 : @Ne Nat rd dxs) (hne5 : @Ne Nat ah dr) (hne6 : @Ne Nat ah dxs)
    (ho : TokO tk0 o) (hSl : S.cps.toList ∈ lateL)
    (hk1 : (k : Int) ≤ Tx.length) (hT : Tx.length ≤ 20000)
    (hgo : tk0.worth = none ∧ tk0.txt = S.cps.toList → RestIs Tx k (tk1 :: ks))
    (hE : ¬ (tk0.worth = none ∧ tk0.txt = S.cps.toList) → OnT h₀ L m base (envX cn cs L a ccd cl :: outer) tk0.pos E ⟨zh, zg, zd, zt, zo⟩)
    (hQ : tk0.worth = none ∧ tk0.txt = S.cps.toList → ∀ td o tk2 h' tk' (kf : Nat), TokO tk1 o → RestIs Tx kf ks → (kf : Int) ≤ Tx.length → (∀ q ∈ gB (rdD eh sc td) (scD h1 h2 t1 t2 Tx tT (kf : Int) tk2), q.1 < td) → Fr h₀ L h' m → News h₀ L h' ((td, o) :: gB (rdD eh sc td) (scD h1 h2 t1 t2 Tx tT (kf : Int) tk2)) → Q .none ⟨h', zg, zd, tk', zo⟩) :
    wpAny (model prog w) (ktrTop dp un gd cn cs L a ccd cl outer) (call (.ref 324) [.ref rd, .str S tS]) Q E ⟨zh, zg, zd, zt, zo⟩ := by
  obtain ⟨rest, r1, r2, r3, r4, r5⟩ := canon2 U1 U2 hdd
  refine want_body B F X T hk hdp hun (newsSub N r1) (r5 _ hrd hne3 hne4) (r5 _ hsc hne2 hne1) (r5 _ hah hne5 hne6) r2 r3 hdd hne1 hne2 hne3 hne4 ho hSl hk1 hT hgo hE fun hm td o tk2 h' tk' kf e1 e2 e3 e4 e5 e6 F' N' => hQ hm td o tk2 h' tk' kf e1 e2 e3 (fun q hq => ?_) F' (newsSub N' fun q hq => ?_)
  · rcases List.mem_cons.mp (r4 _ _ _ hq) with rfl | hq
    · exact e4
    · rcases List.mem_cons.mp hq with rfl | hq
      · exact e5
      · exact e6 q hq
  · rcases List.mem_cons.mp hq with rfl | hq
    · exact .head _
    · exact .tail _ (r4 _ _ _ hq)
end Mine
namespace Mine
open PySem PySem.W PyProof.Rows PySem.Calls PyProof.V PySem.Spec PySem.NumText
set_option maxHeartbeats 2000000 in
theorem rdnum_body {w : World} {mean : ExcName → Option Value} {mg mb : Str → Option Value} {dp un : Nat} {gd : Option (List Code)} {cn : Str} {cs : Scope} {a : Addr} {ccd : Value} {cl : List (Str × Addr)} {outer : List Env} {A₀ : Around} {base h₀ : Heap} {L : Addr} {m : Str → Option Value} {zh : Heap} {zg : Array GenState} {zd : Drawn} {zt : Nat} {zo : OsState} {Q E : Value → Shared → Prop} {rd dr sc dxs ah : Addr} {eh : RdH} {o : Obj} {tk0 tk1 : TokD} {ks : List TokD} {h1 h2 : Int} {t1 t2 : Tok} {Tx : Str} {tT tks : Tok} {k : Nat} {rest : List (Addr × Obj)}
    (B : Below A₀ base outer h₀) (F : Fr h₀ L zh m) (X : (Mine.top.heap_1 w.params).In h₀) (T : Top Mine.V loose mean mg mb h₀) (hk : cs.kind = .function) (hdp : dp + 50 < recursionLimit) (hun : un + 500 < cLine)
    (N : News h₀ L zh ((dr, rdD eh sc ah) :: (dxs, scD h1 h2 t1 t2 Tx tT (k : Int) tks) :: rest)) (hrd : (rd, instObj 446 dr) ∈ rest) (hsc : (sc, instObj 285 dxs) ∈ rest) (hah : (ah, o) ∈ rest) (hoff1 : ∀ q ∈ rest, q.1 ≠ dr) (hoff2 : ∀ q ∈ rest, q.1 ≠ dxs) (hdd : @Ne Nat dr dxs) (hne1 : @Ne Nat sc dxs) (hne2 : @Ne Nat sc dr) (hne3 : @Ne Nat rd dr) (hne4 : @Ne Nat rd dxs)
    (ho : TokO tk0 o) 
    (hk1 : (k : Int) ≤ Tx.length) (hT : Tx.length ≤ 20000)
    (hgo : tk0.worth ≠ none → RestIs Tx k (tk1 :: ks))
    (hE : tk0.worth = none → OnT h₀ L m base (envX cn cs L a ccd cl :: outer) tk0.pos E ⟨zh, zg, zd, zt, zo⟩)
    (hQ : ∀ n, tk0.worth = some n → ∀ tn td o tk2 h' tk' (kf : Nat), TokO tk1 o → RestIs Tx kf ks → (kf : Int) ≤ Tx.length → dr < td → dxs < td → (∀ q ∈ rest, q.1 < td) → Fr h₀ L h' m → News h₀ L h' ((td, o) :: (dr, rdD eh sc td) :: (dxs, scD h1 h2 t1 t2 Tx tT (kf : Int) tk2) :: rest) → Q (.int n tn) ⟨h', zg, zd, tk', zo⟩) :
    wpAny (model prog w) (ktrTop dp un gd cn cs L a ccd cl outer) (call (.ref 331) [.ref rd]) Q E ⟨zh, zg, zd, zt, zo⟩ := by
  refine wpAny_call ?_
  k_dflt (refine' code_def (binds := [(Str.ofString "self", .ref rd)]) ?k1 ?k2 ?k3 ?k4 ?k5 ?kA ?kF ?kK ?k6 ?k7 ?k8 ?k9 ?kB ?_ ?c2 ?c3 ?c4 ?c5; (case kA => exact rfl); (case kF => exact rfl); (case kK => assumption); (case k1 => k_asm); (case k2 => k_asm); (case k3 => k_asm); (case k4 => k_asm); (case k5 => k_asm); (case k6 => k_is); (case k7 => k_is); (case k8 => ktr_room); (case k9 => exact BindsTo.of_eq rfl); (case c5 => decide); (case kB => exact locs rfl); (case c2 => exact rfl); (case c3 => exact rfl); (case c4 => exact rfl); k_whole; intro g' L' h' FG' F' N' B' X' T'; (try dsimp only); (try k_fold); (show let Ab : PySem.Around := ktrTop dp un gd cn cs L a ccd cl outer; let ev : PySem.Env := _; let Ac : PySem.Around := PySem.Around.deeper Ab ev; wpAny _ Ac (PySem.execs _ ev) _ _ _); intro Ab ev Ac; (replace hdp : PySem.Around.depth Ab + _ < _ := hdp); (replace hun : PySem.Around.units Ab + _ < _ := hun))
  obtain ⟨K, vv, tA, tB, rfl, hK⟩ := id ho
  rcases hK with ⟨n, tn, hw, rfl, rfl⟩ | ⟨hw, y, ty, rfl, hy, hK⟩
  · have hR := hgo (by rw [hw]; exact fun z => nomatch z)
    have hQ' := hQ n hw
    clear hQ hgo hE
    k_steps
    all_goals (
      (with_reducible rename Fr _ _ _ _ => Fz)
      (with_reducible rename News _ _ _ _ => Nz)
      refine' hQ' _ _ _ _ _ _ _ (by assumption) (by assumption) (by assumption) ?l1 ?l2 ?l3 Fz (newsSub Nz (three_sub ?m1 ?m2 ?m3 fun q hq => ?m4))
      case m1 => k_mem
      case m2 => k_mem
      case m3 => k_mem
      case m4 => k_mem
      case l1 => first | assumption | exact Mine.cj1 (by assumption) | exact Mine.cj2 (by assumption) | exact Mine.cj3 (by assumption) | exact Mine.cj4 (by assumption) | exact Mine.cj5 (by assumption) | exact Mine.cj6 (by assumption) | exact Mine.cj7 (by assumption) | exact Mine.cj8 (by assumption) | omega
      case l2 => first | assumption | exact Mine.cj1 (by assumption) | exact Mine.cj2 (by assumption) | exact Mine.cj3 (by assumption) | exact Mine.cj4 (by assumption) | exact Mine.cj5 (by assumption) | exact Mine.cj6 (by assumption) | exact Mine.cj7 (by assumption) | exact Mine.cj8 (by assumption) | omega
      case l3 => exact allLt_mem (by (first | with_reducible assumption | exact Mine.al1 (by with_reducible assumption) | exact Mine.al2 (by with_reducible assumption) | exact Mine.al3 (by with_reducible assumption) | exact Mine.al4 (by with_reducible assumption) | exact Mine.al5 (by with_reducible assumption) | exact Mine.al6 (by with_reducible assumption) | exact Mine.al7 (by with_reducible assumption) | exact Mine.al8 (by with_reducible assumption))))
  · have hE' := hE hw
    clear hQ hgo hE
    rcases hK with ⟨hx, rfl⟩ | ⟨hx, rfl⟩ | ⟨hx, rfl⟩
    all_goals k_steps
    all_goals (
      (with_reducible rename Fr _ _ _ _ => Fz)
      first
      | exact Fz
      | ((with_reducible rename SpotD _ _ => hsp9)
         (with_reducible rename News _ _ _ _ => Nz)
         exact leave_raiseT B' Fz Nz (by assumption) hsp9 fun h'' R U => hE' _ _ _ _ FG' R U))
end Mine
namespace Mine
open PySem PySem.W PyProof.Rows PySem.Calls PyProof.V PySem.Spec PySem.NumText
theorem OnT.up {M : Model} {A : Around} {E : Value → Shared → Prop} {zh : Heap} {zg : Array GenState} {zd : Drawn} {zt : Nat} {zo : OsState} {s₂ : Shared} {base h₀ g' : Heap} {outerC : List Env} {L L' a : Addr} {m m' : Str → Option Value} {name : Str} {scope : Scope} {cd : Value} {sp : Int}
    (K : Below A base outerC g') (FG : Fr h₀ L g' m) (hE : OnT h₀ L m base outerC sp E ⟨zh, zg, zd, zt, zo⟩) (hs : ∀ h' tk', ({ s₂ with heap := h', toks := tk' } : Shared) = ⟨h', zg, zd, tk', zo⟩) :
    OnT g' L' m' base (envOf name scope L' a cd :: outerC) sp (fun e s' => wpAny M (A.deeper (envOf name scope L' a cd)) (leaving (envOf name scope L' a cd) e) (fun _ s'' => E e s'') (fun e' s'' => E e' s'') s') s₂ := by
  intro g e h' tk' F2 R U
  refine leave_onT K F2 R U fun h'' R' U' => ?_
  have := hE g' e h'' tk' FG R' U'
  rw [← hs] at this
  exact this
theorem rdnum_ok {w : World} {mean : ExcName → Option Value} {mg mb : Str → Option Value} {dp un : Nat} {gd : Option (List Code)} {cn : Str} {cs : Scope} {a : Addr} {ccd : Value} {cl : List (Str × Addr)} {outer : List Env} {A₀ : Around} {base h₀ : Heap} {L : Addr} {m : Str → Option Value} {zh : Heap} {zg : Array GenState} {zd : Drawn} {zt : Nat} {zo : OsState} {Q E : Value → Shared → Prop} {news : List (Addr × Obj)} {gA : Obj → List (Addr × Obj)} {gB : Obj → Obj → List (Addr × Obj)} {rd dr sc dxs ah : Addr} {eh : RdH} {o : Obj} {tk0 tk1 : TokD} {ks : List TokD} {h1 h2 n : Int} {t1 t2 : Tok} {Tx : Str} {tT tks : Tok} {k : Nat}
    (B : Below A₀ base outer h₀) (F : Fr h₀ L zh m) (X : (Mine.top.heap_1 w.params).In h₀) (T : Top Mine.V loose mean mg mb h₀) (hk : cs.kind = .function) (hdp : dp + 50 < recursionLimit) (hun : un + 500 < cLine)
    (N : News h₀ L zh news) (hrd : (rd, instObj 446 dr) ∈ news) (hsc : (sc, instObj 285 dxs) ∈ news) (hah : (ah, o) ∈ news) (U1 : UpdF dr (rdD eh sc ah) news gA) (U2 : ∀ o, UpdF dxs (scD h1 h2 t1 t2 Tx tT (k : Int) tks) (gA o) (gB o)) (hdd : @Ne Nat dr dxs) (hne1 : @Ne Nat sc dxs) (hne2 : @Ne Nat sc dr) (hne3 : @Ne Nat rd dr) (hne4 : @Ne Nat rd dxs) (hne5 : @Ne Nat ah dr) (hne6 : @Ne Nat ah dxs)
    (ho : TokO tk0 o) (hw : tk0.worth = some n)
    (hk1 : (k : Int) ≤ Tx.length) (hT : Tx.length ≤ 20000) (hR : RestIs Tx k (tk1 :: ks))
    (hQ : ∀ tn td o tk2 h' tk' (kf : Nat), TokO tk1 o → RestIs Tx kf ks → (kf : Int) ≤ Tx.length → (∀ q ∈ gB (rdD eh sc td) (scD h1 h2 t1 t2 Tx tT (kf : Int) tk2), q.1 < td) → Fr h₀ L h' m → News h₀ L h' ((td, o) :: gB (rdD eh sc td) (scD h1 h2 t1 t2 Tx tT (kf : Int) tk2)) → Q (.int n tn) ⟨h', zg, zd, tk', zo⟩) :
    wpAny (model prog w) (ktrTop dp un gd cn cs L a ccd cl outer) (call (.ref 331) [.ref rd]) Q E ⟨zh, zg, zd, zt, zo⟩ := by
  obtain ⟨rest, r1, r2, r3, r4, r5⟩ := canon2 U1 U2 hdd
  refine rdnum_body B F X T hk hdp hun (newsSub N r1) (r5 _ hrd hne3 hne4) (r5 _ hsc hne2 hne1) (r5 _ hah hne5 hne6) r2 r3 hdd hne1 hne2 hne3 hne4 ho hk1 hT (fun _ => hR) (fun z => by rw [hw] at z; cases z) fun n' hn tn td o tk2 h' tk' kf e1 e2 e3 e4 e5 e6 F' N' => ?_
  obtain rfl : n = n' := by rw [hw] at hn; exact Option.some.inj hn
  refine hQ tn td o tk2 h' tk' kf e1 e2 e3 (fun q hq => ?_) F' (newsSub N' fun q hq => ?_)
  · rcases List.mem_cons.mp (r4 _ _ _ hq) with rfl | hq
    · exact e4
    · rcases List.mem_cons.mp hq with rfl | hq
      · exact e5
      · exact e6 q hq
  · rcases List.mem_cons.mp hq with rfl | hq
    · exact .head _
    · exact .tail _ (r4 _ _ _ hq)
theorem rdnum_no {w : World} {mean : ExcName → Option Value} {mg mb : Str → Option Value} {dp un : Nat} {gd : Option (List Code)} {cn : Str} {cs : Scope} {a : Addr} {ccd : Value} {cl : List (Str × Addr)} {outer : List Env} {A₀ : Around} {base h₀ : Heap} {L : Addr} {m : Str → Option Value} {zh : Heap} {zg : Array GenState} {zd : Drawn} {zt : Nat} {zo : OsState} {Q E : Value → Shared → Prop} {news : List (Addr × Obj)} {gA : Obj → List (Addr × Obj)} {gB : Obj → Obj → List (Addr × Obj)} {rd dr sc dxs ah : Addr} {eh : RdH} {o : Obj} {tk0 : TokD} {h1 h2 : Int} {t1 t2 : Tok} {Tx : Str} {tT tks : Tok} {k : Nat}
    (B : Below A₀ base outer h₀) (F : Fr h₀ L zh m) (X : (Mine.top.heap_1 w.params).In h₀) (T : Top Mine.V loose mean mg mb h₀) (hk : cs.kind = .function) (hdp : dp + 50 < recursionLimit) (hun : un + 500 < cLine)
    (N : News h₀ L zh news) (hrd : (rd, instObj 446 dr) ∈ news) (hsc : (sc, instObj 285 dxs) ∈ news) (hah : (ah, o) ∈ news) (U1 : UpdF dr (rdD eh sc ah) news gA) (U2 : ∀ o, UpdF dxs (scD h1 h2 t1 t2 Tx tT (k : Int) tks) (gA o) (gB o)) (hdd : @Ne Nat dr dxs) (hne1 : @Ne Nat sc dxs) (hne2 : @Ne Nat sc dr) (hne3 : @Ne Nat rd dr) (hne4 : @Ne Nat rd dxs) (hne5 : @Ne Nat ah dr) (hne6 : @Ne Nat ah dxs)
    (ho : TokO tk0 o) (hw : tk0.worth = none)
    (hk1 : (k : Int) ≤ Tx.length) (hT : Tx.length ≤ 20000)
    (hE : OnT h₀ L m base (envX cn cs L a ccd cl :: outer) tk0.pos E ⟨zh, zg, zd, zt, zo⟩) :
    wpAny (model prog w) (ktrTop dp un gd cn cs L a ccd cl outer) (call (.ref 331) [.ref rd]) Q E ⟨zh, zg, zd, zt, zo⟩ := by
  obtain ⟨rest, r1, r2, r3, r4, r5⟩ := canon2 U1 U2 hdd
  exact rdnum_body (tk1 := tk0) (ks := []) B F X T hk hdp hun (newsSub N r1) (r5 _ hrd hne3 hne4) (r5 _ hsc hne2 hne1) (r5 _ hah hne5 hne6) r2 r3 hdd hne1 hne2 hne3 hne4 ho hk1 hT (fun z => absurd hw z) (fun _ => hE) fun n' hn => by rw [hw] at hn; cases hn
theorem want_ok {w : World} {mean : ExcName → Option Value} {mg mb : Str → Option Value} {dp un : Nat} {gd : Option (List Code)} {cn : Str} {cs : Scope} {a : Addr} {ccd : Value} {cl : List (Str × Addr)} {outer : List Env} {A₀ : Around} {base h₀ : Heap} {L : Addr} {m : Str → Option Value} {zh : Heap} {zg : Array GenState} {zd : Drawn} {zt : Nat} {zo : OsState} {Q E : Value → Shared → Prop} {news : List (Addr × Obj)} {gA : Obj → List (Addr × Obj)} {gB : Obj → Obj → List (Addr × Obj)} {rd dr sc dxs ah : Addr} {eh : RdH} {o : Obj} {tk0 tk1 : TokD} {ks : List TokD} {h1 h2 : Int} {t1 t2 : Tok} {Tx S : Str} {tT tks tS : Tok} {k : Nat}
    (B : Below A₀ base outer h₀) (F : Fr h₀ L zh m) (X : (Mine.top.heap_1 w.params).In h₀) (T : Top Mine.V loose mean mg mb h₀) (hk : cs.kind = .function) (hdp : dp + 50 < recursionLimit) (hun : un + 500 < cLine)
    (N : News h₀ L zh news) (hrd : (rd, instObj 446 dr) ∈ news) (hsc : (sc, instObj 285 dxs) ∈ news) (hah : (ah, o) ∈ news) (U1 : UpdF dr (rdD eh sc ah) news gA) (U2 : ∀ o, UpdF dxs (scD h1 h2 t1 t2 Tx tT (k : Int) tks) (gA o) (gB o)) (hdd : @Ne Nat dr dxs) (hne1 : @Ne Nat sc dxs) (hne2 : @Ne Nat sc dr) (hne3 : @Ne Nat rd dr) (hne4 : @Ne Nat rd dxs) (hne5 : @Ne Nat ah dr) (hne6 : @Ne Nat ah dxs)
    (ho : TokO tk0 o) (hSl : S.cps.toList ∈ lateL) (hm : IsS tk0 S)
    (hk1 : (k : Int) ≤ Tx.length) (hT : Tx.length ≤ 20000) (hR : RestIs Tx k (tk1 :: ks))
    (hQ : ∀ td o tk2 h' tk' (kf : Nat), TokO tk1 o → RestIs Tx kf ks → (kf : Int) ≤ Tx.length → (∀ q ∈ gB (rdD eh sc td) (scD h1 h2 t1 t2 Tx tT (kf : Int) tk2), q.1 < td) → Fr h₀ L h' m → News h₀ L h' ((td, o) :: gB (rdD eh sc td) (scD h1 h2 t1 t2 Tx tT (kf : Int) tk2)) → Q .none ⟨h', zg, zd, tk', zo⟩) :
    wpAny (model prog w) (ktrTop dp un gd cn cs L a ccd cl outer) (call (.ref 324) [.ref rd, .str S tS]) Q E ⟨zh, zg, zd, zt, zo⟩ :=
  want_K B F X T hk hdp hun N hrd hsc hah U1 U2 hdd hne1 hne2 hne3 hne4 hne5 hne6 ho hSl hk1 hT (fun _ => hR) (fun z => absurd hm z) fun _ => hQ
theorem want_no {w : World} {mean : ExcName → Option Value} {mg mb : Str → Option Value} {dp un : Nat} {gd : Option (List Code)} {cn : Str} {cs : Scope} {a : Addr} {ccd : Value} {cl : List (Str × Addr)} {outer : List Env} {A₀ : Around} {base h₀ : Heap} {L : Addr} {m : Str → Option Value} {zh : Heap} {zg : Array GenState} {zd : Drawn} {zt : Nat} {zo : OsState} {Q E : Value → Shared → Prop} {news : List (Addr × Obj)} {gA : Obj → List (Addr × Obj)} {gB : Obj → Obj → List (Addr × Obj)} {rd dr sc dxs ah : Addr} {eh : RdH} {o : Obj} {tk0 : TokD} {h1 h2 : Int} {t1 t2 : Tok} {Tx S : Str} {tT tks tS : Tok} {k : Nat}
    (B : Below A₀ base outer h₀) (F : Fr h₀ L zh m) (X : (Mine.top.heap_1 w.params).In h₀) (T : Top Mine.V loose mean mg mb h₀) (hk : cs.kind = .function) (hdp : dp + 50 < recursionLimit) (hun : un + 500 < cLine)
    (N : News h₀ L zh news) (hrd : (rd, instObj 446 dr) ∈ news) (hsc : (sc, instObj 285 dxs) ∈ news) (hah : (ah, o) ∈ news) (U1 : UpdF dr (rdD eh sc ah) news gA) (U2 : ∀ o, UpdF dxs (scD h1 h2 t1 t2 Tx tT (k : Int) tks) (gA o) (gB o)) (hdd : @Ne Nat dr dxs) (hne1 : @Ne Nat sc dxs) (hne2 : @Ne Nat sc dr) (hne3 : @Ne Nat rd dr) (hne4 : @Ne Nat rd dxs) (hne5 : @Ne Nat ah dr) (hne6 : @Ne Nat ah dxs)
    (ho : TokO tk0 o) (hSl : S.cps.toList ∈ lateL) (hm : ¬ IsS tk0 S)
    (hk1 : (k : Int) ≤ Tx.length) (hT : Tx.length ≤ 20000)
    (hE : OnT h₀ L m base (envX cn cs L a ccd cl :: outer) tk0.pos E ⟨zh, zg, zd, zt, zo⟩) :
    wpAny (model prog w) (ktrTop dp un gd cn cs L a ccd cl outer) (call (.ref 324) [.ref rd, .str S tS]) Q E ⟨zh, zg, zd, zt, zo⟩ :=
  want_K (tk1 := tk0) (ks := []) B F X T hk hdp hun N hrd hsc hah U1 U2 hdd hne1 hne2 hne3 hne4 hne5 hne6 ho hSl hk1 hT (fun z => absurd z hm) (fun _ => hE) fun z => absurd z hm
theorem four_sub {l rest : List (Addr × Obj)} {x y z u : Addr × Obj} (m1 : x ∈ l) (m2 : y ∈ l) (m3 : z ∈ l) (m4 : u ∈ l) (m5 : ∀ q ∈ rest, q ∈ l) : ∀ q ∈ x :: y :: z :: u :: rest, q ∈ l := by
  intro q hq
  rcases List.mem_cons.mp hq with rfl | hq
  · exact m1
  · exact three_sub m2 m3 m4 m5 q hq
inductive TokL : List TokD → Prop
  | fin {off : Nat} : TokL [⟨none, [], off⟩]
  | cons {w : Option Int} {x : List Nat} {p : Nat} {ks : List TokD} : RowD w x → TokL ks → TokL (⟨w, x, p⟩ :: ks)
theorem Sfx.tokL {b : Bool} {t : List Nat} {off : Nat} {ks : List TokD} (h : Sfx b t off ks) : TokL ks := by
  induction h with
  | fin => exact .fin
  | cons _ hr _ _ ih => exact .cons hr ih
theorem TokL.num {t : TokD} {r : List TokD} {n : Int} (h : TokL (t :: r)) (hw : t.worth = some n) : TokL r ∧ ∃ t1 r1, r = t1 :: r1 := by
  cases h with
  | fin => cases hw
  | cons _ h => exact ⟨h, by cases h <;> exact ⟨_, _, rfl⟩⟩
theorem TokL.sign {t : TokD} {r : List TokD} {S : Str} (h : TokL (t :: r)) (hm : IsS t S) (hS : S.cps.toList ∈ lateL) : TokL r ∧ ∃ t1 r1, r = t1 :: r1 := by
  cases h with
  | fin =>
    have := hm.2
    rw [← this] at hS
    exact absurd (show ([] : List Nat) ∈ lateL from hS) (by decide)
  | cons _ h => exact ⟨h, by cases h <;> exact ⟨_, _, rfl⟩⟩
/-- what a stretch tells -/
inductive StrR (last : Option Int) : List TokD → Except Nat (Int × Int × List TokD) → Prop
  | noLow {t r} : t.worth = none → StrR last (t :: r) (.error t.pos)
  | noDots {t t1 r lo} : t.worth = some lo → ¬ IsS t1 (Str.ofString "..") → StrR last (t :: t1 :: r) (.error t1.pos)
  | noHigh {t t1 t2 r lo} : t.worth = some lo → IsS t1 (Str.ofString "..") → t2.worth = none → StrR last (t :: t1 :: t2 :: r) (.error t2.pos)
  | bad {t t1 t2 r lo hi} : t.worth = some lo → IsS t1 (Str.ofString "..") → t2.worth = some hi → (hi < lo ∨ ∃ l, last = some l ∧ lo ≤ l + 1) → StrR last (t :: t1 :: t2 :: r) (.error t.pos)
  | good {t t1 t2 r lo hi} : t.worth = some lo → IsS t1 (Str.ofString "..") → t2.worth = some hi → ¬ (hi < lo ∨ ∃ l, last = some l ∧ lo ≤ l + 1) → StrR last (t :: t1 :: t2 :: r) (.ok (lo, hi, r))
end Mine
theorem Mine.rw_P28_stretch : True := by
  k_with_none
  (k_with "subscriptTail" => (k_here; (fail_if_success fail_if_success with_reducible show wpAny _ _ (subscriptTail _ _ (Value.ref _) (Value.str _ _)) _ _ _); k_dflt (refine' Mine.d_get ?zzN ?zzm ?zzo ?zzf ?_; (case zzN => k_asm); (case zzm => k_mem); (case zzo => with_reducible assumption); (case zzf => exact rfl); k_whole)))
  (k_with "setItem ref str" => (k_here; (fail_if_success fail_if_success with_reducible show wpAny _ _ (setItem (Value.ref _) (Value.str _ _) _) _ _ _); k_dflt (refine' Mine.d_set ?zzF ?zzN ?zzU ?zzo ?_ ?zzz; (case zzF => k_asm); (case zzN => k_asm); (case zzU => k_updF); (case zzo => with_reducible assumption); (case zzz => exact Nat.le_of_ble_eq_true rfl)); intro _ _ _ _ _; (try k_sweep)))
  (k_with "call builtin:len" => (k_here; (fail_if_success fail_if_success with_reducible show wpAny _ _ (call (Value.builtin "len") [Value.ref _]) _ _ _); k_dflt (refine' Mine.len_L ?zzN ?zzm ?zzb ?_; (case zzN => k_asm); (case zzm => k_mem); (case zzb => omega); k_whole)))
  (k_with "subscriptTail" => (k_here; (fail_if_success fail_if_success with_reducible show wpAny _ _ (subscriptTail _ _ (Value.ref _) (Value.int _ _)) _ _ _); k_dflt (refine' Mine.item_L ?zzN ?zzm ?zza ?zzb ?zzc ?_; (case zzN => k_asm); (case zzm => k_mem); (case zza => omega); (case zzb => omega); (case zzc => omega); k_whole); intro _ _))
  (k_with "subscriptTail" => (k_here; (fail_if_success fail_if_success with_reducible show wpAny _ _ (subscriptTail _ _ (Value.ref _) (Value.int _ _)) _ _ _); k_dflt (refine' Mine.item_LI ?zzN ?zzm ?zzi ?zza ?zzb ?zzc ?_; (case zzN => k_asm); (case zzm => k_mem); (case zzi => with_reducible assumption); (case zza => omega); (case zzb => omega); (case zzc => omega); k_whole); intro _ _))
  (k_with "ite" => first | with_reducible refine PyProof.Rows.ite_tt ?_ | with_reducible refine PyProof.Rows.ite_ff ?_)
  (k_with "execs cons" => (k_here; (try k_gentoks); (with_reducible refine wpAny_execs_cons ?_); (try dsimp only); k_fold))
  (k_with "eval Constant int" => (with_reducible refine Mine.constI ?_))
  (k_with "eval Constant str" => (with_reducible refine Mine.constS ?_))
  (k_with "binaryOp Add int int" => (with_reducible refine Mine.addI ?_))
  (k_with "subscriptTail" => (k_here; (fail_if_success fail_if_success with_reducible show wpAny _ _ (subscriptTail _ (Expr.Slice (some _) (some _) none _) (Value.str _ _) (Value.ref _)) _ _ _); k_dflt (refine' Mine.str_slice (s := ⟨_, _, _, _, _⟩) ?zzF ?zzN ?zza ?zzb ?zzc ?zzd ?_ ?zzs ?zzt; (case zzF => k_asm); (case zzN => k_asm); (case zza => omega); (case zzb => omega); (case zzc => omega); (case zzd => omega); (case zzs => with_unfolding_all rfl); (case zzt => kmk_pure)); intro _ _ _ _ _ _ _; (try k_sweep)))
  (k_with "subscriptTail" => (k_here; (fail_if_success fail_if_success with_reducible show wpAny _ _ (subscriptTail _ _ (Value.str _ _) (Value.int _ _)) _ _ _); k_dflt (refine' Mine.str_item ?zza ?zzb ?zzc ?_; (case zza => omega); (case zzb => omega); (case zzc => omega)); intro _ _ _ _))
  (k_with "compareOp In str str" => (k_here; (fail_if_success fail_if_success with_reducible show wpAny _ _ (compareOp CmpOp.In (Value.str _ _) (Value.str _ _)) _ _ _); (refine Mine.str_in (by with_reducible assumption) ?_); intro _ _))
  (k_with "exec While Compare cons nil" => (refine Mine.stop_intro ?_))
  (k_with "exec While BoolOp cons nil" => (refine Mine.stop_intro ?_))
  (k_with "exec While UnaryOp cons nil" => (refine Mine.stop_intro ?_))
  (k_with "exec While Constant cons nil" => (refine Mine.stop_intro ?_))
  (k_with "exec While" => (refine Mine.stop_intro ?_))
  (k_with "call" => ((fail_if_success fail_if_success with_reducible show wpAny _ _ (call (Prod.fst _) _) _ _ _); dsimp only [List.cons_append, List.nil_append, List.append_nil]))
  (k_with "exec Raise some none" => (k_here; (fail_if_success fail_if_success with_reducible show wpAny _ _ (exec (Stmt.Raise (some (PySem.Expr.Call (PySem.Expr.Name _ _) (_ :: _) [] _)) none _) _) _ _ _); k_dflt (refine' Mine.raise_TK ?zzB ?zzF ?zzX ?zzT ?zzhk ?zzhd ?zzhu ?_ ?zzhe ?zzhp ?zzhx; (case zzB => k_asm); (case zzF => k_asm); (case zzX => k_asm); (case zzT => k_asm); (case zzhk => first | exact rfl | assumption); (case zzhd => ktr_room); (case zzhu => ktr_units); (case zzhe => exact rfl); (case zzhp => exact rfl); (case zzhx => exact rfl))))
  (k_with "call ref" => (k_here; (fail_if_success fail_if_success with_reducible show wpAny _ _ (call (Value.ref 317) [Value.ref _, Value.str _ _]) _ _ _); k_dflt (refine' Mine.issign_K ?zzB ?zzF ?zzX ?zzT ?zzhk ?zzhd ?zzhu ?zzN ?zzrd ?zzdr ?zzah ?zzo ?zzS ?_; (case zzB => k_asm); (case zzF => k_asm); (case zzX => k_asm); (case zzT => k_asm); (case zzhk => first | exact rfl | assumption); (case zzN => k_asm); (case zzrd => k_mem); (case zzdr => k_mem); (case zzah => k_mem); (case zzo => with_reducible assumption); (case zzS => first | with_reducible assumption | decide +kernel); (case zzhd => ktr_room); (case zzhu => ktr_units)); intro _ _ _ _; (try dsimp only); (try k_fold); (try k_sweep)))
  (k_with "call ref" => (k_here; (fail_if_success fail_if_success with_reducible show wpAny _ _ (call (Value.ref 310) [Value.ref _]) _ _ _); k_dflt (refine' Mine.take_K ?zzB ?zzF ?zzX ?zzT ?zzhk ?zzhd ?zzhu ?zzN ?zzrd ?zzsc ?zzU1 ?zzU2 ?zzdd ?zzn1 ?zzn2 ?zzn3 ?zzn4 ?zzk1 ?zzhT ?zzS ?_; (case zzB => k_asm); (case zzF => k_asm); (case zzX => k_asm); (case zzT => k_asm); (case zzhk => first | exact rfl | assumption); (case zzN => k_asm); (case zzrd => k_mem); (case zzsc => k_mem); (case zzU1 => k_updF); (case zzU2 => (intro _; (try dsimp only); k_updF)); (case zzdd => k_ne); (case zzn1 => k_ne); (case zzn2 => k_ne); (case zzn3 => k_ne); (case zzn4 => k_ne); (case zzS => with_reducible assumption); (case zzk1 => omega); (case zzhT => omega); (case zzhd => ktr_room); (case zzhu => ktr_units)); intro _ _ _ _ _ _ _ _ _ l1 _ N9; (try dsimp only at N9 l1); (try k_lt l1); (try dsimp only); (try k_fold); (try k_sweep)))
  (k_with "formatField str" => (k_here; (fail_if_success fail_if_success with_reducible show wpAny _ _ (formatField (Value.str _ _) _) _ _ _); (refine' formatField_str ?zzh ?zzz; (case zzz => (rw [sizeLine_eq]; omega))); intro _ _; (try dsimp only)))
  (k_with "And" => (refine ⟨Mine.len_fit (by simp only [Str.length_append, Mine.len_empty, Mine.len_wanted, Mine.len_lit1, Mine.len_lit2, Mine.len_lit3, Mine.len_lit4, Mine.len_lit5]; omega), ?_⟩))
  (k_with "call ref" => (k_here; (fail_if_success fail_if_success with_reducible show wpAny _ _ (call (Value.ref 331) [Value.ref _]) _ _ _); k_dflt (refine' Mine.rdnum_no ?zzB ?zzF ?zzX ?zzT ?zzhk ?zzhd ?zzhu ?zzN ?zzrd ?zzsc ?zzah ?zzU1 ?zzU2 ?zzdd ?zzn1 ?zzn2 ?zzn3 ?zzn4 ?zzn5 ?zzn6 ?zzho ?zzhw ?zzk1 ?zzhT ?zzE; (case zzB => k_asm); (case zzF => k_asm); (case zzX => k_asm); (case zzT => k_asm); (case zzhk => first | exact rfl | assumption); (case zzN => k_asm); (case zzrd => k_mem); (case zzsc => k_mem); (case zzU1 => k_updF); (case zzU2 => (intro _; (try dsimp only); k_updF)); (case zzho => with_reducible assumption); (case zzah => k_mem); (case zzhw => with_reducible assumption); (case zzE => (refine' Mine.OnT.up ?zzEB ?zzEF ?zzEE ?zzEs; (case zzEE => with_reducible assumption); (case zzEF => k_asm); (case zzEB => k_asm); (case zzEs => intro _ _; rfl))); (case zzdd => k_ne); (case zzn1 => k_ne); (case zzn2 => k_ne); (case zzn3 => k_ne); (case zzn4 => k_ne); (case zzn5 => k_ne); (case zzn6 => k_ne); (case zzk1 => omega); (case zzhT => omega); (case zzhd => ktr_room); (case zzhu => ktr_units))))
  (k_with "call ref" => (k_here; (fail_if_success fail_if_success with_reducible show wpAny _ _ (call (Value.ref 331) [Value.ref _]) _ _ _); k_dflt (refine' Mine.rdnum_ok ?zzB ?zzF ?zzX ?zzT ?zzhk ?zzhd ?zzhu ?zzN ?zzrd ?zzsc ?zzah ?zzU1 ?zzU2 ?zzdd ?zzn1 ?zzn2 ?zzn3 ?zzn4 ?zzn5 ?zzn6 ?zzho ?zzhw ?zzk1 ?zzhT ?zzR ?_; (case zzB => k_asm); (case zzF => k_asm); (case zzX => k_asm); (case zzT => k_asm); (case zzhk => first | exact rfl | assumption); (case zzN => k_asm); (case zzrd => k_mem); (case zzsc => k_mem); (case zzU1 => k_updF); (case zzU2 => (intro _; (try dsimp only); k_updF)); (case zzho => with_reducible assumption); (case zzah => k_mem); (case zzhw => with_reducible assumption); (case zzR => with_reducible assumption); (case zzdd => k_ne); (case zzn1 => k_ne); (case zzn2 => k_ne); (case zzn3 => k_ne); (case zzn4 => k_ne); (case zzn5 => k_ne); (case zzn6 => k_ne); (case zzk1 => omega); (case zzhT => omega); (case zzhd => ktr_room); (case zzhu => ktr_units)); intro _; intro _ _ _ _ _ _ _ _ _ l1 _ N9; (try dsimp only at N9 l1); (try k_lt l1); (try dsimp only); (try k_fold); (try k_sweep)))
  (k_with "call ref" => (k_here; (fail_if_success fail_if_success with_reducible show wpAny _ _ (call (Value.ref 324) [Value.ref _, Value.str _ _]) _ _ _); k_dflt (refine' Mine.want_no ?zzB ?zzF ?zzX ?zzT ?zzhk ?zzhd ?zzhu ?zzN ?zzrd ?zzsc ?zzah ?zzU1 ?zzU2 ?zzdd ?zzn1 ?zzn2 ?zzn3 ?zzn4 ?zzn5 ?zzn6 ?zzho ?zzS ?zzhm ?zzk1 ?zzhT ?zzE; (case zzB => k_asm); (case zzF => k_asm); (case zzX => k_asm); (case zzT => k_asm); (case zzhk => first | exact rfl | assumption); (case zzN => k_asm); (case zzrd => k_mem); (case zzsc => k_mem); (case zzU1 => k_updF); (case zzU2 => (intro _; (try dsimp only); k_updF)); (case zzho => with_reducible assumption); (case zzah => k_mem); (case zzS => decide +kernel); (case zzhm => with_reducible assumption); (case zzE => (refine' Mine.OnT.up ?zzEB ?zzEF ?zzEE ?zzEs; (case zzEE => with_reducible assumption); (case zzEF => k_asm); (case zzEB => k_asm); (case zzEs => intro _ _; rfl))); (case zzdd => k_ne); (case zzn1 => k_ne); (case zzn2 => k_ne); (case zzn3 => k_ne); (case zzn4 => k_ne); (case zzn5 => k_ne); (case zzn6 => k_ne); (case zzk1 => omega); (case zzhT => omega); (case zzhd => ktr_room); (case zzhu => ktr_units))))
  (k_with "call ref" => (k_here; (fail_if_success fail_if_success with_reducible show wpAny _ _ (call (Value.ref 324) [Value.ref _, Value.str _ _]) _ _ _); k_dflt (refine' Mine.want_ok ?zzB ?zzF ?zzX ?zzT ?zzhk ?zzhd ?zzhu ?zzN ?zzrd ?zzsc ?zzah ?zzU1 ?zzU2 ?zzdd ?zzn1 ?zzn2 ?zzn3 ?zzn4 ?zzn5 ?zzn6 ?zzho ?zzS ?zzhm ?zzk1 ?zzhT ?zzR ?_; (case zzB => k_asm); (case zzF => k_asm); (case zzX => k_asm); (case zzT => k_asm); (case zzhk => first | exact rfl | assumption); (case zzN => k_asm); (case zzrd => k_mem); (case zzsc => k_mem); (case zzU1 => k_updF); (case zzU2 => (intro _; (try dsimp only); k_updF)); (case zzho => with_reducible assumption); (case zzah => k_mem); (case zzS => decide +kernel); (case zzhm => with_reducible assumption); (case zzR => with_reducible assumption); (case zzdd => k_ne); (case zzn1 => k_ne); (case zzn2 => k_ne); (case zzn3 => k_ne); (case zzn4 => k_ne); (case zzn5 => k_ne); (case zzn6 => k_ne); (case zzk1 => omega); (case zzhT => omega); (case zzhd => ktr_room); (case zzhu => ktr_units)); intro _ _ _ _ _ _ _ _ _ l1 _ N9; (try dsimp only at N9 l1); (try k_lt l1); (try dsimp only); (try k_fold); (try k_sweep)))
  (k_with "exec If BoolOp" => (refine Mine.stop_intro ?_))
  trivial
namespace Mine
open PySem PySem.W PyProof.Rows PySem.Calls PyProof.V PySem.Spec PySem.NumText
def LastIs (last : Option Int) (v : Value) : Prop := (last = none ∧ v = .none) ∨ ∃ l t, last = some l ∧ v = .int l t
set_option maxHeartbeats 2000000 in
theorem str_noLow {w : World} {mean : ExcName → Option Value} {mg mb : Str → Option Value} {dp un : Nat} {gd : Option (List Code)} {cn : Str} {cs : Scope} {a : Addr} {ccd : Value} {cl : List (Str × Addr)} {outer : List Env} {A₀ : Around} {base h₀ : Heap} {L : Addr} {m : Str → Option Value} {zh : Heap} {zg : Array GenState} {zd : Drawn} {zt : Nat} {zo : OsState} {Q E : Value → Shared → Prop} {rd dr sc dxs ah : Addr} {eh : RdH} {o : Obj} {h1 h2 : Int} {t1 t2 : Tok} {Tx : Str} {tT tks : Tok} {k : Nat} {rest : List (Addr × Obj)} {last : Option Int} {lv : Value}
    (B : Below A₀ base outer h₀) (F : Fr h₀ L zh m) (X : (Mine.top.heap_1 w.params).In h₀) (T : Top Mine.V loose mean mg mb h₀) (hk : cs.kind = .function) (hdp : dp + 70 < recursionLimit) (hun : un + 700 < cLine)
    (N : News h₀ L zh ((dr, rdD eh sc ah) :: (dxs, scD h1 h2 t1 t2 Tx tT (k : Int) tks) :: rest)) (hrd : (rd, instObj 446 dr) ∈ rest) (hsc : (sc, instObj 285 dxs) ∈ rest) (hah : (ah, o) ∈ rest) (hoff1 : ∀ q ∈ rest, q.1 ≠ dr) (hoff2 : ∀ q ∈ rest, q.1 ≠ dxs) (hdd : @Ne Nat dr dxs) (hne1 : @Ne Nat sc dxs) (hne2 : @Ne Nat sc dr) (hne3 : @Ne Nat rd dr) (hne4 : @Ne Nat rd dxs) (hne5 : @Ne Nat ah dr) (hne6 : @Ne Nat ah dxs)
    (hk1 : (k : Int) ≤ Tx.length) (hT : Tx.length ≤ 20000) {q0 : TokD} (ho : TokO q0 o) (hw : q0.worth = none) (hE : OnT h₀ L m base (envX cn cs L a ccd cl :: outer) q0.pos E ⟨zh, zg, zd, zt, zo⟩) :
    wpAny (model prog w) (ktrTop dp un gd cn cs L a ccd cl outer) (call (.ref 389) [.ref rd, lv]) Q E ⟨zh, zg, zd, zt, zo⟩ := by
  refine wpAny_call ?_
  k_dflt (refine' code_def (binds := [(Str.ofString "self", .ref rd), (Str.ofString "last", lv)]) ?k1 ?k2 ?k3 ?k4 ?k5 ?kA ?kF ?kK ?k6 ?k7 ?k8 ?k9 ?kB ?_ ?c2 ?c3 ?c4 ?c5; (case kA => exact rfl); (case kF => exact rfl); (case kK => assumption); (case k1 => k_asm); (case k2 => k_asm); (case k3 => k_asm); (case k4 => k_asm); (case k5 => k_asm); (case k6 => k_is); (case k7 => k_is); (case k8 => ktr_room); (case k9 => exact BindsTo.of_eq rfl); (case c5 => decide); (case kB => exact locs rfl); (case c2 => exact rfl); (case c3 => exact rfl); (case c4 => exact rfl); k_whole; intro g' L' h' FG' F' N' B' X' T'; (try dsimp only); (try k_fold); (show let Ab : PySem.Around := ktrTop dp un gd cn cs L a ccd cl outer; let ev : PySem.Env := _; let Ac : PySem.Around := PySem.Around.deeper Ab ev; wpAny _ Ac (PySem.execs _ ev) _ _ _); intro Ab ev Ac; (replace hdp : PySem.Around.depth Ab + _ < _ := hdp); (replace hun : PySem.Around.units Ab + _ < _ := hun))
  obtain ⟨K, vv, tA, tB, rfl, hK⟩ := id ho
  k_steps
set_option maxHeartbeats 2000000 in
theorem str_noDots {w : World} {mean : ExcName → Option Value} {mg mb : Str → Option Value} {dp un : Nat} {gd : Option (List Code)} {cn : Str} {cs : Scope} {a : Addr} {ccd : Value} {cl : List (Str × Addr)} {outer : List Env} {A₀ : Around} {base h₀ : Heap} {L : Addr} {m : Str → Option Value} {zh : Heap} {zg : Array GenState} {zd : Drawn} {zt : Nat} {zo : OsState} {Q E : Value → Shared → Prop} {rd dr sc dxs ah : Addr} {eh : RdH} {o : Obj} {h1 h2 : Int} {t1 t2 : Tok} {Tx : Str} {tT tks : Tok} {k : Nat} {rest : List (Addr × Obj)} {last : Option Int} {lv : Value}
    (B : Below A₀ base outer h₀) (F : Fr h₀ L zh m) (X : (Mine.top.heap_1 w.params).In h₀) (T : Top Mine.V loose mean mg mb h₀) (hk : cs.kind = .function) (hdp : dp + 70 < recursionLimit) (hun : un + 700 < cLine)
    (N : News h₀ L zh ((dr, rdD eh sc ah) :: (dxs, scD h1 h2 t1 t2 Tx tT (k : Int) tks) :: rest)) (hrd : (rd, instObj 446 dr) ∈ rest) (hsc : (sc, instObj 285 dxs) ∈ rest) (hah : (ah, o) ∈ rest) (hoff1 : ∀ q ∈ rest, q.1 ≠ dr) (hoff2 : ∀ q ∈ rest, q.1 ≠ dxs) (hdd : @Ne Nat dr dxs) (hne1 : @Ne Nat sc dxs) (hne2 : @Ne Nat sc dr) (hne3 : @Ne Nat rd dr) (hne4 : @Ne Nat rd dxs) (hne5 : @Ne Nat ah dr) (hne6 : @Ne Nat ah dxs)
    (hk1 : (k : Int) ≤ Tx.length) (hT : Tx.length ≤ 20000) {q0 q1 : TokD} {r : List TokD} {lo : Int} (ho : TokO q0 o) (hw : q0.worth = some lo) (hR : RestIs Tx k (q1 :: r)) (hn : ¬ IsS q1 (Str.ofString "..")) (hE : OnT h₀ L m base (envX cn cs L a ccd cl :: outer) q1.pos E ⟨zh, zg, zd, zt, zo⟩) :
    wpAny (model prog w) (ktrTop dp un gd cn cs L a ccd cl outer) (call (.ref 389) [.ref rd, lv]) Q E ⟨zh, zg, zd, zt, zo⟩ := by
  refine wpAny_call ?_
  k_dflt (refine' code_def (binds := [(Str.ofString "self", .ref rd), (Str.ofString "last", lv)]) ?k1 ?k2 ?k3 ?k4 ?k5 ?kA ?kF ?kK ?k6 ?k7 ?k8 ?k9 ?kB ?_ ?c2 ?c3 ?c4 ?c5; (case kA => exact rfl); (case kF => exact rfl); (case kK => assumption); (case k1 => k_asm); (case k2 => k_asm); (case k3 => k_asm); (case k4 => k_asm); (case k5 => k_asm); (case k6 => k_is); (case k7 => k_is); (case k8 => ktr_room); (case k9 => exact BindsTo.of_eq rfl); (case c5 => decide); (case kB => exact locs rfl); (case c2 => exact rfl); (case c3 => exact rfl); (case c4 => exact rfl); k_whole; intro g' L' h' FG' F' N' B' X' T'; (try dsimp only); (try k_fold); (show let Ab : PySem.Around := ktrTop dp un gd cn cs L a ccd cl outer; let ev : PySem.Env := _; let Ac : PySem.Around := PySem.Around.deeper Ab ev; wpAny _ Ac (PySem.execs _ ev) _ _ _); intro Ab ev Ac; (replace hdp : PySem.Around.depth Ab + _ < _ := hdp); (replace hun : PySem.Around.units Ab + _ < _ := hun))
  obtain ⟨K, vv, tA, tB, rfl, hK⟩ := id ho
  k_steps
set_option maxHeartbeats 2000000 in
theorem str_noHigh {w : World} {mean : ExcName → Option Value} {mg mb : Str → Option Value} {dp un : Nat} {gd : Option (List Code)} {cn : Str} {cs : Scope} {a : Addr} {ccd : Value} {cl : List (Str × Addr)} {outer : List Env} {A₀ : Around} {base h₀ : Heap} {L : Addr} {m : Str → Option Value} {zh : Heap} {zg : Array GenState} {zd : Drawn} {zt : Nat} {zo : OsState} {Q E : Value → Shared → Prop} {rd dr sc dxs ah : Addr} {eh : RdH} {o : Obj} {h1 h2 : Int} {t1 t2 : Tok} {Tx : Str} {tT tks : Tok} {k : Nat} {rest : List (Addr × Obj)} {last : Option Int} {lv : Value}
    (B : Below A₀ base outer h₀) (F : Fr h₀ L zh m) (X : (Mine.top.heap_1 w.params).In h₀) (T : Top Mine.V loose mean mg mb h₀) (hk : cs.kind = .function) (hdp : dp + 70 < recursionLimit) (hun : un + 700 < cLine)
    (N : News h₀ L zh ((dr, rdD eh sc ah) :: (dxs, scD h1 h2 t1 t2 Tx tT (k : Int) tks) :: rest)) (hrd : (rd, instObj 446 dr) ∈ rest) (hsc : (sc, instObj 285 dxs) ∈ rest) (hah : (ah, o) ∈ rest) (hoff1 : ∀ q ∈ rest, q.1 ≠ dr) (hoff2 : ∀ q ∈ rest, q.1 ≠ dxs) (hdd : @Ne Nat dr dxs) (hne1 : @Ne Nat sc dxs) (hne2 : @Ne Nat sc dr) (hne3 : @Ne Nat rd dr) (hne4 : @Ne Nat rd dxs) (hne5 : @Ne Nat ah dr) (hne6 : @Ne Nat ah dxs)
    (hk1 : (k : Int) ≤ Tx.length) (hT : Tx.length ≤ 20000) {q0 q1 q2 : TokD} {r : List TokD} {lo : Int} (ho : TokO q0 o) (hw : q0.worth = some lo) (hR : RestIs Tx k (q1 :: q2 :: r)) (hn : IsS q1 (Str.ofString "..")) (hw2 : q2.worth = none) (hE : OnT h₀ L m base (envX cn cs L a ccd cl :: outer) q2.pos E ⟨zh, zg, zd, zt, zo⟩) :
    wpAny (model prog w) (ktrTop dp un gd cn cs L a ccd cl outer) (call (.ref 389) [.ref rd, lv]) Q E ⟨zh, zg, zd, zt, zo⟩ := by
  refine wpAny_call ?_
  k_dflt (refine' code_def (binds := [(Str.ofString "self", .ref rd), (Str.ofString "last", lv)]) ?k1 ?k2 ?k3 ?k4 ?k5 ?kA ?kF ?kK ?k6 ?k7 ?k8 ?k9 ?kB ?_ ?c2 ?c3 ?c4 ?c5; (case kA => exact rfl); (case kF => exact rfl); (case kK => assumption); (case k1 => k_asm); (case k2 => k_asm); (case k3 => k_asm); (case k4 => k_asm); (case k5 => k_asm); (case k6 => k_is); (case k7 => k_is); (case k8 => ktr_room); (case k9 => exact BindsTo.of_eq rfl); (case c5 => decide); (case kB => exact locs rfl); (case c2 => exact rfl); (case c3 => exact rfl); (case c4 => exact rfl); k_whole; intro g' L' h' FG' F' N' B' X' T'; (try dsimp only); (try k_fold); (show let Ab : PySem.Around := ktrTop dp un gd cn cs L a ccd cl outer; let ev : PySem.Env := _; let Ac : PySem.Around := PySem.Around.deeper Ab ev; wpAny _ Ac (PySem.execs _ ev) _ _ _); intro Ab ev Ac; (replace hdp : PySem.Around.depth Ab + _ < _ := hdp); (replace hun : PySem.Around.units Ab + _ < _ := hun))
  obtain ⟨K, vv, tA, tB, rfl, hK⟩ := id ho
  k_steps
theorem bad_no {hi lo : Int} (h : ¬ hi < lo) : ¬ (hi < lo ∨ ∃ l, (none : Option Int) = some l ∧ lo ≤ l + 1) := fun z => z.elim h fun ⟨_, e, _⟩ => nomatch e
theorem bad_so {hi lo l : Int} (h : ¬ hi < lo) (k : ¬ lo ≤ l + 1) : ¬ (hi < lo ∨ ∃ x, some l = some x ∧ lo ≤ x + 1) := fun z => z.elim h fun ⟨_, e, y⟩ => by cases e; exact k y
set_option maxHeartbeats 2000000 in
theorem str_end {w : World} {mean : ExcName → Option Value} {mg mb : Str → Option Value} {dp un : Nat} {gd : Option (List Code)} {cn : Str} {cs : Scope} {a : Addr} {ccd : Value} {cl : List (Str × Addr)} {outer : List Env} {A₀ : Around} {base h₀ : Heap} {L : Addr} {m : Str → Option Value} {zh : Heap} {zg : Array GenState} {zd : Drawn} {zt : Nat} {zo : OsState} {Q E : Value → Shared → Prop} {rd dr sc dxs ah : Addr} {eh : RdH} {o : Obj} {h1 h2 : Int} {t1 t2 : Tok} {Tx : Str} {tT tks : Tok} {k : Nat} {rest : List (Addr × Obj)} {last : Option Int} {lv : Value}
    (B : Below A₀ base outer h₀) (F : Fr h₀ L zh m) (X : (Mine.top.heap_1 w.params).In h₀) (T : Top Mine.V loose mean mg mb h₀) (hk : cs.kind = .function) (hdp : dp + 70 < recursionLimit) (hun : un + 700 < cLine)
    (N : News h₀ L zh ((dr, rdD eh sc ah) :: (dxs, scD h1 h2 t1 t2 Tx tT (k : Int) tks) :: rest)) (hrd : (rd, instObj 446 dr) ∈ rest) (hsc : (sc, instObj 285 dxs) ∈ rest) (hah : (ah, o) ∈ rest) (hoff1 : ∀ q ∈ rest, q.1 ≠ dr) (hoff2 : ∀ q ∈ rest, q.1 ≠ dxs) (hdd : @Ne Nat dr dxs) (hne1 : @Ne Nat sc dxs) (hne2 : @Ne Nat sc dr) (hne3 : @Ne Nat rd dr) (hne4 : @Ne Nat rd dxs) (hne5 : @Ne Nat ah dr) (hne6 : @Ne Nat ah dxs)
    (hk1 : (k : Int) ≤ Tx.length) (hT : Tx.length ≤ 20000) {q0 q1 q2 q3 : TokD} {r : List TokD} {lo hi : Int} (ho : TokO q0 o) (hw : q0.worth = some lo) (hR : RestIs Tx k (q1 :: q2 :: q3 :: r)) (hn : IsS q1 (Str.ofString "..")) (hw2 : q2.worth = some hi) (hl : LastIs last lv)
    (hE : (hi < lo ∨ ∃ l, last = some l ∧ lo ≤ l + 1) → OnT h₀ L m base (envX cn cs L a ccd cl :: outer) q0.pos E ⟨zh, zg, zd, zt, zo⟩)
    (hQ : ¬ (hi < lo ∨ ∃ l, last = some l ∧ lo ≤ l + 1) → ∀ D ta tb td o' tk2 h' tk' (kf : Nat), TokO q3 o' → RestIs Tx kf r → (kf : Int) ≤ Tx.length → dr < td → dxs < td → (∀ q ∈ rest, q.1 < td) → td < D → Fr h₀ L h' m → News h₀ L h' ((D, tupO [.int lo ta, .int hi tb]) :: (td, o') :: (dr, rdD eh sc td) :: (dxs, scD h1 h2 t1 t2 Tx tT (kf : Int) tk2) :: rest) → Q (.ref D) ⟨h', zg, zd, tk', zo⟩) :
    wpAny (model prog w) (ktrTop dp un gd cn cs L a ccd cl outer) (call (.ref 389) [.ref rd, lv]) Q E ⟨zh, zg, zd, zt, zo⟩ := by
  refine wpAny_call ?_
  k_dflt (refine' code_def (binds := [(Str.ofString "self", .ref rd), (Str.ofString "last", lv)]) ?k1 ?k2 ?k3 ?k4 ?k5 ?kA ?kF ?kK ?k6 ?k7 ?k8 ?k9 ?kB ?_ ?c2 ?c3 ?c4 ?c5; (case kA => exact rfl); (case kF => exact rfl); (case kK => assumption); (case k1 => k_asm); (case k2 => k_asm); (case k3 => k_asm); (case k4 => k_asm); (case k5 => k_asm); (case k6 => k_is); (case k7 => k_is); (case k8 => ktr_room); (case k9 => exact BindsTo.of_eq rfl); (case c5 => decide); (case kB => exact locs rfl); (case c2 => exact rfl); (case c3 => exact rfl); (case c4 => exact rfl); k_whole; intro g' L' h' FG' F' N' B' X' T'; (try dsimp only); (try k_fold); (show let Ab : PySem.Around := ktrTop dp un gd cn cs L a ccd cl outer; let ev : PySem.Env := _; let Ac : PySem.Around := PySem.Around.deeper Ab ev; wpAny _ Ac (PySem.execs _ ev) _ _ _); intro Ab ev Ac; (replace hdp : PySem.Around.depth Ab + _ < _ := hdp); (replace hun : PySem.Around.units Ab + _ < _ := hun))
  obtain ⟨K, vv, tA, tB, rfl, hK⟩ := id ho
  k_steps
  refine Stop.mk ?_
  (with_reducible rename Fr _ _ _ _ => Fz)
  (with_reducible rename News _ _ _ _ => Nz)
  refine wpAny_If (keep_join (s0 := ⟨zh, zg, zd, zt, zo⟩) (fun c : Bool => (c = true → (hi < lo ∨ ∃ l, last = some l ∧ lo ≤ l + 1)) ∧ (c = false → ¬ (hi < lo ∨ ∃ l, last = some l ∧ lo ≤ l + 1))) Fz Nz ?_ ?_)
  · clear hE hQ
    rcases hl with ⟨rfl, rfl⟩ | ⟨l, tl, rfl, rfl⟩
    · k_steps
      all_goals (
        (with_reducible rename Fr _ _ _ _ => Fy)
        (with_reducible rename News _ _ _ _ => Ny)
        refine keep_end Fy Ny (fun _ h => h) ?_
        first
          | exact ⟨fun _ => .inl (by assumption), fun z => (nomatch z)⟩
          | exact ⟨fun z => (nomatch z), fun _ => bad_no (by assumption)⟩)
    · k_steps
      all_goals (
        (with_reducible rename Fr _ _ _ _ => Fy)
        (with_reducible rename News _ _ _ _ => Ny)
        refine keep_end Fy Ny (fun _ h => h) ?_
        first
          | exact ⟨fun _ => .inl (by assumption), fun z => (nomatch z)⟩
          | exact ⟨fun _ => .inr ⟨l, rfl, by assumption⟩, fun z => (nomatch z)⟩
          | exact ⟨fun z => (nomatch z), fun _ => bad_so (by assumption) (by assumption)⟩
          | exact ⟨fun z => .inr ⟨l, rfl, of_decide_eq_true z⟩, fun z => bad_so (by assumption) (of_decide_eq_false z)⟩)
  rintro c h5 tk5 ⟨hc1, hc2⟩ F6 N6
  clear Fz Nz
  cases c
  · have hq := hQ (hc2 rfl)
    clear hQ hE hc1 hc2 hl
    (try dsimp only)
    k_steps
    all_goals (
      (with_reducible rename Fr _ _ _ _ => Fz)
      (with_reducible rename News _ _ _ _ => Nz)
      refine' hq _ _ _ _ _ _ _ _ _ (by assumption) (by assumption) (by assumption) ?l1 ?l2 ?l3 ?l4 Fz (newsSub Nz (four_sub ?m1 ?m2 ?m3 ?m4 fun q hq => ?m5))
      case m1 => k_mem
      case m2 => k_mem
      case m3 => k_mem
      case m4 => k_mem
      case m5 => k_mem
      case l1 => first | assumption | exact Mine.cj1 (by assumption) | exact Mine.cj2 (by assumption) | exact Mine.cj3 (by assumption) | exact Mine.cj4 (by assumption) | exact Mine.cj5 (by assumption) | exact Mine.cj6 (by assumption) | exact Mine.cj7 (by assumption) | exact Mine.cj8 (by assumption) | omega
      case l2 => first | assumption | exact Mine.cj1 (by assumption) | exact Mine.cj2 (by assumption) | exact Mine.cj3 (by assumption) | exact Mine.cj4 (by assumption) | exact Mine.cj5 (by assumption) | exact Mine.cj6 (by assumption) | exact Mine.cj7 (by assumption) | exact Mine.cj8 (by assumption) | omega
      case l3 => exact allLt_mem (by (first | with_reducible assumption | exact Mine.al1 (by with_reducible assumption) | exact Mine.al2 (by with_reducible assumption) | exact Mine.al3 (by with_reducible assumption) | exact Mine.al4 (by with_reducible assumption) | exact Mine.al5 (by with_reducible assumption) | exact Mine.al6 (by with_reducible assumption) | exact Mine.al7 (by with_reducible assumption) | exact Mine.al8 (by with_reducible assumption)))
      case l4 => first | assumption | exact Mine.cj1 (by assumption) | exact Mine.cj2 (by assumption) | exact Mine.cj3 (by assumption) | exact Mine.cj4 (by assumption) | exact Mine.cj5 (by assumption) | exact Mine.cj6 (by assumption) | exact Mine.cj7 (by assumption) | exact Mine.cj8 (by assumption) | omega)
  · have he := hE (hc1 rfl)
    clear hQ hE hc1 hc2 hl
    (try dsimp only)
    k_steps
    all_goals (
      (with_reducible rename Fr _ _ _ _ => Fz)
      first
      | exact Fz
      | ((with_reducible rename SpotD _ _ => hsp9)
         (with_reducible rename News _ _ _ _ => Nz)
         exact leave_raiseT B' Fz Nz (by assumption) hsp9 fun h'' R U => he _ _ _ _ FG' R U))
end Mine
namespace Mine
open PySem PySem.W PyProof.Rows PySem.Calls PyProof.V PySem.Spec PySem.NumText
theorem stretch_K {w : World} {mean : ExcName → Option Value} {mg mb : Str → Option Value} {dp un : Nat} {gd : Option (List Code)} {cn : Str} {cs : Scope} {a : Addr} {ccd : Value} {cl : List (Str × Addr)} {outer : List Env} {A₀ : Around} {base h₀ : Heap} {L : Addr} {m : Str → Option Value} {zh : Heap} {zg : Array GenState} {zd : Drawn} {zt : Nat} {zo : OsState} {Q E : Value → Shared → Prop} {news : List (Addr × Obj)} {gA : Obj → List (Addr × Obj)} {gB : Obj → Obj → List (Addr × Obj)} {rd dr sc dxs ah : Addr} {eh : RdH} {o : Obj} {q0 : TokD} {r : List TokD} {h1 h2 : Int} {t1 t2 : Tok} {Tx : Str} {tT tks : Tok} {k : Nat} {last : Option Int} {lv : Value}
    (B : Below A₀ base outer h₀) (F : Fr h₀ L zh m) (X : (Mine.top.heap_1 w.params).In h₀) (T : Top Mine.V loose mean mg mb h₀) (hk : cs.kind = .function) (hdp : dp + 70 < recursionLimit) (hun : un + 700 < cLine)
    (N : News h₀ L zh news) (hrd : (rd, instObj 446 dr) ∈ news) (hsc : (sc, instObj 285 dxs) ∈ news) (hah : (ah, o) ∈ news) (U1 : UpdF dr (rdD eh sc ah) news gA) (U2 : ∀ o, UpdF dxs (scD h1 h2 t1 t2 Tx tT (k : Int) tks) (gA o) (gB o)) (hdd : @Ne Nat dr dxs) (hne1 : @Ne Nat sc dxs) (hne2 : @Ne Nat sc dr) (hne3 : @Ne Nat rd dr) (hne4 : @Ne Nat rd dxs) (hne5 : @Ne Nat ah dr) (hne6 : @Ne Nat ah dxs)
    (ho : TokO q0 o) (hl : LastIs last lv)
    (hk1 : (k : Int) ≤ Tx.length) (hT : Tx.length ≤ 20000) (hR : RestIs Tx k r) (hTL : TokL (q0 :: r))
    (hE : ∀ p, StrR last (q0 :: r) (.error p) → OnT h₀ L m base (envX cn cs L a ccd cl :: outer) (p : Int) E ⟨zh, zg, zd, zt, zo⟩)
    (hQ : ∀ lo hi q3 r', StrR last (q0 :: r) (.ok (lo, hi, q3 :: r')) → TokL (q3 :: r') → ∀ D ta tb td o' tk2 h' tk' (kf : Nat), TokO q3 o' → RestIs Tx kf r' → (kf : Int) ≤ Tx.length → (∀ q ∈ gB (rdD eh sc td) (scD h1 h2 t1 t2 Tx tT (kf : Int) tk2), q.1 < td) → @LT.lt Nat _ td D → Fr h₀ L h' m → News h₀ L h' ((D, tupO [.int lo ta, .int hi tb]) :: (td, o') :: gB (rdD eh sc td) (scD h1 h2 t1 t2 Tx tT (kf : Int) tk2)) → Q (.ref D) ⟨h', zg, zd, tk', zo⟩) :
    wpAny (model prog w) (ktrTop dp un gd cn cs L a ccd cl outer) (call (.ref 389) [.ref rd, lv]) Q E ⟨zh, zg, zd, zt, zo⟩ := by
  obtain ⟨rest, r1, r2, r3, r4, r5⟩ := canon2 U1 U2 hdd
  have hS : (Str.ofString "..").cps.toList ∈ lateL := by decide +kernel
  cases hw : q0.worth with
  | none => exact str_noLow (last := last) B F X T hk hdp hun (newsSub N r1) (r5 _ hrd hne3 hne4) (r5 _ hsc hne2 hne1) (r5 _ hah hne5 hne6) r2 r3 hdd hne1 hne2 hne3 hne4 hne5 hne6 hk1 hT ho hw (hE _ (.noLow hw))
  | some lo =>
    obtain ⟨hTL1, q1, r', rfl⟩ := hTL.num hw
    by_cases hn : IsS q1 (Str.ofString "..")
    · obtain ⟨hTL2, q2, r'', rfl⟩ := hTL1.sign hn hS
      cases hw2 : q2.worth with
      | none => exact str_noHigh (last := last) B F X T hk hdp hun (newsSub N r1) (r5 _ hrd hne3 hne4) (r5 _ hsc hne2 hne1) (r5 _ hah hne5 hne6) r2 r3 hdd hne1 hne2 hne3 hne4 hne5 hne6 hk1 hT ho hw hR hn hw2 (hE _ (.noHigh hw hn hw2))
      | some hi =>
        obtain ⟨hTL3, q3, r3', rfl⟩ := hTL2.num hw2
        refine str_end B F X T hk hdp hun (newsSub N r1) (r5 _ hrd hne3 hne4) (r5 _ hsc hne2 hne1) (r5 _ hah hne5 hne6) r2 r3 hdd hne1 hne2 hne3 hne4 hne5 hne6 hk1 hT ho hw hR hn hw2 hl (fun hb => hE _ (.bad hw hn hw2 hb)) fun hb D ta tb td o' tk2 h' tk' kf e1 e2 e3 e4 e5 e6 e7 F' N' => hQ lo hi q3 r3' (.good hw hn hw2 hb) hTL3 D ta tb td o' tk2 h' tk' kf e1 e2 e3 (fun q hq => ?_) e7 F' (newsSub N' fun q hq => ?_)
        · rcases List.mem_cons.mp (r4 _ _ _ hq) with rfl | hq
          · exact e4
          · rcases List.mem_cons.mp hq with rfl | hq
            · exact e5
            · exact e6 q hq
        · rcases List.mem_cons.mp hq with rfl | hq
          · exact .head _
          · rcases List.mem_cons.mp hq with rfl | hq
            · exact .tail _ (.head _)
            · exact .tail _ (.tail _ (r4 _ _ _ hq))
    · exact str_noDots (last := last) B F X T hk hdp hun (newsSub N r1) (r5 _ hrd hne3 hne4) (r5 _ hsc hne2 hne1) (r5 _ hah hne5 hne6) r2 r3 hdd hne1 hne2 hne3 hne4 hne5 hne6 hk1 hT ho hw hR hn (hE _ (.noDots hw hn))
/-- what is told once a curly bracket is open -/
inductive LoopR : List (Int × Int) → List TokD → Except Nat (List (Int × Int) × List TokD) → Prop
  | done {f t r} : IsS t (Str.ofString "}") → LoopR f (t :: r) (.ok (f, r))
  | noComma {f t r} : ¬ IsS t (Str.ofString "}") → f ≠ [] → ¬ IsS t (Str.ofString ",") → LoopR f (t :: r) (.error t.pos)
  | firstBad {t r p} : ¬ IsS t (Str.ofString "}") → StrR none (t :: r) (.error p) → LoopR [] (t :: r) (.error p)
  | first {t r lo hi r' res} : ¬ IsS t (Str.ofString "}") → StrR none (t :: r) (.ok (lo, hi, r')) → LoopR [(lo, hi)] r' res → LoopR [] (t :: r) res
  | nextBad {f l h t r p} : ¬ IsS t (Str.ofString "}") → IsS t (Str.ofString ",") → StrR (some h) r (.error p) → LoopR (f ++ [(l, h)]) (t :: r) (.error p)
  | next {f l h t r lo hi r' res} : ¬ IsS t (Str.ofString "}") → IsS t (Str.ofString ",") → StrR (some h) r (.ok (lo, hi, r')) → LoopR (f ++ [(l, h)] ++ [(lo, hi)]) r' res → LoopR (f ++ [(l, h)]) (t :: r) res
/-- what a domain tells -/
inductive DomR : List TokD → Except Nat (List (Int × Int) × List TokD) → Prop
  | plainBad {t r p} : ¬ IsS t (Str.ofString "{") → StrR none (t :: r) (.error p) → DomR (t :: r) (.error p)
  | plain {t r lo hi r'} : ¬ IsS t (Str.ofString "{") → StrR none (t :: r) (.ok (lo, hi, r')) → DomR (t :: r) (.ok ([(lo, hi)], r'))
  | curly {t r res} : IsS t (Str.ofString "{") → LoopR [] r res → DomR (t :: r) res
def PairV (news : List (Addr × Obj)) (v : Value) (p : Int × Int) : Prop := ∃ a t u, v = .ref a ∧ (a, tupO [.int p.1 t, .int p.2 u]) ∈ news
inductive PairsV (news : List (Addr × Obj)) : List Value → List (Int × Int) → Prop
  | nil : PairsV news [] []
  | cons {v p vs ps} : PairV news v p → PairsV news vs ps → PairsV news (v :: vs) (p :: ps)
theorem PairsV.mono {l l' : List (Addr × Obj)} {vs : List Value} {ps : List (Int × Int)} (h : PairsV l vs ps) (hs : ∀ q ∈ l, q ∈ l') : PairsV l' vs ps := by
  induction h with
  | nil => exact .nil
  | cons h _ ih =>
    obtain ⟨a, t, u, e, hm⟩ := h
    exact .cons ⟨a, t, u, e, hs _ hm⟩ ih
theorem PairsV.app {l : List (Addr × Obj)} {vs us : List Value} {ps qs : List (Int × Int)} (h : PairsV l vs ps) (k : PairsV l us qs) : PairsV l (vs ++ us) (ps ++ qs) := by
  induction h with
  | nil => exact k
  | cons h _ ih => exact .cons h ih
theorem PairsV.length {l : List (Addr × Obj)} {vs : List Value} {ps : List (Int × Int)} (h : PairsV l vs ps) : vs.length = ps.length := by
  induction h with
  | nil => rfl
  | cons _ _ ih => rw [List.length_cons, List.length_cons, ih]
theorem PairsV.get {l : List (Addr × Obj)} {vs : List Value} {ps : List (Int × Int)} (h : PairsV l vs ps) : ∀ {i : Nat} {v : Value}, vs[i]? = some v → ∃ p, ps[i]? = some p ∧ PairV l v p := by
  induction h with
  | nil => intro i v e; cases e
  | cons h _ ih =>
    intro i v e
    cases i with
    | zero => cases e; exact ⟨_, rfl, h⟩
    | succ i => exact ih e
theorem off_cons {a d : Addr} {o : Obj} {l : List (Addr × Obj)} (h : @Ne Nat a d) (k : ∀ q ∈ l, q.1 ≠ d) : ∀ q ∈ (a, o) :: l, q.1 ≠ d := by
  intro q hq
  rcases List.mem_cons.mp hq with rfl | hq
  · exact h
  · exact k q hq
theorem sub_cons {x : Addr × Obj} {l l' : List (Addr × Obj)} (h : x ∈ l') (k : ∀ q ∈ l, q ∈ l') : ∀ q ∈ x :: l, q ∈ l' := by
  intro q hq
  rcases List.mem_cons.mp hq with rfl | hq
  · exact h
  · exact k q hq
section
variable {w : World} {A : Around} {E : Value → Shared → Prop} {zh : Heap} {zg : Array GenState} {zd : Drawn} {zt : Nat} {zo : OsState} {h₀ : Heap} {L : Addr} {m : Str → Option Value} {news : List (Addr × Obj)}
theorem item_last {l : Addr} {vs : List Value} {x : Value} {nn : Nat} {u : Tok} {value slice : PySem.Expr} {Q : Value → Shared → Prop} (N : News h₀ L zh news) (hm : (l, listOf (vs ++ [x]).toArray nn) ∈ news) (hb : vs.length < 100000) (h : Q x ⟨zh, zg, zd, zt, zo⟩)
    (hs : subscripted slice false (.ref l) (.int (-1) u) = operate [.ref l, .int (-1) u] (getItem (.ref l) (.int (-1) u)) := by with_unfolding_all rfl) :
    wpAny (model prog w) A (subscriptTail value slice (.ref l) (.int (-1) u)) Q E ⟨zh, zg, zd, zt, zo⟩ := by
  have hl : zh.IsList l (vs ++ [x]).toArray := ⟨_, (N _ hm).1, rfl, _, rfl⟩
  have hsz : (vs ++ [x]).toArray.size = vs.length + 1 := by rw [List.size_toArray, List.length_append]; rfl
  refine tail_any hl.typeIs slot_list_getitem.lookup (wpAny_getItem_list_neg hl (by decide) (by rw [hsz]; omega) (by decide) ?_ h) hs
  rw [hsz, show ((-1 : Int) + ((vs.length + 1 : Nat) : Int)).toNat = vs.length by omega]
  simp
theorem tuple_V {l : Addr} {vs : List Value} {nn : Nat} {Q : Value → Shared → Prop} (F : Fr h₀ L zh m) (N : News h₀ L zh news) (hm : (l, listOf vs.toArray nn) ∈ news) (hz : vs.length ≤ 16384)
    (h : ∀ D h', Fr h₀ L h' m → News h₀ L h' ((D, tupO vs) :: news) → (∀ p ∈ news, p.1 < D) → Q (.ref D) ⟨h', zg, zd, zt, zo⟩) : wpAny (model prog w) A (call (.type "tuple") [.ref l]) Q E ⟨zh, zg, zd, zt, zo⟩ :=
  kde_tupleOf F N ⟨_, (N _ hm).1, rfl, _, rfl⟩ (by rw [List.size_toArray]; omega) rfl fun D h' F' N' l1 => h D h' F' (by simpa using N') l1
end
theorem PairsV.snoc {l : List (Addr × Obj)} {fs : List (Int × Int)} {p : Int × Int} : ∀ {vs : List Value}, PairsV l vs (fs ++ [p]) → ∃ us a t u, vs = us ++ [.ref a] ∧ us.length = fs.length ∧ PairsV l us fs ∧ (a, tupO [.int p.1 t, .int p.2 u]) ∈ l := by
  induction fs with
  | nil =>
    intro vs h
    cases h with
    | cons hp hn =>
      cases hn
      obtain ⟨a, t, u, rfl, hm⟩ := hp
      exact ⟨[], a, t, u, rfl, rfl, .nil, hm⟩
  | cons f fs ih =>
    intro vs h
    cases h with
    | cons hp hn =>
      obtain ⟨us, a, t, u, rfl, e, h1, h2⟩ := ih hn
      exact ⟨_ :: us, a, t, u, rfl, by simp [e], .cons hp h1, h2⟩
theorem StrR.len {last : Option Int} {t : TokD} {r r' : List TokD} {lo hi : Int} (h : StrR last (t :: r) (.ok (lo, hi, r'))) : r.length = r'.length + 2 := by
  cases h
  simp only [List.length_cons]
structure ReadJ (eh : RdH) (rd dr sc dxs fl : Addr) (h1 h2 : Int) (t1 t2 : Tok) (Tx : Str) (tT : Tok) (toks0 : List TokD) (B0 : Nat) (rest : List (Addr × Obj)) (n : Nat) (m : Str → Option Value) (nx : List (Addr × Obj)) : Prop where
  out : ∃ (ah : Addr) (o : Obj) (q : TokD) (r : List TokD) (k : Nat) (tks : Tok) (fs : List (Int × Int)) (vs : List Value) (nn : Nat) (tl : List (Addr × Obj)),
    nx = (dr, rdD eh sc ah) :: (dxs, scD h1 h2 t1 t2 Tx tT (k : Int) tks) :: (fl, listOf vs.toArray nn) :: tl ∧ n = r.length ∧ fs.length + r.length ≤ B0 ∧ TokO q o ∧ (ah, o) ∈ tl ∧ RestIs Tx k r ∧ TokL (q :: r) ∧ (k : Int) ≤ Tx.length ∧ PairsV tl vs fs ∧
    (∀ x ∈ rest, x ∈ tl) ∧ (∀ x ∈ tl, x.1 ≠ dr) ∧ (∀ x ∈ tl, x.1 ≠ dxs) ∧ (∀ x ∈ tl, x.1 ≠ fl) ∧ (∀ res, LoopR fs (q :: r) res → DomR toks0 res) ∧
    m (Str.ofString "self") = some (.ref rd) ∧ m (Str.ofString "found") = some (.ref fl)
end Mine
theorem Mine.rw_P30_domain : True := by
  k_with_none
  (k_with "subscriptTail" => (k_here; (fail_if_success fail_if_success with_reducible show wpAny _ _ (subscriptTail _ _ (Value.ref _) (Value.str _ _)) _ _ _); k_dflt (refine' Mine.d_get ?zzN ?zzm ?zzo ?zzf ?_; (case zzN => k_asm); (case zzm => k_mem); (case zzo => with_reducible assumption); (case zzf => exact rfl); k_whole)))
  (k_with "setItem ref str" => (k_here; (fail_if_success fail_if_success with_reducible show wpAny _ _ (setItem (Value.ref _) (Value.str _ _) _) _ _ _); k_dflt (refine' Mine.d_set ?zzF ?zzN ?zzU ?zzo ?_ ?zzz; (case zzF => k_asm); (case zzN => k_asm); (case zzU => k_updF); (case zzo => with_reducible assumption); (case zzz => exact Nat.le_of_ble_eq_true rfl)); intro _ _ _ _ _; (try k_sweep)))
  (k_with "call builtin:len" => (k_here; (fail_if_success fail_if_success with_reducible show wpAny _ _ (call (Value.builtin "len") [Value.ref _]) _ _ _); k_dflt (refine' Mine.len_L ?zzN ?zzm ?zzb ?_; (case zzN => k_asm); (case zzm => k_mem); (case zzb => omega); k_whole)))
  (k_with "subscriptTail" => (k_here; (fail_if_success fail_if_success with_reducible show wpAny _ _ (subscriptTail _ _ (Value.ref _) (Value.int _ _)) _ _ _); k_dflt (refine' Mine.item_L ?zzN ?zzm ?zza ?zzb ?zzc ?_; (case zzN => k_asm); (case zzm => k_mem); (case zza => omega); (case zzb => omega); (case zzc => omega); k_whole); intro _ _))
  (k_with "subscriptTail" => (k_here; (fail_if_success fail_if_success with_reducible show wpAny _ _ (subscriptTail _ _ (Value.ref _) (Value.int _ _)) _ _ _); k_dflt (refine' Mine.item_LI ?zzN ?zzm ?zzi ?zza ?zzb ?zzc ?_; (case zzN => k_asm); (case zzm => k_mem); (case zzi => with_reducible assumption); (case zza => omega); (case zzb => omega); (case zzc => omega); k_whole); intro _ _))
  (k_with "ite" => first | with_reducible refine PyProof.Rows.ite_tt ?_ | with_reducible refine PyProof.Rows.ite_ff ?_)
  (k_with "execs cons" => (k_here; (try k_gentoks); (with_reducible refine wpAny_execs_cons ?_); (try dsimp only); k_fold))
  (k_with "eval Constant int" => (with_reducible refine Mine.constI ?_))
  (k_with "eval Constant str" => (with_reducible refine Mine.constS ?_))
  (k_with "binaryOp Add int int" => (with_reducible refine Mine.addI ?_))
  (k_with "pyIter ref" => (refine Mine.stop_intro ?_))
  (k_with "exec For Name Call cons nil" => (k_here; (rename Fr _ _ _ _ => lF'); (with_unfolding_all refine' For_invVF lF' ?zzk1 ?zzk2 ?_; (case zzk1 => exact rfl); (case zzk2 => exact rfl); k_whole)))
  (k_with "call type:range" => (k_here; (fail_if_success fail_if_success with_reducible show wpAny _ _ (call _ [Value.int _ _]) _ _ _); k_dflt (refine' Mine.range_1 ?zzF ?zzN ?_; (case zzF => k_asm); (case zzN => k_asm)); intro _ _ _ _ _ _ _ _; (try k_sweep)))
  (k_with "subscriptTail" => (k_here; (fail_if_success fail_if_success with_reducible show wpAny _ _ (subscriptTail _ _ (Value.ref _) (Value.int _ _)) _ _ _); k_dflt (first | (refine' Mine.pick_T (-3) 9 ?zzN ?zzm ?zzi ?zza ?zzb ?zzc ?_; (case zzN => k_asm); (case zzm => k_mem); (case zzi => repeat' (first | exact Mine.IntsIn.nil | (refine Mine.IntsIn.cons (by decide) (by decide) ?_))); (case zza => assumption); (case zzb => assumption); (case zzc => exact Nat.le_of_ble_eq_true rfl); k_whole) | (refine' Mine.pick_T (-3) (10 ^ 30) ?zzN ?zzm ?zzi ?zza ?zzb ?zzc ?_; (case zzN => k_asm); (case zzm => k_mem); (case zzi => repeat' (first | exact Mine.IntsIn.nil | (refine Mine.IntsIn.cons (by decide) (by decide) ?_))); (case zza => assumption); (case zzb => assumption); (case zzc => exact Nat.le_of_ble_eq_true rfl); k_whole)); intro _ _ _ _))
  (k_with "subscriptTail" => (k_here; (fail_if_success fail_if_success with_reducible show wpAny _ _ (subscriptTail _ (Expr.Slice (some _) (some _) none _) (Value.str _ _) (Value.ref _)) _ _ _); k_dflt (refine' Mine.str_slice (s := ⟨_, _, _, _, _⟩) ?zzF ?zzN ?zza ?zzb ?zzc ?zzd ?_ ?zzs ?zzt; (case zzF => k_asm); (case zzN => k_asm); (case zza => omega); (case zzb => omega); (case zzc => omega); (case zzd => omega); (case zzs => with_unfolding_all rfl); (case zzt => kmk_pure)); intro _ _ _ _ _ _ _; (try k_sweep)))
  (k_with "subscriptTail" => (k_here; (fail_if_success fail_if_success with_reducible show wpAny _ _ (subscriptTail _ _ (Value.str _ _) (Value.int _ _)) _ _ _); k_dflt (refine' Mine.str_item ?zza ?zzb ?zzc ?_; (case zza => omega); (case zzb => omega); (case zzc => omega)); intro _ _ _ _))
  (k_with "compareOp In str str" => (k_here; (fail_if_success fail_if_success with_reducible show wpAny _ _ (compareOp CmpOp.In (Value.str _ _) (Value.str _ _)) _ _ _); (refine Mine.str_in (by with_reducible assumption) ?_); intro _ _))
  (k_with "exec While Compare cons nil" => (refine Mine.stop_intro ?_))
  (k_with "exec While BoolOp cons nil" => (refine Mine.stop_intro ?_))
  (k_with "exec While UnaryOp cons nil" => (refine Mine.stop_intro ?_))
  (k_with "exec While Constant cons nil" => (refine Mine.stop_intro ?_))
  (k_with "exec While" => (refine Mine.stop_intro ?_))
  (k_with "call" => ((fail_if_success fail_if_success with_reducible show wpAny _ _ (call (Prod.fst _) _) _ _ _); dsimp only [List.cons_append, List.nil_append, List.append_nil]))
  (k_with "exec Raise some none" => (k_here; (fail_if_success fail_if_success with_reducible show wpAny _ _ (exec (Stmt.Raise (some (PySem.Expr.Call (PySem.Expr.Name _ _) (_ :: _) [] _)) none _) _) _ _ _); k_dflt (refine' Mine.raise_TK ?zzB ?zzF ?zzX ?zzT ?zzhk ?zzhd ?zzhu ?_ ?zzhe ?zzhp ?zzhx; (case zzB => k_asm); (case zzF => k_asm); (case zzX => k_asm); (case zzT => k_asm); (case zzhk => first | exact rfl | assumption); (case zzhd => ktr_room); (case zzhu => ktr_units); (case zzhe => exact rfl); (case zzhp => exact rfl); (case zzhx => exact rfl))))
  (k_with "call ref" => (k_here; (fail_if_success fail_if_success with_reducible show wpAny _ _ (call (Value.ref 317) [Value.ref _, Value.str _ _]) _ _ _); k_dflt (refine' Mine.issign_K ?zzB ?zzF ?zzX ?zzT ?zzhk ?zzhd ?zzhu ?zzN ?zzrd ?zzdr ?zzah ?zzo ?zzS ?_; (case zzB => k_asm); (case zzF => k_asm); (case zzX => k_asm); (case zzT => k_asm); (case zzhk => first | exact rfl | assumption); (case zzN => k_asm); (case zzrd => k_mem); (case zzdr => k_mem); (case zzah => k_mem); (case zzo => with_reducible assumption); (case zzS => first | with_reducible assumption | decide +kernel); (case zzhd => ktr_room); (case zzhu => ktr_units)); intro _ _ _ _; (try dsimp only); (try k_fold); (try k_sweep)))
  (k_with "call ref" => (k_here; (fail_if_success fail_if_success with_reducible show wpAny _ _ (call (Value.ref 310) [Value.ref _]) _ _ _); k_dflt (refine' Mine.take_K ?zzB ?zzF ?zzX ?zzT ?zzhk ?zzhd ?zzhu ?zzN ?zzrd ?zzsc ?zzU1 ?zzU2 ?zzdd ?zzn1 ?zzn2 ?zzn3 ?zzn4 ?zzk1 ?zzhT ?zzS ?_; (case zzB => k_asm); (case zzF => k_asm); (case zzX => k_asm); (case zzT => k_asm); (case zzhk => first | exact rfl | assumption); (case zzN => k_asm); (case zzrd => k_mem); (case zzsc => k_mem); (case zzU1 => k_updF); (case zzU2 => (intro _; (try dsimp only); k_updF)); (case zzdd => k_ne); (case zzn1 => k_ne); (case zzn2 => k_ne); (case zzn3 => k_ne); (case zzn4 => k_ne); (case zzS => with_reducible assumption); (case zzk1 => omega); (case zzhT => omega); (case zzhd => ktr_room); (case zzhu => ktr_units)); intro _ _ _ _ _ _ _ _ _ l1 _ N9; (try dsimp only at N9 l1); (try k_lt l1); (try dsimp only); (try k_fold); (try k_sweep)))
  (k_with "formatField str" => (k_here; (fail_if_success fail_if_success with_reducible show wpAny _ _ (formatField (Value.str _ _) _) _ _ _); (refine' formatField_str ?zzh ?zzz; (case zzz => (rw [sizeLine_eq]; omega))); intro _ _; (try dsimp only)))
  (k_with "And" => (refine ⟨Mine.len_fit (by simp only [Str.length_append, Mine.len_empty, Mine.len_wanted, Mine.len_lit1, Mine.len_lit2, Mine.len_lit3, Mine.len_lit4, Mine.len_lit5]; omega), ?_⟩))
  (k_with "call ref" => (k_here; (fail_if_success fail_if_success with_reducible show wpAny _ _ (call (Value.ref 331) [Value.ref _]) _ _ _); k_dflt (refine' Mine.rdnum_no ?zzB ?zzF ?zzX ?zzT ?zzhk ?zzhd ?zzhu ?zzN ?zzrd ?zzsc ?zzah ?zzU1 ?zzU2 ?zzdd ?zzn1 ?zzn2 ?zzn3 ?zzn4 ?zzn5 ?zzn6 ?zzho ?zzhw ?zzk1 ?zzhT ?zzE; (case zzB => k_asm); (case zzF => k_asm); (case zzX => k_asm); (case zzT => k_asm); (case zzhk => first | exact rfl | assumption); (case zzN => k_asm); (case zzrd => k_mem); (case zzsc => k_mem); (case zzU1 => k_updF); (case zzU2 => (intro _; (try dsimp only); k_updF)); (case zzho => with_reducible assumption); (case zzah => k_mem); (case zzhw => with_reducible assumption); (case zzE => (refine' Mine.OnT.up ?zzEB ?zzEF ?zzEE ?zzEs; (case zzEE => with_reducible assumption); (case zzEF => k_asm); (case zzEB => k_asm); (case zzEs => intro _ _; rfl))); (case zzdd => k_ne); (case zzn1 => k_ne); (case zzn2 => k_ne); (case zzn3 => k_ne); (case zzn4 => k_ne); (case zzn5 => k_ne); (case zzn6 => k_ne); (case zzk1 => omega); (case zzhT => omega); (case zzhd => ktr_room); (case zzhu => ktr_units))))
  (k_with "call ref" => (k_here; (fail_if_success fail_if_success with_reducible show wpAny _ _ (call (Value.ref 331) [Value.ref _]) _ _ _); k_dflt (refine' Mine.rdnum_ok ?zzB ?zzF ?zzX ?zzT ?zzhk ?zzhd ?zzhu ?zzN ?zzrd ?zzsc ?zzah ?zzU1 ?zzU2 ?zzdd ?zzn1 ?zzn2 ?zzn3 ?zzn4 ?zzn5 ?zzn6 ?zzho ?zzhw ?zzk1 ?zzhT ?zzR ?_; (case zzB => k_asm); (case zzF => k_asm); (case zzX => k_asm); (case zzT => k_asm); (case zzhk => first | exact rfl | assumption); (case zzN => k_asm); (case zzrd => k_mem); (case zzsc => k_mem); (case zzU1 => k_updF); (case zzU2 => (intro _; (try dsimp only); k_updF)); (case zzho => with_reducible assumption); (case zzah => k_mem); (case zzhw => with_reducible assumption); (case zzR => with_reducible assumption); (case zzdd => k_ne); (case zzn1 => k_ne); (case zzn2 => k_ne); (case zzn3 => k_ne); (case zzn4 => k_ne); (case zzn5 => k_ne); (case zzn6 => k_ne); (case zzk1 => omega); (case zzhT => omega); (case zzhd => ktr_room); (case zzhu => ktr_units)); intro _; intro _ _ _ _ _ _ _ _ _ l1 _ N9; (try dsimp only at N9 l1); (try k_lt l1); (try dsimp only); (try k_fold); (try k_sweep)))
  (k_with "call ref" => (k_here; (fail_if_success fail_if_success with_reducible show wpAny _ _ (call (Value.ref 324) [Value.ref _, Value.str _ _]) _ _ _); k_dflt (refine' Mine.want_no ?zzB ?zzF ?zzX ?zzT ?zzhk ?zzhd ?zzhu ?zzN ?zzrd ?zzsc ?zzah ?zzU1 ?zzU2 ?zzdd ?zzn1 ?zzn2 ?zzn3 ?zzn4 ?zzn5 ?zzn6 ?zzho ?zzS ?zzhm ?zzk1 ?zzhT ?zzE; (case zzB => k_asm); (case zzF => k_asm); (case zzX => k_asm); (case zzT => k_asm); (case zzhk => first | exact rfl | assumption); (case zzN => k_asm); (case zzrd => k_mem); (case zzsc => k_mem); (case zzU1 => k_updF); (case zzU2 => (intro _; (try dsimp only); k_updF)); (case zzho => with_reducible assumption); (case zzah => k_mem); (case zzS => decide +kernel); (case zzhm => with_reducible assumption); (case zzE => (refine' Mine.OnT.up ?zzEB ?zzEF ?zzEE ?zzEs; (case zzEE => with_reducible assumption); (case zzEF => k_asm); (case zzEB => k_asm); (case zzEs => intro _ _; rfl))); (case zzdd => k_ne); (case zzn1 => k_ne); (case zzn2 => k_ne); (case zzn3 => k_ne); (case zzn4 => k_ne); (case zzn5 => k_ne); (case zzn6 => k_ne); (case zzk1 => omega); (case zzhT => omega); (case zzhd => ktr_room); (case zzhu => ktr_units))))
  (k_with "call ref" => (k_here; (fail_if_success fail_if_success with_reducible show wpAny _ _ (call (Value.ref 324) [Value.ref _, Value.str _ _]) _ _ _); k_dflt (refine' Mine.want_ok ?zzB ?zzF ?zzX ?zzT ?zzhk ?zzhd ?zzhu ?zzN ?zzrd ?zzsc ?zzah ?zzU1 ?zzU2 ?zzdd ?zzn1 ?zzn2 ?zzn3 ?zzn4 ?zzn5 ?zzn6 ?zzho ?zzS ?zzhm ?zzk1 ?zzhT ?zzR ?_; (case zzB => k_asm); (case zzF => k_asm); (case zzX => k_asm); (case zzT => k_asm); (case zzhk => first | exact rfl | assumption); (case zzN => k_asm); (case zzrd => k_mem); (case zzsc => k_mem); (case zzU1 => k_updF); (case zzU2 => (intro _; (try dsimp only); k_updF)); (case zzho => with_reducible assumption); (case zzah => k_mem); (case zzS => decide +kernel); (case zzhm => with_reducible assumption); (case zzR => with_reducible assumption); (case zzdd => k_ne); (case zzn1 => k_ne); (case zzn2 => k_ne); (case zzn3 => k_ne); (case zzn4 => k_ne); (case zzn5 => k_ne); (case zzn6 => k_ne); (case zzk1 => omega); (case zzhT => omega); (case zzhd => ktr_room); (case zzhu => ktr_units)); intro _ _ _ _ _ _ _ _ _ l1 _ N9; (try dsimp only at N9 l1); (try k_lt l1); (try dsimp only); (try k_fold); (try k_sweep)))
  (k_with "call ref" => (k_here; (fail_if_success fail_if_success with_reducible show wpAny _ _ (call (Value.ref 389) [Value.ref _, _]) _ _ _); k_dflt (refine' Mine.stretch_K ?zzB ?zzF ?zzX ?zzT ?zzhk ?zzhd ?zzhu ?zzN ?zzrd ?zzsc ?zzah ?zzU1 ?zzU2 ?zzdd ?zzn1 ?zzn2 ?zzn3 ?zzn4 ?zzn5 ?zzn6 ?zzho ?zzhl ?zzk1 ?zzhT ?zzR ?zzTL ?_ ?_; (case zzB => k_asm); (case zzF => k_asm); (case zzX => k_asm); (case zzT => k_asm); (case zzhk => first | exact rfl | assumption); (case zzN => k_asm); (case zzrd => k_mem); (case zzsc => k_mem); (case zzU1 => k_updF); (case zzU2 => (intro _; (try dsimp only); k_updF)); (case zzho => with_reducible assumption); (case zzah => k_mem); (case zzhl => first | exact .inl ⟨rfl, rfl⟩ | exact .inr ⟨_, _, rfl, rfl⟩); (case zzR => with_reducible assumption); (case zzTL => with_reducible assumption); (case zzdd => k_ne); (case zzn1 => k_ne); (case zzn2 => k_ne); (case zzn3 => k_ne); (case zzn4 => k_ne); (case zzn5 => k_ne); (case zzn6 => k_ne); (case zzk1 => omega); (case zzhT => omega); (case zzhd => ktr_room); (case zzhu => ktr_units)); rotate_left; intro _ _ _ _ _ _ _ _ _ _ _ _ _ _ _ _ _ _ l1 _ _ N9; (try dsimp only at N9 l1); (try k_lt l1); (try dsimp only); (try k_fold); (try k_sweep)))
  (k_with "call builtin:list.append" => (k_here; (fail_if_success fail_if_success with_reducible show wpAny _ _ (call (Value.builtin _) [Value.ref _, _]) _ _ _); k_dflt (refine' Mine.append_V ?zzF ?zzN ?zzU ?zzz ?_; (case zzF => k_asm); (case zzN => k_asm); (case zzU => k_updF); (case zzz => first | omega | (simp only [List.length_append, List.length_cons, List.length_nil]; omega))); intro _ _ N'; (try dsimp only at N'); (try k_sweep)))
  (k_with "call type:tuple" => (k_here; (fail_if_success fail_if_success with_reducible show wpAny _ _ (call (Value.type _) [Value.ref _]) _ _ _); k_dflt (refine' Mine.tuple_V ?zzF ?zzN ?zzm ?zzz ?_; (case zzF => k_asm); (case zzN => k_asm); (case zzm => k_mem); (case zzz => omega)); intro _ _ _ _ l1; (try k_lt l1); (try k_sweep)))
  (k_with "subscriptTail Name UnaryOp ref int" => (k_here; (fail_if_success fail_if_success with_reducible show wpAny _ _ (subscriptTail _ _ (Value.ref _) (Value.int (-1) _)) _ _ _); k_dflt (refine' Mine.item_last ?zzN ?zzm ?zzz ?_; (case zzN => k_asm); (case zzm => k_mem); (case zzz => omega); k_whole)))
  trivial
namespace Mine
open PySem PySem.W PyProof.Rows PySem.Calls PyProof.V PySem.Spec PySem.NumText
set_option maxHeartbeats 2000000 in
theorem dom_plain {w : World} {mean : ExcName → Option Value} {mg mb : Str → Option Value} {dp un : Nat} {gd : Option (List Code)} {cn : Str} {cs : Scope} {a : Addr} {ccd : Value} {cl : List (Str × Addr)} {outer : List Env} {A₀ : Around} {base h₀ : Heap} {L : Addr} {m : Str → Option Value} {zh : Heap} {zg : Array GenState} {zd : Drawn} {zt : Nat} {zo : OsState} {Q E : Value → Shared → Prop} {rd dr sc dxs ah : Addr} {eh : RdH} {o : Obj} {q0 : TokD} {r : List TokD} {h1 h2 : Int} {t1 t2 : Tok} {Tx : Str} {tT tks : Tok} {k : Nat} {rest : List (Addr × Obj)}
    (B : Below A₀ base outer h₀) (F : Fr h₀ L zh m) (X : (Mine.top.heap_1 w.params).In h₀) (T : Top Mine.V loose mean mg mb h₀) (hk : cs.kind = .function) (hdp : dp + 90 < recursionLimit) (hun : un + 900 < cLine)
    (N : News h₀ L zh ((dr, rdD eh sc ah) :: (dxs, scD h1 h2 t1 t2 Tx tT (k : Int) tks) :: rest)) (hrd : (rd, instObj 446 dr) ∈ rest) (hsc : (sc, instObj 285 dxs) ∈ rest) (hah : (ah, o) ∈ rest) (hoff1 : ∀ q ∈ rest, q.1 ≠ dr) (hoff2 : ∀ q ∈ rest, q.1 ≠ dxs) (hdd : @Ne Nat dr dxs) (hne1 : @Ne Nat sc dxs) (hne2 : @Ne Nat sc dr) (hne3 : @Ne Nat rd dr) (hne4 : @Ne Nat rd dxs) (hne5 : @Ne Nat ah dr) (hne6 : @Ne Nat ah dxs)
    (hk1 : (k : Int) ≤ Tx.length) (hT : Tx.length ≤ 20000) (ho : TokO q0 o) (hR : RestIs Tx k r) (hTL : TokL (q0 :: r))
    (hE : ∀ p, DomR (q0 :: r) (.error p) → OnT h₀ L m base (envX cn cs L a ccd cl :: outer) (p : Int) E ⟨zh, zg, zd, zt, zo⟩)
    (hQ : ∀ rs q3 r', DomR (q0 :: r) (.ok (rs, q3 :: r')) → TokL (q3 :: r') → ∀ D vs tl td o' tk2 h' tk' (kf : Nat), TokO q3 o' → RestIs Tx kf r' → (kf : Int) ≤ Tx.length → PairsV tl vs rs → (∀ q ∈ rest, q ∈ tl) → (∀ q ∈ tl, q.1 ≠ dr) → (∀ q ∈ tl, q.1 ≠ dxs) → (D, tupO vs) ∈ tl → (td, o') ∈ tl → Fr h₀ L h' m → News h₀ L h' ((dr, rdD eh sc td) :: (dxs, scD h1 h2 t1 t2 Tx tT (kf : Int) tk2) :: tl) → Q (.ref D) ⟨h', zg, zd, tk', zo⟩) (hb0 : ¬ IsS q0 (Str.ofString "{")) :
    wpAny (model prog w) (ktrTop dp un gd cn cs L a ccd cl outer) (call (.ref 396) [.ref rd]) Q E ⟨zh, zg, zd, zt, zo⟩ := by
  have hb : decide (q0.worth = none ∧ q0.txt = (Str.ofString "{").cps.toList) = false := decide_eq_false hb0
  refine wpAny_call ?_
  k_dflt (refine' code_def (binds := [(Str.ofString "self", .ref rd)]) ?k1 ?k2 ?k3 ?k4 ?k5 ?kA ?kF ?kK ?k6 ?k7 ?k8 ?k9 ?kB ?_ ?c2 ?c3 ?c4 ?c5; (case kA => exact rfl); (case kF => exact rfl); (case kK => assumption); (case k1 => k_asm); (case k2 => k_asm); (case k3 => k_asm); (case k4 => k_asm); (case k5 => k_asm); (case k6 => k_is); (case k7 => k_is); (case k8 => ktr_room); (case k9 => exact BindsTo.of_eq rfl); (case c5 => decide); (case kB => exact locs rfl); (case c2 => exact rfl); (case c3 => exact rfl); (case c4 => exact rfl); k_whole; intro g' L' h' FG' F' N' B' X' T'; (try dsimp only); (try k_fold); (show let Ab : PySem.Around := ktrTop dp un gd cn cs L a ccd cl outer; let ev : PySem.Env := _; let Ac : PySem.Around := PySem.Around.deeper Ab ev; wpAny _ Ac (PySem.execs _ ev) _ _ _); intro Ab ev Ac; (replace hdp : PySem.Around.depth Ab + _ < _ := hdp); (replace hun : PySem.Around.units Ab + _ < _ := hun))
  k_steps
  all_goals (
    (with_reducible rename Fr _ _ _ _ => Fz)
    (with_reducible rename News _ _ _ _ => Nz)
    first
    | exact OnT.up B' FG' (hE _ (.plainBad hb0 (by assumption))) (fun _ _ => rfl)
    | ((with_reducible rename StrR _ _ _ => hs9)
       (with_reducible rename TokL _ => htl9)
       refine' hQ _ _ _ (.plain hb0 hs9) htl9 _ [.ref _] ((_, tupO [.ref _]) :: (_, tupO [.int _ _, .int _ _]) :: (_, _) :: rest) _ _ _ _ _ _ ?ho ?hr ?hk (.cons ⟨_, _, _, rfl, .tail _ (.head _)⟩ .nil) (fun q hq => .tail _ (.tail _ (.tail _ hq))) ?o1 ?o2 (.head _) (.tail _ (.tail _ (.head _))) Fz (newsSub Nz (sub_cons ?m1 (sub_cons ?m2 (sub_cons ?m3 (sub_cons ?m4 (sub_cons ?m5 fun q hq => ?m6))))))
       case m1 => k_mem
       case m2 => k_mem
       case m3 => k_mem
       case m4 => k_mem
       case m5 => k_mem
       case m6 => k_mem
       case ho => assumption
       case hr => assumption
       case hk => assumption
       case o1 => exact off_cons (by omega) (off_cons (by omega) (off_cons (by omega) hoff1))
       case o2 => exact off_cons (by omega) (off_cons (by omega) (off_cons (by omega) hoff2))))
set_option maxHeartbeats 4000000 in
theorem dom_curly {w : World} {mean : ExcName → Option Value} {mg mb : Str → Option Value} {dp un : Nat} {gd : Option (List Code)} {cn : Str} {cs : Scope} {a : Addr} {ccd : Value} {cl : List (Str × Addr)} {outer : List Env} {A₀ : Around} {base h₀ : Heap} {L : Addr} {m : Str → Option Value} {zh : Heap} {zg : Array GenState} {zd : Drawn} {zt : Nat} {zo : OsState} {Q E : Value → Shared → Prop} {rd dr sc dxs ah : Addr} {eh : RdH} {o : Obj} {q0 : TokD} {r : List TokD} {h1 h2 : Int} {t1 t2 : Tok} {Tx : Str} {tT tks : Tok} {k : Nat} {rest : List (Addr × Obj)}
    (B : Below A₀ base outer h₀) (F : Fr h₀ L zh m) (X : (Mine.top.heap_1 w.params).In h₀) (T : Top Mine.V loose mean mg mb h₀) (hk : cs.kind = .function) (hdp : dp + 90 < recursionLimit) (hun : un + 900 < cLine)
    (N : News h₀ L zh ((dr, rdD eh sc ah) :: (dxs, scD h1 h2 t1 t2 Tx tT (k : Int) tks) :: rest)) (hrd : (rd, instObj 446 dr) ∈ rest) (hsc : (sc, instObj 285 dxs) ∈ rest) (hah : (ah, o) ∈ rest) (hoff1 : ∀ q ∈ rest, q.1 ≠ dr) (hoff2 : ∀ q ∈ rest, q.1 ≠ dxs) (hdd : @Ne Nat dr dxs) (hne1 : @Ne Nat sc dxs) (hne2 : @Ne Nat sc dr) (hne3 : @Ne Nat rd dr) (hne4 : @Ne Nat rd dxs) (hne5 : @Ne Nat ah dr) (hne6 : @Ne Nat ah dxs)
    (hk1 : (k : Int) ≤ Tx.length) (hT : Tx.length ≤ 20000) (ho : TokO q0 o) (hR : RestIs Tx k r) (hTL : TokL (q0 :: r))
    (hE : ∀ p, DomR (q0 :: r) (.error p) → OnT h₀ L m base (envX cn cs L a ccd cl :: outer) (p : Int) E ⟨zh, zg, zd, zt, zo⟩)
    (hQ : ∀ rs q3 r', DomR (q0 :: r) (.ok (rs, q3 :: r')) → TokL (q3 :: r') → ∀ D vs tl td o' tk2 h' tk' (kf : Nat), TokO q3 o' → RestIs Tx kf r' → (kf : Int) ≤ Tx.length → PairsV tl vs rs → (∀ q ∈ rest, q ∈ tl) → (∀ q ∈ tl, q.1 ≠ dr) → (∀ q ∈ tl, q.1 ≠ dxs) → (D, tupO vs) ∈ tl → (td, o') ∈ tl → Fr h₀ L h' m → News h₀ L h' ((dr, rdD eh sc td) :: (dxs, scD h1 h2 t1 t2 Tx tT (kf : Int) tk2) :: tl) → Q (.ref D) ⟨h', zg, zd, tk', zo⟩) (hb0 : IsS q0 (Str.ofString "{")) (hlen : r.length ≤ 1000) :
    wpAny (model prog w) (ktrTop dp un gd cn cs L a ccd cl outer) (call (.ref 396) [.ref rd]) Q E ⟨zh, zg, zd, zt, zo⟩ := by
  have hb : decide (q0.worth = none ∧ q0.txt = (Str.ofString "{").cps.toList) = true := decide_eq_true hb0
  obtain ⟨hTL1, q1, r1, rfl⟩ := hTL.sign hb0 (by decide +kernel)
  refine wpAny_call ?_
  k_dflt (refine' code_def (binds := [(Str.ofString "self", .ref rd)]) ?k1 ?k2 ?k3 ?k4 ?k5 ?kA ?kF ?kK ?k6 ?k7 ?k8 ?k9 ?kB ?_ ?c2 ?c3 ?c4 ?c5; (case kA => exact rfl); (case kF => exact rfl); (case kK => assumption); (case k1 => k_asm); (case k2 => k_asm); (case k3 => k_asm); (case k4 => k_asm); (case k5 => k_asm); (case k6 => k_is); (case k7 => k_is); (case k8 => ktr_room); (case k9 => exact BindsTo.of_eq rfl); (case c5 => decide); (case kB => exact locs rfl); (case c2 => exact rfl); (case c3 => exact rfl); (case c4 => exact rfl); k_whole; intro g' L' h' FG' F' N' B' X' T'; (try dsimp only); (try k_fold); (show let Ab : PySem.Around := ktrTop dp un gd cn cs L a ccd cl outer; let ev : PySem.Env := _; let Ac : PySem.Around := PySem.Around.deeper Ab ev; wpAny _ Ac (PySem.execs _ ev) _ _ _); intro Ab ev Ac; (replace hdp : PySem.Around.depth Ab + _ < _ := hdp); (replace hun : PySem.Around.units Ab + _ < _ := hun))
  k_steps
  rename_i td od tk2 hz0 tkz kf ho' hr' hk' qz ez fl hz1 l1b hz2 F1 N1
  refine Stop.mk ?_
  obtain ⟨l1b1, l1b2, l1b3, l1b4⟩ := l1b
  obtain ⟨l1a1, l1a2, l1a3⟩ := l1
  rw [List.length_cons] at hlen
  refine While_inv (L := L') (n₀ := r1.length) (ReadJ eh rd dr sc dxs fl h1 h2 t1 t2 Tx tT (q0 :: q1 :: r1) 1000 rest) F1 (newsSub N1 (sub_cons (x := (dr, rdD eh sc td)) ?m1 (sub_cons (x := (dxs, scD h1 h2 t1 t2 Tx tT (kf : Int) tk2)) ?m2 (sub_cons (x := (fl, listOf ([] : List Value).toArray 0)) ?m3 (sub_cons (x := (td, od)) ?m4 fun q hq => ?m5)))))
    ⟨td, od, q1, r1, kf, tk2, [], [], 0, (td, od) :: rest, rfl, rfl, by rw [List.length_nil]; omega, ho', .head _, hr', hTL1, hk', .nil, fun x hx => .tail _ hx, off_cons (by omega) hoff1, off_cons (by omega) hoff2, off_cons (by omega) (fun q hq => Nat.ne_of_lt (allLt_mem l1b4 q hq)), fun res h => .curly hb0 h, rfl, rfl⟩ ?turn
  case m1 => k_mem
  case m2 => k_mem
  case m3 => k_mem
  case m4 => k_mem
  case m5 => k_mem
  have hdf : @Ne Nat dr fl := by omega
  have hxf : @Ne Nat dxs fl := by omega
  have hff : @Ne Nat sc fl := Nat.ne_of_lt (allLt_mem l1b4 _ hsc)
  have hrf : @Ne Nat rd fl := Nat.ne_of_lt (allLt_mem l1b4 _ hrd)
  intro n m₁ nx h tk3 F2 N2 hJ
  obtain ⟨ah2, o2, q, r2, k2, tks2, fs, vs, nn, tl, rfl, rfl, b1, j1, j2, j3, j4, j5, j6, j7, j8, j9, j10, j11, e1, e2⟩ := hJ.out
  have F3 := fr_put (fr_put F2 (Str.ofString "self") e1) (Str.ofString "found") e2
  have hrd2 := j7 _ hrd
  have hsc2 := j7 _ hsc
  have hah1 : @Ne Nat ah2 dr := j8 _ j2
  have hah2 : @Ne Nat ah2 dxs := j9 _ j2
  have hah3 : @Ne Nat ah2 fl := j10 _ j2
  have hvl := j6.length
  dsimp only
  clear F2 hJ F1 N1 N ho' hr' hk' hb
  by_cases hend : IsS q (Str.ofString "}")
  · have hb2 : decide (q.worth = none ∧ q.txt = (Str.ofString "}").cps.toList) = true := decide_eq_true hend
    obtain ⟨hTL2, q2, r3, rfl⟩ := j4.sign hend (by decide +kernel)
    k_steps
    all_goals (
      (with_reducible rename Fr _ _ _ _ => Fz)
      (with_reducible rename News _ _ _ _ => Nz)
      refine' hQ fs q2 r3 (j11 _ (.done hend)) hTL2 _ vs ((_, tupO vs) :: (_, _) :: tl) _ _ _ _ _ _ ?ho ?hr ?hk (j6.mono fun x hx => .tail _ (.tail _ hx)) (fun q hq => .tail _ (.tail _ (j7 q hq))) ?o1 ?o2 (.head _) (.tail _ (.head _)) Fz (newsSub Nz (sub_cons ?m1 (sub_cons ?m2 (sub_cons ?m3 (sub_cons ?m4 fun q hq => ?m6)))))
      case m1 => k_mem
      case m2 => k_mem
      case m3 => k_mem
      case m4 => k_mem
      case m6 => k_mem
      case ho => assumption
      case hr => assumption
      case hk => assumption
      case o1 => exact off_cons (by omega) (off_cons (by omega) j8)
      case o2 => exact off_cons (by omega) (off_cons (by omega) j9))
  · have hb2 : decide (q.worth = none ∧ q.txt = (Str.ofString "}").cps.toList) = false := decide_eq_false hend
    rcases List.eq_nil_or_concat fs with rfl | ⟨f, ⟨l, hh⟩, rfl⟩
    · obtain rfl : vs = [] := List.eq_nil_of_length_eq_zero hvl
      k_steps
      all_goals (
        (with_reducible rename Fr _ _ _ _ => Fz)
        (with_reducible rename News _ _ _ _ => Nz)
        first
        | exact OnT.up B' FG' (hE _ (j11 _ (.firstBad hend (by assumption)))) (fun _ _ => rfl)
        | ((with_reducible rename StrR _ _ _ => hs9)
           (with_reducible rename TokL _ => htl9)
           have hln := hs9.len
           simp only [List.length_cons] at hln
           refine' WhileStep.intro (n' := _) Fz (newsSub Nz (sub_cons (x := (dr, rdD eh sc _)) ?m1 (sub_cons (x := (dxs, scD h1 h2 t1 t2 Tx tT _ _)) ?m2 (sub_cons (x := (fl, listOf (([] : List Value) ++ [Value.ref _]).toArray _)) ?m3 (sub_cons (x := (_, tupO [.int _ _, .int _ _])) ?m4 (sub_cons (x := (_, _)) ?m5 fun q hq => ?m6)))))) ?lt
             ⟨_, _, _, _, _, _, ([] : List (Int × Int)) ++ [(_, _)], ([] : List Value) ++ [Value.ref _], _, (_, tupO [.int _ _, .int _ _]) :: (_, _) :: tl, rfl, rfl, ?b, ?ho, .tail _ (.head _), ?hr, htl9, ?hk, ?pv, fun x hx => .tail _ (.tail _ (j7 x hx)), ?o1, ?o2, ?o3, fun res h => j11 _ (.first hend hs9 h), rfl, rfl⟩
           case m1 => k_mem
           case m2 => k_mem
           case m3 => k_mem
           case m4 => k_mem
           case m5 => k_mem
           case m6 => k_mem
           case ho => assumption
           case hr => assumption
           case hk => assumption
           case lt => ((try simp only [List.length_cons]); omega)
           case b => (simp only [List.length_append, List.length_cons, List.length_nil] at b1 ⊢; omega)
           case pv => exact PairsV.app (j6.mono fun x hx => .tail _ (.tail _ hx)) (.cons ⟨_, _, _, rfl, .head _⟩ .nil)
           case o1 => exact off_cons (by omega) (off_cons (by omega) j8)
           case o2 => exact off_cons (by omega) (off_cons (by omega) j9)
           case o3 => exact off_cons (by omega) (off_cons (by omega) j10)))
    · rw [List.concat_eq_append] at b1 j6 j11 hvl
      obtain ⟨us, av, tv, uv, rfl, hul, hup, hum⟩ := j6.snoc
      have hvl2 : (us ++ [Value.ref av]).length = f.length + 1 := by rw [List.length_append, hul]; rfl
      have b2 : f.length + 1 + r2.length ≤ 1000 := by simpa using b1
      by_cases hc : IsS q (Str.ofString ",")
      · obtain ⟨hTL2, q2, r3, rfl⟩ := j4.sign hc (by decide +kernel)
        k_steps
        all_goals (
            (with_reducible rename Fr _ _ _ _ => Fz)
            (with_reducible rename News _ _ _ _ => Nz)
            first
            | exact OnT.up B' FG' (hE _ (j11 _ (.nextBad hend hc (by assumption)))) (fun _ _ => rfl)
            | ((with_reducible rename StrR _ _ _ => hs9)
               (with_reducible rename TokL _ => htl9)
               have hln := hs9.len
               simp only [List.length_cons] at hln
               refine' WhileStep.intro (n' := _) Fz (newsSub Nz (sub_cons (x := (dr, rdD eh sc _)) ?m1 (sub_cons (x := (dxs, scD h1 h2 t1 t2 Tx tT _ _)) ?m2 (sub_cons (x := (fl, listOf ((us ++ [Value.ref av]) ++ [Value.ref _]).toArray _)) ?m3 (sub_cons (x := (_, tupO [.int _ _, .int _ _])) ?m4 (sub_cons (x := (_, _)) ?m5 fun q hq => ?m6)))))) ?lt
                 ⟨_, _, _, _, _, _, (f ++ [(l, hh)]) ++ [(_, _)], (us ++ [Value.ref av]) ++ [Value.ref _], _, (_, tupO [.int _ _, .int _ _]) :: (_, _) :: tl, rfl, rfl, ?b, ?ho, .tail _ (.head _), ?hr, htl9, ?hk, ?pv, fun x hx => .tail _ (.tail _ (j7 x hx)), ?o1, ?o2, ?o3, fun res h => j11 _ (.next hend hc hs9 h), rfl, rfl⟩
               case m1 => k_mem
               case m2 => k_mem
               case m3 => k_mem
               case m4 => k_mem
               case m5 => k_mem
               case m6 => k_mem
               case ho => assumption
               case hr => assumption
               case hk => assumption
               case lt => ((try simp only [List.length_cons]); omega)
               case b => (simp only [List.length_append, List.length_cons, List.length_nil] at b1 ⊢; omega)
               case pv => exact PairsV.app (j6.mono fun x hx => .tail _ (.tail _ hx)) (.cons ⟨_, _, _, rfl, .head _⟩ .nil)
               case o1 => exact off_cons (by omega) (off_cons (by omega) j8)
               case o2 => exact off_cons (by omega) (off_cons (by omega) j9)
               case o3 => exact off_cons (by omega) (off_cons (by omega) j10)))
      · have hEc := hE _ (j11 _ (.noComma hend (by simp) hc))
        k_steps
end Mine
namespace Mine
open PySem PySem.W PyProof.Rows PySem.Calls PyProof.V PySem.Spec PySem.NumText
theorem domain_K {w : World} {mean : ExcName → Option Value} {mg mb : Str → Option Value} {dp un : Nat} {gd : Option (List Code)} {cn : Str} {cs : Scope} {a : Addr} {ccd : Value} {cl : List (Str × Addr)} {outer : List Env} {A₀ : Around} {base h₀ : Heap} {L : Addr} {m : Str → Option Value} {zh : Heap} {zg : Array GenState} {zd : Drawn} {zt : Nat} {zo : OsState} {Q E : Value → Shared → Prop} {news : List (Addr × Obj)} {gA : Obj → List (Addr × Obj)} {gB : Obj → Obj → List (Addr × Obj)} {rd dr sc dxs ah : Addr} {eh : RdH} {o : Obj} {q0 : TokD} {r : List TokD} {h1 h2 : Int} {t1 t2 : Tok} {Tx : Str} {tT tks : Tok} {k : Nat}
    (B : Below A₀ base outer h₀) (F : Fr h₀ L zh m) (X : (Mine.top.heap_1 w.params).In h₀) (T : Top Mine.V loose mean mg mb h₀) (hk : cs.kind = .function) (hdp : dp + 90 < recursionLimit) (hun : un + 900 < cLine)
    (N : News h₀ L zh news) (hrd : (rd, instObj 446 dr) ∈ news) (hsc : (sc, instObj 285 dxs) ∈ news) (hah : (ah, o) ∈ news) (U1 : UpdF dr (rdD eh sc ah) news gA) (U2 : ∀ o, UpdF dxs (scD h1 h2 t1 t2 Tx tT (k : Int) tks) (gA o) (gB o)) (hdd : @Ne Nat dr dxs) (hne1 : @Ne Nat sc dxs) (hne2 : @Ne Nat sc dr) (hne3 : @Ne Nat rd dr) (hne4 : @Ne Nat rd dxs) (hne5 : @Ne Nat ah dr) (hne6 : @Ne Nat ah dxs)
    (ho : TokO q0 o) (hlen : r.length ≤ 1000)
    (hk1 : (k : Int) ≤ Tx.length) (hT : Tx.length ≤ 20000) (hR : RestIs Tx k r) (hTL : TokL (q0 :: r))
    (hE : ∀ p, DomR (q0 :: r) (.error p) → OnT h₀ L m base (envX cn cs L a ccd cl :: outer) (p : Int) E ⟨zh, zg, zd, zt, zo⟩)
    (hQ : ∀ rs q3 r', DomR (q0 :: r) (.ok (rs, q3 :: r')) → TokL (q3 :: r') → ∀ D vs tl td o' tk2 h' tk' (kf : Nat), TokO q3 o' → RestIs Tx kf r' → (kf : Int) ≤ Tx.length → PairsV tl vs rs → (∀ q ∈ news, q.1 ≠ dr → q.1 ≠ dxs → q ∈ tl) → (∀ q ∈ tl, q.1 ≠ dr) → (∀ q ∈ tl, q.1 ≠ dxs) → (D, tupO vs) ∈ tl → (td, o') ∈ tl → Fr h₀ L h' m → News h₀ L h' ((dr, rdD eh sc td) :: (dxs, scD h1 h2 t1 t2 Tx tT (kf : Int) tk2) :: tl) → Q (.ref D) ⟨h', zg, zd, tk', zo⟩) :
    wpAny (model prog w) (ktrTop dp un gd cn cs L a ccd cl outer) (call (.ref 396) [.ref rd]) Q E ⟨zh, zg, zd, zt, zo⟩ := by
  obtain ⟨rest, r1, r2, r3, r4, r5⟩ := canon2 U1 U2 hdd
  have hQ' : ∀ rs q3 r', DomR (q0 :: r) (.ok (rs, q3 :: r')) → TokL (q3 :: r') → ∀ D vs tl td o' tk2 h' tk' (kf : Nat), TokO q3 o' → RestIs Tx kf r' → (kf : Int) ≤ Tx.length → PairsV tl vs rs → (∀ q ∈ rest, q ∈ tl) → (∀ q ∈ tl, q.1 ≠ dr) → (∀ q ∈ tl, q.1 ≠ dxs) → (D, tupO vs) ∈ tl → (td, o') ∈ tl → Fr h₀ L h' m → News h₀ L h' ((dr, rdD eh sc td) :: (dxs, scD h1 h2 t1 t2 Tx tT (kf : Int) tk2) :: tl) → Q (.ref D) ⟨h', zg, zd, tk', zo⟩ :=
    fun rs q3 r' a1 a2 D vs tl td o' tk2 h' tk' kf a3 a4 a5 a6 a7 => hQ rs q3 r' a1 a2 D vs tl td o' tk2 h' tk' kf a3 a4 a5 a6 fun q hq c1 c2 => a7 q (r5 q hq c1 c2)
  by_cases hb0 : IsS q0 (Str.ofString "{")
  · exact dom_curly B F X T hk hdp hun (newsSub N r1) (r5 _ hrd hne3 hne4) (r5 _ hsc hne2 hne1) (r5 _ hah hne5 hne6) r2 r3 hdd hne1 hne2 hne3 hne4 hne5 hne6 hk1 hT ho hR hTL hE hQ' hb0 hlen
  · exact dom_plain B F X T hk hdp hun (newsSub N r1) (r5 _ hrd hne3 hne4) (r5 _ hsc hne2 hne1) (r5 _ hah hne5 hne6) r2 r3 hdd hne1 hne2 hne3 hne4 hne5 hne6 hk1 hT ho hR hTL hE hQ' hb0
/-- what is told is one thing -/
theorem StrR.uniq {last : Option Int} {ks : List TokD} {x y : Except Nat (Int × Int × List TokD)} (h : StrR last ks x) (k : StrR last ks y) : x = y := by
  cases h with
  | noLow a =>
    cases k with
    | noLow b => rfl
    | noDots b => cases a.symm.trans b
    | noHigh b => cases a.symm.trans b
    | bad b => cases a.symm.trans b
    | good b => cases a.symm.trans b
  | noDots a c =>
    cases k with
    | noLow b => cases a.symm.trans b
    | noDots b => rfl
    | noHigh b d => contradiction
    | bad b d => contradiction
    | good b d => contradiction
  | noHigh a c e =>
    cases k with
    | noLow b => cases a.symm.trans b
    | noDots b d => contradiction
    | noHigh b d => rfl
    | bad b d f => rw [e] at f; cases f
    | good b d f => rw [e] at f; cases f
  | bad a c e g =>
    cases k with
    | noLow b => cases a.symm.trans b
    | noDots b d => contradiction
    | noHigh b d f => rw [e] at f; cases f
    | bad b d f => rfl
    | good b d f i => rw [e] at f; cases f; rw [a] at b; cases b; exact absurd g i
  | good a c e g =>
    cases k with
    | noLow b => cases a.symm.trans b
    | noDots b d => contradiction
    | noHigh b d f => rw [e] at f; cases f
    | bad b d f i => rw [e] at f; cases f; rw [a] at b; cases b; contradiction
    | good b d f i => rw [e] at f; cases f; rw [a] at b; cases b; rfl
theorem LoopR.inv {g : List (Int × Int)} {ks : List TokD} {y : Except Nat (List (Int × Int) × List TokD)} (k : LoopR g ks y) : ∃ t r, ks = t :: r ∧
    ((IsS t (Str.ofString "}") ∧ y = .ok (g, r)) ∨
     (¬ IsS t (Str.ofString "}") ∧ g ≠ [] ∧ ¬ IsS t (Str.ofString ",") ∧ y = .error t.pos) ∨
     (¬ IsS t (Str.ofString "}") ∧ g = [] ∧ ∃ p, StrR none (t :: r) (.error p) ∧ y = .error p) ∨
     (¬ IsS t (Str.ofString "}") ∧ g = [] ∧ ∃ lo hi r', StrR none (t :: r) (.ok (lo, hi, r')) ∧ LoopR [(lo, hi)] r' y) ∨
     (¬ IsS t (Str.ofString "}") ∧ IsS t (Str.ofString ",") ∧ ∃ f l h p, g = f ++ [(l, h)] ∧ StrR (some h) r (.error p) ∧ y = .error p) ∨
     (¬ IsS t (Str.ofString "}") ∧ IsS t (Str.ofString ",") ∧ ∃ f l h lo hi r', g = f ++ [(l, h)] ∧ StrR (some h) r (.ok (lo, hi, r')) ∧ LoopR (f ++ [(l, h)] ++ [(lo, hi)]) r' y)) := by
  cases k with
  | done a => exact ⟨_, _, rfl, .inl ⟨a, rfl⟩⟩
  | noComma a b c => exact ⟨_, _, rfl, .inr (.inl ⟨a, b, c, rfl⟩)⟩
  | firstBad a b => exact ⟨_, _, rfl, .inr (.inr (.inl ⟨a, rfl, _, b, rfl⟩))⟩
  | first a b c => exact ⟨_, _, rfl, .inr (.inr (.inr (.inl ⟨a, rfl, _, _, _, b, c⟩)))⟩
  | nextBad a b c => exact ⟨_, _, rfl, .inr (.inr (.inr (.inr (.inl ⟨a, b, _, _, _, _, rfl, c, rfl⟩))))⟩
  | next a b c d => exact ⟨_, _, rfl, .inr (.inr (.inr (.inr (.inr ⟨a, b, _, _, _, _, _, _, rfl, c, d⟩))))⟩
theorem snoc_ne {f : List (Int × Int)} {a : Int × Int} : f ++ [a] ≠ [] := by simp
theorem snoc_inj {f g : List (Int × Int)} {a b : Int × Int} (h : f ++ [a] = g ++ [b]) : f = g ∧ a = b := by
  have := List.append_inj' h rfl
  exact ⟨this.1, by simpa using this.2⟩
theorem LoopR.uniq {f : List (Int × Int)} {ks : List TokD} {x : Except Nat (List (Int × Int) × List TokD)} (h : LoopR f ks x) : ∀ {y}, LoopR f ks y → x = y := by
  induction h with
  | done a =>
    intro y k
    obtain ⟨t, r, e, c⟩ := k.inv
    cases e
    rcases c with c | c | c | c | c | c
    · exact c.2.symm
    all_goals exact absurd a c.1
  | noComma a b c =>
    intro y k
    obtain ⟨t, r, e, d⟩ := k.inv
    cases e
    rcases d with d | d | d | d | d | d
    · exact absurd d.1 a
    · exact d.2.2.2.symm
    · exact absurd d.2.1 b
    · exact absurd d.2.1 b
    · exact absurd d.2.1 c
    · exact absurd d.2.1 c
  | firstBad a b =>
    intro y k
    obtain ⟨t, r, e, d⟩ := k.inv
    cases e
    rcases d with d | d | d | d | d | d
    · exact absurd d.1 a
    · exact absurd rfl d.2.1
    · obtain ⟨_, _, p, h1, rfl⟩ := d
      cases b.uniq h1
      rfl
    · obtain ⟨_, _, _, _, _, h1, _⟩ := d
      cases b.uniq h1
    · obtain ⟨_, _, _, _, _, _, h1, _⟩ := d
      exact absurd h1.symm snoc_ne
    · obtain ⟨_, _, _, _, _, _, _, _, h1, _⟩ := d
      exact absurd h1.symm snoc_ne
  | first a b c ih =>
    intro y k
    obtain ⟨t, r, e, d⟩ := k.inv
    cases e
    rcases d with d | d | d | d | d | d
    · exact absurd d.1 a
    · exact absurd rfl d.2.1
    · obtain ⟨_, _, p, h1, rfl⟩ := d
      cases b.uniq h1
    · obtain ⟨_, _, _, _, _, h1, h2⟩ := d
      cases b.uniq h1
      exact ih h2
    · obtain ⟨_, _, _, _, _, _, h1, _⟩ := d
      exact absurd h1.symm snoc_ne
    · obtain ⟨_, _, _, _, _, _, _, _, h1, _⟩ := d
      exact absurd h1.symm snoc_ne
  | nextBad a b c =>
    intro y k
    obtain ⟨t, r, e, d⟩ := k.inv
    cases e
    rcases d with d | d | d | d | d | d
    · exact absurd d.1 a
    · exact absurd b d.2.2.1
    · exact absurd d.2.1 snoc_ne
    · exact absurd d.2.1 snoc_ne
    · obtain ⟨_, _, _, _, _, _, h1, h2, rfl⟩ := d
      obtain ⟨rfl, h3⟩ := snoc_inj h1
      cases h3
      cases c.uniq h2
      rfl
    · obtain ⟨_, _, _, _, _, _, _, _, h1, h2, _⟩ := d
      obtain ⟨rfl, h3⟩ := snoc_inj h1
      cases h3
      cases c.uniq h2
  | next a b c _ ih =>
    intro y k
    obtain ⟨t, r, e, d⟩ := k.inv
    cases e
    rcases d with d | d | d | d | d | d
    · exact absurd d.1 a
    · exact absurd b d.2.2.1
    · exact absurd d.2.1 snoc_ne
    · exact absurd d.2.1 snoc_ne
    · obtain ⟨_, _, _, _, _, _, h1, h2, rfl⟩ := d
      obtain ⟨rfl, h3⟩ := snoc_inj h1
      cases h3
      cases c.uniq h2
    · obtain ⟨_, _, _, _, _, _, _, _, h1, h2, h4⟩ := d
      obtain ⟨rfl, h3⟩ := snoc_inj h1
      cases h3
      cases c.uniq h2
      exact ih h4
theorem DomR.uniq {ks : List TokD} {x y : Except Nat (List (Int × Int) × List TokD)} (h : DomR ks x) (k : DomR ks y) : x = y := by
  cases h with
  | plainBad a b =>
    cases k with
    | plainBad c d => cases b.uniq d; rfl
    | plain c d => cases b.uniq d
    | curly c => contradiction
  | plain a b =>
    cases k with
    | plainBad c d => cases b.uniq d
    | plain c d => cases b.uniq d; rfl
    | curly c => contradiction
  | curly a b =>
    cases k with
    | plainBad c d => contradiction
    | plain c d => contradiction
    | curly c d => exact b.uniq d
end Mine
theorem Mine.rw_P32_scn : True := by
  k_with_none
  (k_with "subscriptTail" => (k_here; (fail_if_success fail_if_success with_reducible show wpAny _ _ (subscriptTail _ _ (Value.ref _) (Value.str _ _)) _ _ _); k_dflt (refine' Mine.d_get ?zzN ?zzm ?zzo ?zzf ?_; (case zzN => k_asm); (case zzm => k_mem); (case zzo => with_reducible assumption); (case zzf => exact rfl); k_whole)))
  (k_with "setItem ref str" => (k_here; (fail_if_success fail_if_success with_reducible show wpAny _ _ (setItem (Value.ref _) (Value.str _ _) _) _ _ _); k_dflt (refine' Mine.d_set ?zzF ?zzN ?zzU ?zzo ?_ ?zzz; (case zzF => k_asm); (case zzN => k_asm); (case zzU => k_updF); (case zzo => with_reducible assumption); (case zzz => exact Nat.le_of_ble_eq_true rfl)); intro _ _ _ _ _; (try k_sweep)))
  (k_with "call builtin:len" => (k_here; (fail_if_success fail_if_success with_reducible show wpAny _ _ (call (Value.builtin "len") [Value.ref _]) _ _ _); k_dflt (refine' Mine.len_L ?zzN ?zzm ?zzb ?_; (case zzN => k_asm); (case zzm => k_mem); (case zzb => omega); k_whole)))
  (k_with "subscriptTail" => (k_here; (fail_if_success fail_if_success with_reducible show wpAny _ _ (subscriptTail _ _ (Value.ref _) (Value.int _ _)) _ _ _); k_dflt (refine' Mine.item_L ?zzN ?zzm ?zza ?zzb ?zzc ?_; (case zzN => k_asm); (case zzm => k_mem); (case zza => omega); (case zzb => omega); (case zzc => omega); k_whole); intro _ _))
  (k_with "subscriptTail" => (k_here; (fail_if_success fail_if_success with_reducible show wpAny _ _ (subscriptTail _ _ (Value.ref _) (Value.int _ _)) _ _ _); k_dflt (refine' Mine.item_LI ?zzN ?zzm ?zzi ?zza ?zzb ?zzc ?_; (case zzN => k_asm); (case zzm => k_mem); (case zzi => with_reducible assumption); (case zza => omega); (case zzb => omega); (case zzc => omega); k_whole); intro _ _))
  (k_with "ite" => first | with_reducible refine PyProof.Rows.ite_tt ?_ | with_reducible refine PyProof.Rows.ite_ff ?_)
  (k_with "execs cons" => (k_here; (try k_gentoks); (with_reducible refine wpAny_execs_cons ?_); (try dsimp only); k_fold))
  (k_with "eval Constant int" => (with_reducible refine Mine.constI ?_))
  (k_with "eval Constant str" => (with_reducible refine Mine.constS ?_))
  (k_with "binaryOp Add int int" => (with_reducible refine Mine.addI ?_))
  (k_with "subscriptTail" => (k_here; (fail_if_success fail_if_success with_reducible show wpAny _ _ (subscriptTail _ (Expr.Slice (some _) (some _) none _) (Value.str _ _) (Value.ref _)) _ _ _); k_dflt (refine' Mine.str_slice (s := ⟨_, _, _, _, _⟩) ?zzF ?zzN ?zza ?zzb ?zzc ?zzd ?_ ?zzs ?zzt; (case zzF => k_asm); (case zzN => k_asm); (case zza => omega); (case zzb => omega); (case zzc => omega); (case zzd => omega); (case zzs => with_unfolding_all rfl); (case zzt => kmk_pure)); intro _ _ _ _ _ _ _; (try k_sweep)))
  (k_with "subscriptTail" => (k_here; (fail_if_success fail_if_success with_reducible show wpAny _ _ (subscriptTail _ _ (Value.str _ _) (Value.int _ _)) _ _ _); k_dflt (refine' Mine.str_item ?zza ?zzb ?zzc ?_; (case zza => omega); (case zzb => omega); (case zzc => omega)); intro _ _ _ _))
  (k_with "compareOp In str str" => (k_here; (fail_if_success fail_if_success with_reducible show wpAny _ _ (compareOp CmpOp.In (Value.str _ _) (Value.str _ _)) _ _ _); (refine Mine.str_in (by with_reducible assumption) ?_); intro _ _))
  (k_with "exec While Compare cons nil" => (refine Mine.stop_intro ?_))
  (k_with "exec While BoolOp cons nil" => (refine Mine.stop_intro ?_))
  (k_with "exec While UnaryOp cons nil" => (refine Mine.stop_intro ?_))
  (k_with "exec While Constant cons nil" => (refine Mine.stop_intro ?_))
  (k_with "exec While" => (refine Mine.stop_intro ?_))
  (k_with "call" => ((fail_if_success fail_if_success with_reducible show wpAny _ _ (call (Prod.fst _) _) _ _ _); dsimp only [List.cons_append, List.nil_append, List.append_nil]))
  trivial
namespace Mine
open PySem PySem.W PyProof.Rows PySem.Calls PyProof.V PySem.Spec PySem.NumText
theorem cls_new {pg : Program} {w : World} {A : Around} {E : Value → Shared → Prop} {zh : Heap} {zg : Array GenState} {zd : Drawn} {zt : Nat} {zo : OsState} {K : Frag} {C L : Addr} {h₀ : Heap} {m : Str → Option Value} {news : List (Addr × Obj)} {Q : Value → Shared → Prop} {pos : List Value} {fI : Addr} (F : Fr h₀ L zh m) (X₀ : K.In h₀) (N : News h₀ L zh news) (hm : makesIn K C = true) (hi : findIn K (.ref C) "__init__" = some (some (.ref fI))) (hf : isFn K (.ref fI) = true)
    (h : ∀ x dx h', Fr h₀ L h' m → News h₀ L h' ((x, instObj C dx) :: (dx, dictOf [] 0) :: news) → (∀ p ∈ news, p.1 < dx) → dx < x →
      codeAny (model pg w) (A.under (.builtin "type.__call__" ⟨.ref C :: pos, []⟩)) (.call (.ref fI) ⟨.ref x :: pos, []⟩) (fun r s' => match r with | .ok (.ret v) => v = .none ∧ Q (.ref x) s' | .ok _ => False | .error e => E e s') ⟨h', zg, zd, zt, zo⟩) :
    wpAny (model pg w) A (call (.ref C) pos []) Q E ⟨zh, zg, zd, zt, zo⟩ :=
  call_cls F X₀ N hm hi hf fun x dx h' F' N' l1 l2 => codeAny_mono (h x dx h' F' N' l1 l2) fun r s' z => by
    rcases r with e | (v | _ | _ | _) <;> exact z
set_option maxHeartbeats 2000000 in
theorem scinit_body {w : World} {mean : ExcName → Option Value} {mg mb : Str → Option Value} {dp un : Nat} {gd : Option (List Code)} {cn : Str} {cs : Scope} {a : Addr} {ccd : Value} {cl : List (Str × Addr)} {outer : List Env} {A₀ : Around} {base h₀ : Heap} {L : Addr} {m : Str → Option Value} {zh : Heap} {zg : Array GenState} {zd : Drawn} {zt : Nat} {zo : OsState} {Q E : Value → Shared → Prop} {x dx : Addr} {Tx : Str} {tT : Tok} {rest : List (Addr × Obj)}
    (B : Below A₀ base outer h₀) (F : Fr h₀ L zh m) (X : (Mine.top.heap_1 w.params).In h₀) (T : Top Mine.V loose mean mg mb h₀) (hk : cs.kind = .function) (hdp : dp + 5 < recursionLimit) (hun : un + 50 < cLine)
    (N : News h₀ L zh ((dx, dictOf [] 0) :: rest)) (hx : (x, instObj 285 dx) ∈ rest) (hoff : ∀ q ∈ rest, q.1 ≠ dx)
    (hQ : ∀ h1 h2 t1 t2 tk h' tk', Fr h₀ L h' m → News h₀ L h' ((dx, scD h1 h2 t1 t2 Tx tT 0 tk) :: rest) → Q .none ⟨h', zg, zd, tk', zo⟩) :
    codeAny (model prog w) (ktrTop dp un gd cn cs L a ccd cl outer) (.call (.ref 240) ⟨[.ref x, .str Tx tT], []⟩) (fun r s' => match r with | .ok (.ret v) => Q v s' | .ok _ => False | .error e => E e s') ⟨zh, zg, zd, zt, zo⟩ := by
  k_dflt (refine' code_def (binds := [(Str.ofString "self", .ref x), (Str.ofString "text", .str Tx tT)]) ?k1 ?k2 ?k3 ?k4 ?k5 ?kA ?kF ?kK ?k6 ?k7 ?k8 ?k9 ?kB ?_ ?c2 ?c3 ?c4 ?c5; (case kA => exact rfl); (case kF => exact rfl); (case kK => assumption); (case k1 => k_asm); (case k2 => k_asm); (case k3 => k_asm); (case k4 => k_asm); (case k5 => k_asm); (case k6 => k_is); (case k7 => k_is); (case k8 => ktr_room); (case k9 => exact BindsTo.of_eq rfl); (case c5 => decide); (case kB => exact locs rfl); (case c2 => exact rfl); (case c3 => exact rfl); (case c4 => exact rfl); k_whole; intro g' L' h' FG' F' N' B' X' T'; (try dsimp only); (try k_fold); (show let Ab : PySem.Around := ktrTop dp un gd cn cs L a ccd cl outer; let ev : PySem.Env := _; let Ac : PySem.Around := PySem.Around.deeper Ab ev; wpAny _ Ac (PySem.execs _ ev) _ _ _); intro Ab ev Ac; (replace hdp : PySem.Around.depth Ab + _ < _ := hdp); (replace hun : PySem.Around.units Ab + _ < _ := hun))
  k_steps
  all_goals (
    (with_reducible rename Fr _ _ _ _ => Fz)
    (with_reducible rename News _ _ _ _ => Nz)
    exact hQ _ _ _ _ _ _ _ Fz Nz)
end Mine
theorem Mine.rw_P33_scn2 : True := by
  k_with_none
  (k_with "subscriptTail" => (k_here; (fail_if_success fail_if_success with_reducible show wpAny _ _ (subscriptTail _ _ (Value.ref _) (Value.str _ _)) _ _ _); k_dflt (refine' Mine.d_get ?zzN ?zzm ?zzo ?zzf ?_; (case zzN => k_asm); (case zzm => k_mem); (case zzo => with_reducible assumption); (case zzf => exact rfl); k_whole)))
  (k_with "setItem ref str" => (k_here; (fail_if_success fail_if_success with_reducible show wpAny _ _ (setItem (Value.ref _) (Value.str _ _) _) _ _ _); k_dflt (refine' Mine.d_set ?zzF ?zzN ?zzU ?zzo ?_ ?zzz; (case zzF => k_asm); (case zzN => k_asm); (case zzU => k_updF); (case zzo => with_reducible assumption); (case zzz => exact Nat.le_of_ble_eq_true rfl)); intro _ _ _ _ _; (try k_sweep)))
  (k_with "call builtin:len" => (k_here; (fail_if_success fail_if_success with_reducible show wpAny _ _ (call (Value.builtin "len") [Value.ref _]) _ _ _); k_dflt (refine' Mine.len_L ?zzN ?zzm ?zzb ?_; (case zzN => k_asm); (case zzm => k_mem); (case zzb => omega); k_whole)))
  (k_with "subscriptTail" => (k_here; (fail_if_success fail_if_success with_reducible show wpAny _ _ (subscriptTail _ _ (Value.ref _) (Value.int _ _)) _ _ _); k_dflt (refine' Mine.item_L ?zzN ?zzm ?zza ?zzb ?zzc ?_; (case zzN => k_asm); (case zzm => k_mem); (case zza => omega); (case zzb => omega); (case zzc => omega); k_whole); intro _ _))
  (k_with "subscriptTail" => (k_here; (fail_if_success fail_if_success with_reducible show wpAny _ _ (subscriptTail _ _ (Value.ref _) (Value.int _ _)) _ _ _); k_dflt (refine' Mine.item_LI ?zzN ?zzm ?zzi ?zza ?zzb ?zzc ?_; (case zzN => k_asm); (case zzm => k_mem); (case zzi => with_reducible assumption); (case zza => omega); (case zzb => omega); (case zzc => omega); k_whole); intro _ _))
  (k_with "ite" => first | with_reducible refine PyProof.Rows.ite_tt ?_ | with_reducible refine PyProof.Rows.ite_ff ?_)
  (k_with "execs cons" => (k_here; (try k_gentoks); (with_reducible refine wpAny_execs_cons ?_); (try dsimp only); k_fold))
  (k_with "eval Constant int" => (with_reducible refine Mine.constI ?_))
  (k_with "eval Constant str" => (with_reducible refine Mine.constS ?_))
  (k_with "binaryOp Add int int" => (with_reducible refine Mine.addI ?_))
  trivial
namespace Mine
open PySem PySem.W PyProof.Rows PySem.Calls PyProof.V PySem.Spec PySem.NumText
theorem scanner_new {w : World} {mean : ExcName → Option Value} {mg mb : Str → Option Value} {dp un : Nat} {gd : Option (List Code)} {cn : Str} {cs : Scope} {a : Addr} {ccd : Value} {cl : List (Str × Addr)} {outer : List Env} {A₀ : Around} {base h₀ : Heap} {L : Addr} {m : Str → Option Value} {zh : Heap} {zg : Array GenState} {zd : Drawn} {zt : Nat} {zo : OsState} {Q E : Value → Shared → Prop} {news : List (Addr × Obj)} {Tx : Str} {tT : Tok}
    (B : Below A₀ base outer h₀) (F : Fr h₀ L zh m) (X : (Mine.top.heap_1 w.params).In h₀) (T : Top Mine.V loose mean mg mb h₀) (hk : cs.kind = .function) (hdp : dp + 10 < recursionLimit) (hun : un + 100 < cLine)
    (N : News h₀ L zh news)
    (hQ : ∀ x dx h1 h2 t1 t2 tk h' tk', (∀ p ∈ news, p.1 < dx) → @LT.lt Nat _ dx x → Fr h₀ L h' m → News h₀ L h' ((x, instObj 285 dx) :: (dx, scD h1 h2 t1 t2 Tx tT 0 tk) :: news) → Q (.ref x) ⟨h', zg, zd, tk', zo⟩) :
    wpAny (model prog w) (ktrTop dp un gd cn cs L a ccd cl outer) (call (.ref 285) [.str Tx tT]) Q E ⟨zh, zg, zd, zt, zo⟩ := by
  refine' cls_new (fI := 240) F X N ?k4 ?k5 ?k6 fun x dx h' F' N' l1 l2 => ?go
  case k4 => k_is
  case k5 => k_is
  case k6 => k_is
  case go =>
    have hne : @Ne Nat x dx := by have : @LT.lt Nat _ dx x := l2; omega
    refine' scinit_body (x := x) (dx := dx) (rest := (x, instObj 285 dx) :: news) B F' X T hk ?hd ?hu (newsSub N' ?sub) (.head _) ?off fun h1 h2 t1 t2 tk h2' tk' F2 N2 => ⟨rfl, hQ x dx h1 h2 t1 t2 tk h2' tk' l1 l2 F2 (newsSub N2 ?sub2)⟩
    case hd => 
      show dp + (Code.builtin "type.__call__" ⟨[Value.ref 285, Value.str Tx tT], []⟩).weight + 5 < recursionLimit
      rw [show (Code.builtin "type.__call__" ⟨[Value.ref 285, Value.str Tx tT], []⟩).weight = 1 from rfl]
      omega
    case hu =>
      show un + 1 + 50 < cLine
      omega
    case sub =>
      intro q hq
      rcases List.mem_cons.mp hq with rfl | hq
      · exact .tail _ (.head _)
      · rcases List.mem_cons.mp hq with rfl | hq
        · exact .head _
        · exact .tail _ (.tail _ hq)
    case off =>
      intro q hq
      rcases List.mem_cons.mp hq with rfl | hq
      · exact hne
      · exact Nat.ne_of_lt (l1 q hq)
    case sub2 =>
      intro q hq
      rcases List.mem_cons.mp hq with rfl | hq
      · exact .tail _ (.head _)
      · rcases List.mem_cons.mp hq with rfl | hq
        · exact .head _
        · exact .tail _ (.tail _ hq)
/-- the first token -/
theorem token_0 {w : World} {mean : ExcName → Option Value} {mg mb : Str → Option Value} {dp un : Nat} {gd : Option (List Code)} {cn : Str} {cs : Scope} {a : Addr} {ccd : Value} {cl : List (Str × Addr)} {outer : List Env} {A₀ : Around} {base h₀ : Heap} {L : Addr} {m : Str → Option Value} {zh : Heap} {zg : Array GenState} {zd : Drawn} {zt : Nat} {zo : OsState} {Q E : Value → Shared → Prop} {news : List (Addr × Obj)} {gg : Obj → List (Addr × Obj)} {sc dxs : Addr} {h1 h2 : Int} {t1 t2 : Tok} {Tx : Str} {tT tks : Tok} {b : Bool} {tk0 : TokD} {ks : List TokD}
    (B : Below A₀ base outer h₀) (F : Fr h₀ L zh m) (X : (Mine.top.heap_1 w.params).In h₀) (T : Top Mine.V loose mean mg mb h₀) (hk : cs.kind = .function) (hdp : dp + 20 < recursionLimit) (hun : un + 200 < cLine)
    (N : News h₀ L zh news) (hsc : (sc, instObj 285 dxs) ∈ news) (U : UpdF dxs (scD h1 h2 t1 t2 Tx tT 0 tks) news gg) (hne : @Ne Nat sc dxs)
    (hT : Tx.length ≤ 20000) (hS : Sfx b Tx.cps.toList 0 (tk0 :: ks))
    (hQ : ∀ td o tk2 h' tk' (kf : Nat), TokO tk0 o → RestIs Tx kf ks → (kf : Int) ≤ Tx.length → (∀ q ∈ gg (scD h1 h2 t1 t2 Tx tT (kf : Int) tk2), q.1 < td) → Fr h₀ L h' m → News h₀ L h' ((td, o) :: gg (scD h1 h2 t1 t2 Tx tT (kf : Int) tk2)) → Q (.ref td) ⟨h', zg, zd, tk', zo⟩) :
    wpAny (model prog w) (ktrTop dp un gd cn cs L a ccd cl outer) (call (.ref 282) [.ref sc]) Q E ⟨zh, zg, zd, zt, zo⟩ :=
  token_K (k := 0) B F X T hk hdp hun N hsc U hne (by omega) hT (by rw [List.drop_zero]; exact hS) hQ
end Mine
theorem Mine.rw_P34_dinit : True := by
  k_with_none
  (k_with "subscriptTail" => (k_here; (fail_if_success fail_if_success with_reducible show wpAny _ _ (subscriptTail _ _ (Value.ref _) (Value.str _ _)) _ _ _); k_dflt (refine' Mine.d_get ?zzN ?zzm ?zzo ?zzf ?_; (case zzN => k_asm); (case zzm => k_mem); (case zzo => with_reducible assumption); (case zzf => exact rfl); k_whole)))
  (k_with "setItem ref str" => (k_here; (fail_if_success fail_if_success with_reducible show wpAny _ _ (setItem (Value.ref _) (Value.str _ _) _) _ _ _); k_dflt (refine' Mine.d_set ?zzF ?zzN ?zzU ?zzo ?_ ?zzz; (case zzF => k_asm); (case zzN => k_asm); (case zzU => k_updF); (case zzo => with_reducible assumption); (case zzz => exact Nat.le_of_ble_eq_true rfl)); intro _ _ _ _ _; (try k_sweep)))
  (k_with "call builtin:len" => (k_here; (fail_if_success fail_if_success with_reducible show wpAny _ _ (call (Value.builtin "len") [Value.ref _]) _ _ _); k_dflt (refine' Mine.len_L ?zzN ?zzm ?zzb ?_; (case zzN => k_asm); (case zzm => k_mem); (case zzb => omega); k_whole)))
  (k_with "subscriptTail" => (k_here; (fail_if_success fail_if_success with_reducible show wpAny _ _ (subscriptTail _ _ (Value.ref _) (Value.int _ _)) _ _ _); k_dflt (refine' Mine.item_L ?zzN ?zzm ?zza ?zzb ?zzc ?_; (case zzN => k_asm); (case zzm => k_mem); (case zza => omega); (case zzb => omega); (case zzc => omega); k_whole); intro _ _))
  (k_with "subscriptTail" => (k_here; (fail_if_success fail_if_success with_reducible show wpAny _ _ (subscriptTail _ _ (Value.ref _) (Value.int _ _)) _ _ _); k_dflt (refine' Mine.item_LI ?zzN ?zzm ?zzi ?zza ?zzb ?zzc ?_; (case zzN => k_asm); (case zzm => k_mem); (case zzi => with_reducible assumption); (case zza => omega); (case zzb => omega); (case zzc => omega); k_whole); intro _ _))
  (k_with "ite" => first | with_reducible refine PyProof.Rows.ite_tt ?_ | with_reducible refine PyProof.Rows.ite_ff ?_)
  (k_with "execs cons" => (k_here; (try k_gentoks); (with_reducible refine wpAny_execs_cons ?_); (try dsimp only); k_fold))
  (k_with "eval Constant int" => (with_reducible refine Mine.constI ?_))
  (k_with "eval Constant str" => (with_reducible refine Mine.constS ?_))
  (k_with "binaryOp Add int int" => (with_reducible refine Mine.addI ?_))
  (k_with "subscriptTail" => (k_here; (fail_if_success fail_if_success with_reducible show wpAny _ _ (subscriptTail _ (Expr.Slice (some _) (some _) none _) (Value.str _ _) (Value.ref _)) _ _ _); k_dflt (refine' Mine.str_slice (s := ⟨_, _, _, _, _⟩) ?zzF ?zzN ?zza ?zzb ?zzc ?zzd ?_ ?zzs ?zzt; (case zzF => k_asm); (case zzN => k_asm); (case zza => omega); (case zzb => omega); (case zzc => omega); (case zzd => omega); (case zzs => with_unfolding_all rfl); (case zzt => kmk_pure)); intro _ _ _ _ _ _ _; (try k_sweep)))
  (k_with "subscriptTail" => (k_here; (fail_if_success fail_if_success with_reducible show wpAny _ _ (subscriptTail _ _ (Value.str _ _) (Value.int _ _)) _ _ _); k_dflt (refine' Mine.str_item ?zza ?zzb ?zzc ?_; (case zza => omega); (case zzb => omega); (case zzc => omega)); intro _ _ _ _))
  (k_with "compareOp In str str" => (k_here; (fail_if_success fail_if_success with_reducible show wpAny _ _ (compareOp CmpOp.In (Value.str _ _) (Value.str _ _)) _ _ _); (refine Mine.str_in (by with_reducible assumption) ?_); intro _ _))
  (k_with "exec While Compare cons nil" => (refine Mine.stop_intro ?_))
  (k_with "exec While BoolOp cons nil" => (refine Mine.stop_intro ?_))
  (k_with "exec While UnaryOp cons nil" => (refine Mine.stop_intro ?_))
  (k_with "exec While Constant cons nil" => (refine Mine.stop_intro ?_))
  (k_with "exec While" => (refine Mine.stop_intro ?_))
  (k_with "call" => ((fail_if_success fail_if_success with_reducible show wpAny _ _ (call (Prod.fst _) _) _ _ _); dsimp only [List.cons_append, List.nil_append, List.append_nil]))
  (k_with "call ref" => (k_here; (fail_if_success fail_if_success with_reducible show wpAny _ _ (call (Value.ref 285) [_]) _ _ _); k_dflt (refine' Mine.scanner_new ?zzB ?zzF ?zzX ?zzT ?zzhk ?zzhd ?zzhu ?zzN ?_; (case zzB => k_asm); (case zzF => k_asm); (case zzX => k_asm); (case zzT => k_asm); (case zzhk => first | exact rfl | assumption); (case zzN => k_asm); (case zzhd => ktr_room); (case zzhu => ktr_units)); intro _ _ _ _ _ _ _ _ _ l1 l2 _ _; (try k_lt l1); (try k_lt2 l2); (try dsimp only); (try k_fold); (try k_sweep)))
  (k_with "call ref" => (k_here; (fail_if_success fail_if_success with_reducible show wpAny _ _ (call (Value.ref 282) [Value.ref _]) _ _ _); k_dflt (refine' Mine.token_0 ?zzB ?zzF ?zzX ?zzT ?zzhk ?zzhd ?zzhu ?zzN ?zzsc ?zzU ?zzne ?zzhT ?zzhS ?_; (case zzB => k_asm); (case zzF => k_asm); (case zzX => k_asm); (case zzT => k_asm); (case zzhk => first | exact rfl | assumption); (case zzN => k_asm); (case zzsc => k_mem); (case zzU => k_updF); (case zzne => k_ne); (case zzhS => with_reducible assumption); (case zzhT => omega); (case zzhd => ktr_room); (case zzhu => ktr_units)); intro _ _ _ _ _ _ _ _ _ l1 _ N9; (try dsimp only at N9 l1); (try k_lt l1); (try dsimp only); (try k_fold); (try k_sweep)))
  trivial
namespace Mine
open PySem PySem.W PyProof.Rows PySem.Calls PyProof.V PySem.Spec PySem.NumText
abbrev dtD (a1 a2 : Int) (t1 t2 : Tok) (sc ah : Addr) : Obj := dictOf [⟨a1, .str (Str.ofString "scanner") t1, .ref sc⟩, ⟨a2, .str (Str.ofString "ahead") t2, .ref ah⟩] 2
set_option maxHeartbeats 2000000 in
theorem dinit_body {w : World} {mean : ExcName → Option Value} {mg mb : Str → Option Value} {dp un : Nat} {gd : Option (List Code)} {cn : Str} {cs : Scope} {a : Addr} {ccd : Value} {cl : List (Str × Addr)} {outer : List Env} {A₀ : Around} {base h₀ : Heap} {L : Addr} {m : Str → Option Value} {zh : Heap} {zg : Array GenState} {zd : Drawn} {zt : Nat} {zo : OsState} {Q E : Value → Shared → Prop} {x dx : Addr} {Tx : Str} {tT : Tok} {b : Bool} {tk0 : TokD} {ks : List TokD} {rest : List (Addr × Obj)}
    (B : Below A₀ base outer h₀) (F : Fr h₀ L zh m) (X : (Mine.top.heap_1 w.params).In h₀) (T : Top Mine.V loose mean mg mb h₀) (hk : cs.kind = .function) (hdp : dp + 40 < recursionLimit) (hun : un + 400 < cLine)
    (N : News h₀ L zh ((dx, dictOf [] 0) :: rest)) (hx : (x, instObj 446 dx) ∈ rest) (hoff : ∀ q ∈ rest, q.1 ≠ dx) (hne : @Ne Nat x dx)
    (hT : Tx.length ≤ 20000) (hS : Sfx b Tx.cps.toList 0 (tk0 :: ks))
    (hQ : ∀ sc dxs ah o a1 a2 u1 u2 h1 h2 t1 t2 tk h' tk' (kf : Nat), TokO tk0 o → RestIs Tx kf ks → (kf : Int) ≤ Tx.length → (∀ q ∈ rest, q.1 < dxs) → @LT.lt Nat _ dx dxs → @LT.lt Nat _ dxs sc → @LT.lt Nat _ sc ah → Fr h₀ L h' m → News h₀ L h' ((dx, dtD a1 a2 u1 u2 sc ah) :: (sc, instObj 285 dxs) :: (dxs, scD h1 h2 t1 t2 Tx tT (kf : Int) tk) :: (ah, o) :: rest) → Q .none ⟨h', zg, zd, tk', zo⟩) :
    codeAny (model prog w) (ktrTop dp un gd cn cs L a ccd cl outer) (.call (.ref 303) ⟨[.ref x, .str Tx tT], []⟩) (fun r s' => match r with | .ok (.ret v) => Q v s' | .ok _ => False | .error e => E e s') ⟨zh, zg, zd, zt, zo⟩ := by
  k_dflt (refine' code_def (binds := [(Str.ofString "self", .ref x), (Str.ofString "text", .str Tx tT)]) ?k1 ?k2 ?k3 ?k4 ?k5 ?kA ?kF ?kK ?k6 ?k7 ?k8 ?k9 ?kB ?_ ?c2 ?c3 ?c4 ?c5; (case kA => exact rfl); (case kF => exact rfl); (case kK => assumption); (case k1 => k_asm); (case k2 => k_asm); (case k3 => k_asm); (case k4 => k_asm); (case k5 => k_asm); (case k6 => k_is); (case k7 => k_is); (case k8 => ktr_room); (case k9 => exact BindsTo.of_eq rfl); (case c5 => decide); (case kB => exact locs rfl); (case c2 => exact rfl); (case c3 => exact rfl); (case c4 => exact rfl); k_whole; intro g' L' h' FG' F' N' B' X' T'; (try dsimp only); (try k_fold); (show let Ab : PySem.Around := ktrTop dp un gd cn cs L a ccd cl outer; let ev : PySem.Env := _; let Ac : PySem.Around := PySem.Around.deeper Ab ev; wpAny _ Ac (PySem.execs _ ev) _ _ _); intro Ab ev Ac; (replace hdp : PySem.Around.depth Ab + _ < _ := hdp); (replace hun : PySem.Around.units Ab + _ < _ := hun))
  k_steps
  all_goals (
    (with_reducible rename Fr _ _ _ _ => Fz)
    (with_reducible rename News _ _ _ _ => Nz)
    refine' hQ _ _ _ _ _ _ _ _ _ _ _ _ _ _ _ _ (by assumption) (by assumption) (by assumption) ?l3 ?l4 ?l5 ?l6 Fz (newsSub Nz (four_sub ?m1 ?m2 ?m3 ?m4 fun q hq => ?m5))
    case m1 => k_mem
    case m2 => k_mem
    case m3 => k_mem
    case m4 => k_mem
    case m5 => k_mem
    case l3 => exact allLt_mem (by (first | with_reducible assumption | exact Mine.al1 (by with_reducible assumption) | exact Mine.al2 (by with_reducible assumption) | exact Mine.al3 (by with_reducible assumption) | exact Mine.al4 (by with_reducible assumption) | exact Mine.al5 (by with_reducible assumption) | exact Mine.al6 (by with_reducible assumption) | exact Mine.al7 (by with_reducible assumption) | exact Mine.al8 (by with_reducible assumption)))
    case l4 => first | assumption | exact Mine.cj1 (by assumption) | exact Mine.cj2 (by assumption) | exact Mine.cj3 (by assumption) | exact Mine.cj4 (by assumption) | exact Mine.cj5 (by assumption) | exact Mine.cj6 (by assumption) | exact Mine.cj7 (by assumption) | exact Mine.cj8 (by assumption) | omega
    case l5 => first | assumption | exact Mine.cj1 (by assumption) | exact Mine.cj2 (by assumption) | exact Mine.cj3 (by assumption) | exact Mine.cj4 (by assumption) | exact Mine.cj5 (by assumption) | exact Mine.cj6 (by assumption) | exact Mine.cj7 (by assumption) | exact Mine.cj8 (by assumption) | omega
    case l6 => first | assumption | exact Mine.cj1 (by assumption) | exact Mine.cj2 (by assumption) | exact Mine.cj3 (by assumption) | exact Mine.cj4 (by assumption) | exact Mine.cj5 (by assumption) | exact Mine.cj6 (by assumption) | exact Mine.cj7 (by assumption) | exact Mine.cj8 (by assumption) | omega)
end Mine
namespace Mine
open PySem PySem.W PyProof.Rows PySem.Calls PyProof.V PySem.Spec PySem.NumText
theorem dinit_K {w : World} {mean : ExcName → Option Value} {mg mb : Str → Option Value} {dp un : Nat} {gd : Option (List Code)} {cn : Str} {cs : Scope} {a : Addr} {ccd : Value} {cl : List (Str × Addr)} {outer : List Env} {A₀ : Around} {base h₀ : Heap} {L : Addr} {m : Str → Option Value} {zh : Heap} {zg : Array GenState} {zd : Drawn} {zt : Nat} {zo : OsState} {Q E : Value → Shared → Prop} {news : List (Addr × Obj)} {g : Obj → List (Addr × Obj)} {x dx : Addr} {Tx : Str} {tT : Tok} {b : Bool} {tk0 : TokD} {ks : List TokD}
    (B : Below A₀ base outer h₀) (F : Fr h₀ L zh m) (X : (Mine.top.heap_1 w.params).In h₀) (T : Top Mine.V loose mean mg mb h₀) (hk : cs.kind = .function) (hdp : dp + 40 < recursionLimit) (hun : un + 400 < cLine)
    (N : News h₀ L zh news) (hx : (x, instObj 446 dx) ∈ news) (U : UpdF dx (dictOf [] 0) news g) (hne : @Ne Nat x dx)
    (hT : Tx.length ≤ 20000) (hS : Sfx b Tx.cps.toList 0 (tk0 :: ks))
    (hQ : ∀ sc dxs ah o a1 a2 u1 u2 h1 h2 t1 t2 tk h' tk' (kf : Nat), TokO tk0 o → RestIs Tx kf ks → (kf : Int) ≤ Tx.length → (∀ q ∈ g (dtD a1 a2 u1 u2 sc ah), q.1 < dxs) → @LT.lt Nat _ dxs sc → @LT.lt Nat _ sc ah → Fr h₀ L h' m → News h₀ L h' ((sc, instObj 285 dxs) :: (dxs, scD h1 h2 t1 t2 Tx tT (kf : Int) tk) :: (ah, o) :: g (dtD a1 a2 u1 u2 sc ah)) → Q .none ⟨h', zg, zd, tk', zo⟩) :
    codeAny (model prog w) (ktrTop dp un gd cn cs L a ccd cl outer) (.call (.ref 303) ⟨[.ref x, .str Tx tT], []⟩) (fun r s' => match r with | .ok (.ret v) => Q v s' | .ok _ => False | .error e => E e s') ⟨zh, zg, zd, zt, zo⟩ := by
  obtain ⟨rest, r1, r2, r3, r4, r5⟩ := canonF U
  refine dinit_body B F X T hk hdp hun (newsSub N r1) (r4 _ hx hne) r2 hne hT hS fun sc dxs ah o a1 a2 u1 u2 h1 h2 t1 t2 tk h' tk' kf e1 e2 e3 e4 e5 e6 e7 F' N' => hQ sc dxs ah o a1 a2 u1 u2 h1 h2 t1 t2 tk h' tk' kf e1 e2 e3 (fun q hq => ?_) e6 e7 F' (newsSub N' fun q hq => ?_)
  · rcases List.mem_cons.mp (r3 _ _ hq) with rfl | hq
    · exact e5
    · exact e4 q hq
  · rcases List.mem_cons.mp hq with rfl | hq
    · exact .tail _ (.head _)
    · rcases List.mem_cons.mp hq with rfl | hq
      · exact .tail _ (.tail _ (.head _))
      · rcases List.mem_cons.mp hq with rfl | hq
        · exact .tail _ (.tail _ (.tail _ (.head _)))
        · rcases List.mem_cons.mp (r3 _ _ hq) with rfl | hq
          · exact .head _
          · exact .tail _ (.tail _ (.tail _ (.tail _ hq)))
theorem dinit_M {w : World} {mean : ExcName → Option Value} {mg mb : Str → Option Value} {dp un : Nat} {gd : Option (List Code)} {cn : Str} {cs : Scope} {a : Addr} {ccd : Value} {cl : List (Str × Addr)} {outer : List Env} {A₀ : Around} {base h₀ : Heap} {L : Addr} {m : Str → Option Value} {zh : Heap} {zg : Array GenState} {zd : Drawn} {zt : Nat} {zo : OsState} {Q E : Value → Shared → Prop} {news : List (Addr × Obj)} {g : Obj → List (Addr × Obj)} {q x dx : Addr} {Tx : Str} {tT : Tok} {b : Bool} {tk0 : TokD} {ks : List TokD}
    (B : Below A₀ base outer h₀) (F : Fr h₀ L zh m) (X : (Mine.top.heap_1 w.params).In h₀) (T : Top Mine.V loose mean mg mb h₀) (hk : cs.kind = .function) (hdp : dp + 40 < recursionLimit) (hun : un + 400 < cLine)
    (N : News h₀ L zh news) (hq : (q, methodObj (.ref 303) (.ref x)) ∈ news) (hx : (x, instObj 446 dx) ∈ news) (U : UpdF dx (dictOf [] 0) news g) (hne : @Ne Nat x dx)
    (hT : Tx.length ≤ 20000) (hS : Sfx b Tx.cps.toList 0 (tk0 :: ks))
    (hQ : ∀ sc dxs ah o a1 a2 u1 u2 h1 h2 t1 t2 tk h' tk' (kf : Nat), TokO tk0 o → RestIs Tx kf ks → (kf : Int) ≤ Tx.length → (∀ q ∈ g (dtD a1 a2 u1 u2 sc ah), q.1 < dxs) → @LT.lt Nat _ dxs sc → @LT.lt Nat _ sc ah → Fr h₀ L h' m → News h₀ L h' ((sc, instObj 285 dxs) :: (dxs, scD h1 h2 t1 t2 Tx tT (kf : Int) tk) :: (ah, o) :: g (dtD a1 a2 u1 u2 sc ah)) → Q .none ⟨h', zg, zd, tk', zo⟩) :
    wpAny (model prog w) (ktrTop dp un gd cn cs L a ccd cl outer) (call (.ref q) [.str Tx tT]) Q E ⟨zh, zg, zd, zt, zo⟩ := call_meth N hq (dinit_K B F X T hk hdp hun N hx U hne hT hS hQ)
end Mine
theorem Mine.rw_P36_flat : True := by
  k_with_none
  (k_with "subscriptTail" => (k_here; (fail_if_success fail_if_success with_reducible show wpAny _ _ (subscriptTail _ _ (Value.ref _) (Value.str _ _)) _ _ _); k_dflt (refine' Mine.d_get ?zzN ?zzm ?zzo ?zzf ?_; (case zzN => k_asm); (case zzm => k_mem); (case zzo => with_reducible assumption); (case zzf => exact rfl); k_whole)))
  (k_with "setItem ref str" => (k_here; (fail_if_success fail_if_success with_reducible show wpAny _ _ (setItem (Value.ref _) (Value.str _ _) _) _ _ _); k_dflt (refine' Mine.d_set ?zzF ?zzN ?zzU ?zzo ?_ ?zzz; (case zzF => k_asm); (case zzN => k_asm); (case zzU => k_updF); (case zzo => with_reducible assumption); (case zzz => exact Nat.le_of_ble_eq_true rfl)); intro _ _ _ _ _; (try k_sweep)))
  (k_with "call builtin:len" => (k_here; (fail_if_success fail_if_success with_reducible show wpAny _ _ (call (Value.builtin "len") [Value.ref _]) _ _ _); k_dflt (refine' Mine.len_L ?zzN ?zzm ?zzb ?_; (case zzN => k_asm); (case zzm => k_mem); (case zzb => omega); k_whole)))
  (k_with "subscriptTail" => (k_here; (fail_if_success fail_if_success with_reducible show wpAny _ _ (subscriptTail _ _ (Value.ref _) (Value.int _ _)) _ _ _); k_dflt (refine' Mine.item_L ?zzN ?zzm ?zza ?zzb ?zzc ?_; (case zzN => k_asm); (case zzm => k_mem); (case zza => omega); (case zzb => omega); (case zzc => omega); k_whole); intro _ _))
  (k_with "subscriptTail" => (k_here; (fail_if_success fail_if_success with_reducible show wpAny _ _ (subscriptTail _ _ (Value.ref _) (Value.int _ _)) _ _ _); k_dflt (refine' Mine.item_LI ?zzN ?zzm ?zzi ?zza ?zzb ?zzc ?_; (case zzN => k_asm); (case zzm => k_mem); (case zzi => with_reducible assumption); (case zza => omega); (case zzb => omega); (case zzc => omega); k_whole); intro _ _))
  (k_with "ite" => first | with_reducible refine PyProof.Rows.ite_tt ?_ | with_reducible refine PyProof.Rows.ite_ff ?_)
  (k_with "execs cons" => (k_here; (try k_gentoks); (with_reducible refine wpAny_execs_cons ?_); (try dsimp only); k_fold))
  (k_with "eval Constant int" => (with_reducible refine Mine.constI ?_))
  (k_with "eval Constant str" => (with_reducible refine Mine.constS ?_))
  (k_with "binaryOp Add int int" => (with_reducible refine Mine.addI ?_))
  (k_with "subscriptTail" => (k_here; (fail_if_success fail_if_success with_reducible show wpAny _ _ (subscriptTail _ (Expr.Slice (some _) (some _) none _) (Value.str _ _) (Value.ref _)) _ _ _); k_dflt (refine' Mine.str_slice (s := ⟨_, _, _, _, _⟩) ?zzF ?zzN ?zza ?zzb ?zzc ?zzd ?_ ?zzs ?zzt; (case zzF => k_asm); (case zzN => k_asm); (case zza => omega); (case zzb => omega); (case zzc => omega); (case zzd => omega); (case zzs => with_unfolding_all rfl); (case zzt => kmk_pure)); intro _ _ _ _ _ _ _; (try k_sweep)))
  (k_with "subscriptTail" => (k_here; (fail_if_success fail_if_success with_reducible show wpAny _ _ (subscriptTail _ _ (Value.str _ _) (Value.int _ _)) _ _ _); k_dflt (refine' Mine.str_item ?zza ?zzb ?zzc ?_; (case zza => omega); (case zzb => omega); (case zzc => omega)); intro _ _ _ _))
  (k_with "compareOp In str str" => (k_here; (fail_if_success fail_if_success with_reducible show wpAny _ _ (compareOp CmpOp.In (Value.str _ _) (Value.str _ _)) _ _ _); (refine Mine.str_in (by with_reducible assumption) ?_); intro _ _))
  (k_with "exec While Compare cons nil" => (refine Mine.stop_intro ?_))
  (k_with "exec While BoolOp cons nil" => (refine Mine.stop_intro ?_))
  (k_with "exec While UnaryOp cons nil" => (refine Mine.stop_intro ?_))
  (k_with "exec While Constant cons nil" => (refine Mine.stop_intro ?_))
  (k_with "exec While" => (refine Mine.stop_intro ?_))
  (k_with "call" => ((fail_if_success fail_if_success with_reducible show wpAny _ _ (call (Prod.fst _) _) _ _ _); dsimp only [List.cons_append, List.nil_append, List.append_nil]))
  trivial
namespace Mine
open PySem PySem.W PyProof.Rows PySem.Calls PyProof.V PySem.Spec PySem.NumText
set_option maxHeartbeats 2000000 in
theorem flinit_body {w : World} {mean : ExcName → Option Value} {mg mb : Str → Option Value} {dp un : Nat} {gd : Option (List Code)} {cn : Str} {cs : Scope} {a : Addr} {ccd : Value} {cl : List (Str × Addr)} {outer : List Env} {A₀ : Around} {base h₀ : Heap} {L : Addr} {m : Str → Option Value} {zh : Heap} {zg : Array GenState} {zd : Drawn} {zt : Nat} {zo : OsState} {Q E : Value → Shared → Prop} {x dx : Addr} {rest : List (Addr × Obj)}
    (B : Below A₀ base outer h₀) (F : Fr h₀ L zh m) (X : (Mine.top.heap_1 w.params).In h₀) (T : Top Mine.V loose mean mg mb h₀) (hk : cs.kind = .function) (hdp : dp + 5 < recursionLimit) (hun : un + 50 < cLine)
    (N : News h₀ L zh ((dx, dictOf [] 0) :: rest)) (hx : (x, instObj 150 dx) ∈ rest) (hoff : ∀ q ∈ rest, q.1 ≠ dx)
    (hQ : ∀ h' tk', Fr h₀ L h' m → News h₀ L h' rest → Q .none ⟨h', zg, zd, tk', zo⟩) :
    codeAny (model prog w) (ktrTop dp un gd cn cs L a ccd cl outer) (.call (.ref 119) ⟨[.ref x], []⟩) (fun r s' => match r with | .ok (.ret v) => Q v s' | .ok _ => False | .error e => E e s') ⟨zh, zg, zd, zt, zo⟩ := by
  k_dflt (refine' code_def (binds := [(Str.ofString "self", .ref x)]) ?k1 ?k2 ?k3 ?k4 ?k5 ?kA ?kF ?kK ?k6 ?k7 ?k8 ?k9 ?kB ?_ ?c2 ?c3 ?c4 ?c5; (case kA => exact rfl); (case kF => exact rfl); (case kK => assumption); (case k1 => k_asm); (case k2 => k_asm); (case k3 => k_asm); (case k4 => k_asm); (case k5 => k_asm); (case k6 => k_is); (case k7 => k_is); (case k8 => ktr_room); (case k9 => exact BindsTo.of_eq rfl); (case c5 => decide); (case kB => exact locs rfl); (case c2 => exact rfl); (case c3 => exact rfl); (case c4 => exact rfl); k_whole; intro g' L' h' FG' F' N' B' X' T'; (try dsimp only); (try k_fold); (show let Ab : PySem.Around := ktrTop dp un gd cn cs L a ccd cl outer; let ev : PySem.Env := _; let Ac : PySem.Around := PySem.Around.deeper Ab ev; wpAny _ Ac (PySem.execs _ ev) _ _ _); intro Ab ev Ac; (replace hdp : PySem.Around.depth Ab + _ < _ := hdp); (replace hun : PySem.Around.units Ab + _ < _ := hun))
  k_steps
  all_goals (
    (with_reducible rename Fr _ _ _ _ => Fz)
    (with_reducible rename News _ _ _ _ => Nz)
    exact hQ _ _ Fz (newsSub Nz fun q hq => by k_mem))
theorem flat_new {w : World} {mean : ExcName → Option Value} {mg mb : Str → Option Value} {dp un : Nat} {gd : Option (List Code)} {cn : Str} {cs : Scope} {a : Addr} {ccd : Value} {cl : List (Str × Addr)} {outer : List Env} {A₀ : Around} {base h₀ : Heap} {L : Addr} {m : Str → Option Value} {zh : Heap} {zg : Array GenState} {zd : Drawn} {zt : Nat} {zo : OsState} {Q E : Value → Shared → Prop} {news : List (Addr × Obj)}
    (B : Below A₀ base outer h₀) (F : Fr h₀ L zh m) (X : (Mine.top.heap_1 w.params).In h₀) (T : Top Mine.V loose mean mg mb h₀) (hk : cs.kind = .function) (hdp : dp + 10 < recursionLimit) (hun : un + 100 < cLine)
    (N : News h₀ L zh news)
    (hQ : ∀ x h' tk', Fr h₀ L h' m → News h₀ L h' news → Q (.ref x) ⟨h', zg, zd, tk', zo⟩) :
    wpAny (model prog w) (ktrTop dp un gd cn cs L a ccd cl outer) (call (.ref 150) []) Q E ⟨zh, zg, zd, zt, zo⟩ := by
  refine' cls_new (fI := 119) F X N ?k4 ?k5 ?k6 fun x dx h' F' N' l1 l2 => ?go
  case k4 => k_is
  case k5 => k_is
  case k6 => k_is
  case go =>
    have hne : @Ne Nat x dx := by have : @LT.lt Nat _ dx x := l2; omega
    refine' flinit_body (x := x) (dx := dx) (rest := (x, instObj 150 dx) :: news) B F' X T hk ?hd ?hu (newsSub N' ?sub) (.head _) ?off fun h2' tk' F2 N2 => ⟨rfl, hQ x h2' tk' F2 (newsSub N2 fun q hq => .tail _ hq)⟩
    case hd => 
      show dp + (Code.builtin "type.__call__" ⟨[Value.ref 150], []⟩).weight + 5 < recursionLimit
      rw [show (Code.builtin "type.__call__" ⟨[Value.ref 150], []⟩).weight = 1 from rfl]
      omega
    case hu =>
      show un + 1 + 50 < cLine
      omega
    case sub =>
      intro q hq
      rcases List.mem_cons.mp hq with rfl | hq
      · exact .tail _ (.head _)
      · rcases List.mem_cons.mp hq with rfl | hq
        · exact .head _
        · exact .tail _ (.tail _ hq)
    case off =>
      intro q hq
      rcases List.mem_cons.mp hq with rfl | hq
      · exact hne
      · exact Nat.ne_of_lt (l1 q hq)
end Mine
theorem Mine.rw_P35_rinit : True := by
  k_with_none
  (k_with "subscriptTail" => (k_here; (fail_if_success fail_if_success with_reducible show wpAny _ _ (subscriptTail _ _ (Value.ref _) (Value.str _ _)) _ _ _); k_dflt (refine' Mine.d_get ?zzN ?zzm ?zzo ?zzf ?_; (case zzN => k_asm); (case zzm => k_mem); (case zzo => with_reducible assumption); (case zzf => exact rfl); k_whole)))
  (k_with "setItem ref str" => (k_here; (fail_if_success fail_if_success with_reducible show wpAny _ _ (setItem (Value.ref _) (Value.str _ _) _) _ _ _); k_dflt (refine' Mine.d_set ?zzF ?zzN ?zzU ?zzo ?_ ?zzz; (case zzF => k_asm); (case zzN => k_asm); (case zzU => k_updF); (case zzo => with_reducible assumption); (case zzz => exact Nat.le_of_ble_eq_true rfl)); intro _ _ _ _ _; (try k_sweep)))
  (k_with "call builtin:len" => (k_here; (fail_if_success fail_if_success with_reducible show wpAny _ _ (call (Value.builtin "len") [Value.ref _]) _ _ _); k_dflt (refine' Mine.len_L ?zzN ?zzm ?zzb ?_; (case zzN => k_asm); (case zzm => k_mem); (case zzb => omega); k_whole)))
  (k_with "subscriptTail" => (k_here; (fail_if_success fail_if_success with_reducible show wpAny _ _ (subscriptTail _ _ (Value.ref _) (Value.int _ _)) _ _ _); k_dflt (refine' Mine.item_L ?zzN ?zzm ?zza ?zzb ?zzc ?_; (case zzN => k_asm); (case zzm => k_mem); (case zza => omega); (case zzb => omega); (case zzc => omega); k_whole); intro _ _))
  (k_with "subscriptTail" => (k_here; (fail_if_success fail_if_success with_reducible show wpAny _ _ (subscriptTail _ _ (Value.ref _) (Value.int _ _)) _ _ _); k_dflt (refine' Mine.item_LI ?zzN ?zzm ?zzi ?zza ?zzb ?zzc ?_; (case zzN => k_asm); (case zzm => k_mem); (case zzi => with_reducible assumption); (case zza => omega); (case zzb => omega); (case zzc => omega); k_whole); intro _ _))
  (k_with "ite" => first | with_reducible refine PyProof.Rows.ite_tt ?_ | with_reducible refine PyProof.Rows.ite_ff ?_)
  (k_with "execs cons" => (k_here; (try k_gentoks); (with_reducible refine wpAny_execs_cons ?_); (try dsimp only); k_fold))
  (k_with "eval Constant int" => (with_reducible refine Mine.constI ?_))
  (k_with "eval Constant str" => (with_reducible refine Mine.constS ?_))
  (k_with "binaryOp Add int int" => (with_reducible refine Mine.addI ?_))
  (k_with "subscriptTail" => (k_here; (fail_if_success fail_if_success with_reducible show wpAny _ _ (subscriptTail _ (Expr.Slice (some _) (some _) none _) (Value.str _ _) (Value.ref _)) _ _ _); k_dflt (refine' Mine.str_slice (s := ⟨_, _, _, _, _⟩) ?zzF ?zzN ?zza ?zzb ?zzc ?zzd ?_ ?zzs ?zzt; (case zzF => k_asm); (case zzN => k_asm); (case zza => omega); (case zzb => omega); (case zzc => omega); (case zzd => omega); (case zzs => with_unfolding_all rfl); (case zzt => kmk_pure)); intro _ _ _ _ _ _ _; (try k_sweep)))
  (k_with "subscriptTail" => (k_here; (fail_if_success fail_if_success with_reducible show wpAny _ _ (subscriptTail _ _ (Value.str _ _) (Value.int _ _)) _ _ _); k_dflt (refine' Mine.str_item ?zza ?zzb ?zzc ?_; (case zza => omega); (case zzb => omega); (case zzc => omega)); intro _ _ _ _))
  (k_with "compareOp In str str" => (k_here; (fail_if_success fail_if_success with_reducible show wpAny _ _ (compareOp CmpOp.In (Value.str _ _) (Value.str _ _)) _ _ _); (refine Mine.str_in (by with_reducible assumption) ?_); intro _ _))
  (k_with "exec While Compare cons nil" => (refine Mine.stop_intro ?_))
  (k_with "exec While BoolOp cons nil" => (refine Mine.stop_intro ?_))
  (k_with "exec While UnaryOp cons nil" => (refine Mine.stop_intro ?_))
  (k_with "exec While Constant cons nil" => (refine Mine.stop_intro ?_))
  (k_with "exec While" => (refine Mine.stop_intro ?_))
  (k_with "call" => ((fail_if_success fail_if_success with_reducible show wpAny _ _ (call (Prod.fst _) _) _ _ _); dsimp only [List.cons_append, List.nil_append, List.append_nil]))
  (k_with "call ref" => (k_here; (fail_if_success fail_if_success with_reducible show wpAny _ _ (call (Value.ref _) [Value.str _ _]) _ _ _); k_dflt (refine' Mine.dinit_M ?zzB ?zzF ?zzX ?zzT ?zzhk ?zzhd ?zzhu ?zzN ?zzq ?zzx ?zzU ?zzne ?zzhT ?zzhS ?_; (case zzB => k_asm); (case zzF => k_asm); (case zzX => k_asm); (case zzT => k_asm); (case zzhk => first | exact rfl | assumption); (case zzN => k_asm); (case zzq => k_mem); (case zzx => k_mem); (case zzU => k_updF); (case zzne => k_ne); (case zzhS => with_reducible assumption); (case zzhT => omega); (case zzhd => ktr_room); (case zzhu => ktr_units)); intro _ _ _ _ _ _ _ _ _ _ _ _ _ _ _ _ _ _ _ l1 l2 l3 _ N9; (try dsimp only at N9 l1); (try k_lt l1); (try k_lt2 l2); (try k_lt2 l3); (try dsimp only); (try k_fold); (try k_sweep)))
  (k_with "call ref" => (k_here; (fail_if_success fail_if_success with_reducible show wpAny _ _ (call (Value.ref 150) _) _ _ _); k_dflt (refine' Mine.flat_new ?zzB ?zzF ?zzX ?zzT ?zzhk ?zzhd ?zzhu ?zzN ?_; (case zzB => k_asm); (case zzF => k_asm); (case zzX => k_asm); (case zzT => k_asm); (case zzhk => first | exact rfl | assumption); (case zzN => k_asm); (case zzhd => ktr_room); (case zzhu => ktr_units)); intro _ _ _ _ _; (try dsimp only); (try k_fold); (try k_sweep)))
  trivial
namespace Mine
open PySem PySem.W PyProof.Rows PySem.Calls PyProof.V PySem.Spec PySem.NumText
set_option maxHeartbeats 2000000 in
theorem rinit_body {w : World} {mean : ExcName → Option Value} {mg mb : Str → Option Value} {dp un : Nat} {gd : Option (List Code)} {cn : Str} {cs : Scope} {a : Addr} {ccd : Value} {cl : List (Str × Addr)} {outer : List Env} {A₀ : Around} {base h₀ : Heap} {L : Addr} {m : Str → Option Value} {zh : Heap} {zg : Array GenState} {zd : Drawn} {zt : Nat} {zo : OsState} {Q E : Value → Shared → Prop} {x dx : Addr} {Tx : Str} {tT : Tok} {b : Bool} {tk0 : TokD} {ks : List TokD} {rest : List (Addr × Obj)}
    (B : Below A₀ base outer h₀) (F : Fr h₀ L zh m) (X : (Mine.top.heap_1 w.params).In h₀) (T : Top Mine.V loose mean mg mb h₀) (hk : cs.kind = .function) (hdp : dp + 60 < recursionLimit) (hun : un + 600 < cLine)
    (N : News h₀ L zh ((dx, dictOf [] 0) :: rest)) (hx : (x, instObj 446 dx) ∈ rest) (hoff : ∀ q ∈ rest, q.1 ≠ dx) (hne : @Ne Nat x dx)
    (hT : Tx.length ≤ 20000) (hS : Sfx b Tx.cps.toList 0 (tk0 :: ks))
    (hQ : ∀ eh sc dxs ah o h1 h2 t1 t2 tk h' tk' (kf : Nat), TokO tk0 o → RestIs Tx kf ks → (kf : Int) ≤ Tx.length → (∀ q ∈ rest, q.1 < dxs) → @LT.lt Nat _ dx dxs → @LT.lt Nat _ dxs sc → @LT.lt Nat _ sc ah → Fr h₀ L h' m → News h₀ L h' ((dx, rdD eh sc ah) :: (sc, instObj 285 dxs) :: (dxs, scD h1 h2 t1 t2 Tx tT (kf : Int) tk) :: (ah, o) :: rest) → Q .none ⟨h', zg, zd, tk', zo⟩) :
    codeAny (model prog w) (ktrTop dp un gd cn cs L a ccd cl outer) (.call (.ref 382) ⟨[.ref x, .str Tx tT], []⟩) (fun r s' => match r with | .ok (.ret v) => Q v s' | .ok _ => False | .error e => E e s') ⟨zh, zg, zd, zt, zo⟩ := by
  k_dflt (refine' ks_code_super (binds := [(Str.ofString "self", .ref x), (Str.ofString "text", .str Tx tT)]) ?k1 ?k2 ?k3 ?k4 ?k5 ?kA ?kF ?kK ?k6 ?k7 ?k8 ?k9 ?kB ?_ ?c1 ?c2 ?c3 ?c4; (case kA => exact rfl); (case kF => exact rfl); (case kK => assumption); (case k1 => k_asm); (case k2 => k_asm); (case k3 => k_asm); (case k4 => k_asm); (case k5 => k_asm); (case k6 => k_is); (case k7 => k_is); (case k8 => ktr_room); (case k9 => exact BindsTo.of_eq rfl); (case kB => exact locs rfl); (case c1 => decide); (case c2 => exact rfl); (case c3 => exact rfl); (case c4 => exact rfl); intro g' L' h' FG' F' N' B' X' T' l1'; (try k_lt l1'); (try dsimp only); (try k_fold); (try ((show let Ab : PySem.Around := ktrTop dp un gd cn cs L a ccd cl outer; let ev : PySem.Env := _; let Ac : PySem.Around := PySem.Around.deeper Ab ev; PySem.wpAt _ Ac _ (PySem.execs _ ev) _ _ _); intro Ab ev Ac; (replace hdp : PySem.Around.depth Ab + _ < _ := hdp); (replace hun : PySem.Around.units Ab + _ < _ := hun))))
  k_steps
  all_goals (
    (with_reducible rename Fr _ _ _ _ => Fz)
    (with_reducible rename News _ _ _ _ => Nz)
    refine' hQ ⟨_, _, _, _, _, _, _, _, _, _, _, _, _, _, _, _, _, _⟩ _ _ _ _ _ _ _ _ _ _ _ _ (by assumption) (by assumption) (by assumption) ?l3 ?l4 ?l5 ?l6 Fz (newsSub Nz (four_sub ?m1 ?m2 ?m3 ?m4 fun q hq => ?m5))
    case m1 => k_mem
    case m2 => k_mem
    case m3 => k_mem
    case m4 => k_mem
    case m5 => k_mem
    case l3 => exact allLt_mem (by (first | with_reducible assumption | exact Mine.al1 (by with_reducible assumption) | exact Mine.al2 (by with_reducible assumption) | exact Mine.al3 (by with_reducible assumption) | exact Mine.al4 (by with_reducible assumption) | exact Mine.al5 (by with_reducible assumption) | exact Mine.al6 (by with_reducible assumption) | exact Mine.al7 (by with_reducible assumption) | exact Mine.al8 (by with_reducible assumption)))
    case l4 => first | assumption | exact Mine.cj1 (by assumption) | exact Mine.cj2 (by assumption) | exact Mine.cj3 (by assumption) | exact Mine.cj4 (by assumption) | exact Mine.cj5 (by assumption) | exact Mine.cj6 (by assumption) | exact Mine.cj7 (by assumption) | exact Mine.cj8 (by assumption) | omega
    case l5 => first | assumption | exact Mine.cj1 (by assumption) | exact Mine.cj2 (by assumption) | exact Mine.cj3 (by assumption) | exact Mine.cj4 (by assumption) | exact Mine.cj5 (by assumption) | exact Mine.cj6 (by assumption) | exact Mine.cj7 (by assumption) | exact Mine.cj8 (by assumption) | omega
    case l6 => first | assumption | exact Mine.cj1 (by assumption) | exact Mine.cj2 (by assumption) | exact Mine.cj3 (by assumption) | exact Mine.cj4 (by assumption) | exact Mine.cj5 (by assumption) | exact Mine.cj6 (by assumption) | exact Mine.cj7 (by assumption) | exact Mine.cj8 (by assumption) | omega)
end Mine
theorem Mine.rw_P37_rnew : True := by
  k_with_none
  (k_with "subscriptTail" => (k_here; (fail_if_success fail_if_success with_reducible show wpAny _ _ (subscriptTail _ _ (Value.ref _) (Value.str _ _)) _ _ _); k_dflt (refine' Mine.d_get ?zzN ?zzm ?zzo ?zzf ?_; (case zzN => k_asm); (case zzm => k_mem); (case zzo => with_reducible assumption); (case zzf => exact rfl); k_whole)))
  (k_with "setItem ref str" => (k_here; (fail_if_success fail_if_success with_reducible show wpAny _ _ (setItem (Value.ref _) (Value.str _ _) _) _ _ _); k_dflt (refine' Mine.d_set ?zzF ?zzN ?zzU ?zzo ?_ ?zzz; (case zzF => k_asm); (case zzN => k_asm); (case zzU => k_updF); (case zzo => with_reducible assumption); (case zzz => exact Nat.le_of_ble_eq_true rfl)); intro _ _ _ _ _; (try k_sweep)))
  (k_with "call builtin:len" => (k_here; (fail_if_success fail_if_success with_reducible show wpAny _ _ (call (Value.builtin "len") [Value.ref _]) _ _ _); k_dflt (refine' Mine.len_L ?zzN ?zzm ?zzb ?_; (case zzN => k_asm); (case zzm => k_mem); (case zzb => omega); k_whole)))
  (k_with "subscriptTail" => (k_here; (fail_if_success fail_if_success with_reducible show wpAny _ _ (subscriptTail _ _ (Value.ref _) (Value.int _ _)) _ _ _); k_dflt (refine' Mine.item_L ?zzN ?zzm ?zza ?zzb ?zzc ?_; (case zzN => k_asm); (case zzm => k_mem); (case zza => omega); (case zzb => omega); (case zzc => omega); k_whole); intro _ _))
  (k_with "subscriptTail" => (k_here; (fail_if_success fail_if_success with_reducible show wpAny _ _ (subscriptTail _ _ (Value.ref _) (Value.int _ _)) _ _ _); k_dflt (refine' Mine.item_LI ?zzN ?zzm ?zzi ?zza ?zzb ?zzc ?_; (case zzN => k_asm); (case zzm => k_mem); (case zzi => with_reducible assumption); (case zza => omega); (case zzb => omega); (case zzc => omega); k_whole); intro _ _))
  (k_with "ite" => first | with_reducible refine PyProof.Rows.ite_tt ?_ | with_reducible refine PyProof.Rows.ite_ff ?_)
  (k_with "execs cons" => (k_here; (try k_gentoks); (with_reducible refine wpAny_execs_cons ?_); (try dsimp only); k_fold))
  (k_with "eval Constant int" => (with_reducible refine Mine.constI ?_))
  (k_with "eval Constant str" => (with_reducible refine Mine.constS ?_))
  (k_with "binaryOp Add int int" => (with_reducible refine Mine.addI ?_))
  trivial
namespace Mine
open PySem PySem.W PyProof.Rows PySem.Calls PyProof.V PySem.Spec PySem.NumText
theorem reader_new {w : World} {mean : ExcName → Option Value} {mg mb : Str → Option Value} {dp un : Nat} {gd : Option (List Code)} {cn : Str} {cs : Scope} {a : Addr} {ccd : Value} {cl : List (Str × Addr)} {outer : List Env} {A₀ : Around} {base h₀ : Heap} {L : Addr} {m : Str → Option Value} {zh : Heap} {zg : Array GenState} {zd : Drawn} {zt : Nat} {zo : OsState} {Q E : Value → Shared → Prop} {news : List (Addr × Obj)} {Tx : Str} {tT : Tok} {b : Bool} {tk0 : TokD} {ks : List TokD}
    (B : Below A₀ base outer h₀) (F : Fr h₀ L zh m) (X : (Mine.top.heap_1 w.params).In h₀) (T : Top Mine.V loose mean mg mb h₀) (hk : cs.kind = .function) (hdp : dp + 70 < recursionLimit) (hun : un + 700 < cLine)
    (N : News h₀ L zh news) (hT : Tx.length ≤ 20000) (hS : Sfx b Tx.cps.toList 0 (tk0 :: ks))
    (hQ : ∀ rd dr eh sc dxs ah o h1 h2 t1 t2 tk h' tk' (kf : Nat), TokO tk0 o → RestIs Tx kf ks → (kf : Int) ≤ Tx.length → (∀ q ∈ news, q.1 < dr) → @LT.lt Nat _ dr rd → @LT.lt Nat _ rd dxs → @LT.lt Nat _ dxs sc → @LT.lt Nat _ sc ah → Fr h₀ L h' m → News h₀ L h' ((dr, rdD eh sc ah) :: (dxs, scD h1 h2 t1 t2 Tx tT (kf : Int) tk) :: (rd, instObj 446 dr) :: (sc, instObj 285 dxs) :: (ah, o) :: news) → Q (.ref rd) ⟨h', zg, zd, tk', zo⟩) :
    wpAny (model prog w) (ktrTop dp un gd cn cs L a ccd cl outer) (call (.ref 446) [.str Tx tT]) Q E ⟨zh, zg, zd, zt, zo⟩ := by
  refine' cls_new (fI := 382) F X N ?k4 ?k5 ?k6 fun x dx h' F' N' l1 l2 => ?go
  case k4 => k_is
  case k5 => k_is
  case k6 => k_is
  case go =>
    have l2' : @LT.lt Nat _ dx x := l2
    have hne : @Ne Nat x dx := by omega
    refine' rinit_body (x := x) (dx := dx) (rest := (x, instObj 446 dx) :: news) B F' X T hk ?hd ?hu (newsSub N' ?sub) (.head _) ?off hne hT hS fun eh sc dxs ah o h1 h2 t1 t2 tk h2' tk' kf e1 e2 e3 e4 e5 e6 e7 F2 N2 => ⟨rfl, hQ x dx eh sc dxs ah o h1 h2 t1 t2 tk h2' tk' kf e1 e2 e3 l1 l2' (e4 _ (.head _)) e6 e7 F2 (newsSub N2 ?sub2)⟩
    case hd => 
      show dp + (Code.builtin "type.__call__" ⟨[Value.ref 446, Value.str Tx tT], []⟩).weight + 60 < recursionLimit
      rw [show (Code.builtin "type.__call__" ⟨[Value.ref 446, Value.str Tx tT], []⟩).weight = 1 from rfl]
      omega
    case hu =>
      show un + 1 + 600 < cLine
      omega
    case sub =>
      intro q hq
      rcases List.mem_cons.mp hq with rfl | hq
      · exact .tail _ (.head _)
      · rcases List.mem_cons.mp hq with rfl | hq
        · exact .head _
        · exact .tail _ (.tail _ hq)
    case off =>
      intro q hq
      rcases List.mem_cons.mp hq with rfl | hq
      · exact hne
      · exact Nat.ne_of_lt (l1 q hq)
    case sub2 =>
      intro q hq
      rcases List.mem_cons.mp hq with rfl | hq
      · exact .head _
      · rcases List.mem_cons.mp hq with rfl | hq
        · exact .tail _ (.tail _ (.head _))
        · rcases List.mem_cons.mp hq with rfl | hq
          · exact .tail _ (.tail _ (.tail _ (.tail _ (.head _))))
          · rcases List.mem_cons.mp hq with rfl | hq
            · exact .tail _ (.head _)
            · rcases List.mem_cons.mp hq with rfl | hq
              · exact .tail _ (.tail _ (.tail _ (.head _)))
              · exact .tail _ (.tail _ (.tail _ (.tail _ (.tail _ hq))))
end Mine
theorem Mine.rw_P38_dig : True := by
  k_with_none
  (k_with "subscriptTail" => (k_here; (fail_if_success fail_if_success with_reducible show wpAny _ _ (subscriptTail _ _ (Value.ref _) (Value.str _ _)) _ _ _); k_dflt (refine' Mine.d_get ?zzN ?zzm ?zzo ?zzf ?_; (case zzN => k_asm); (case zzm => k_mem); (case zzo => with_reducible assumption); (case zzf => exact rfl); k_whole)))
  (k_with "setItem ref str" => (k_here; (fail_if_success fail_if_success with_reducible show wpAny _ _ (setItem (Value.ref _) (Value.str _ _) _) _ _ _); k_dflt (refine' Mine.d_set ?zzF ?zzN ?zzU ?zzo ?_ ?zzz; (case zzF => k_asm); (case zzN => k_asm); (case zzU => k_updF); (case zzo => with_reducible assumption); (case zzz => exact Nat.le_of_ble_eq_true rfl)); intro _ _ _ _ _; (try k_sweep)))
  (k_with "call builtin:len" => (k_here; (fail_if_success fail_if_success with_reducible show wpAny _ _ (call (Value.builtin "len") [Value.ref _]) _ _ _); k_dflt (refine' Mine.len_L ?zzN ?zzm ?zzb ?_; (case zzN => k_asm); (case zzm => k_mem); (case zzb => omega); k_whole)))
  (k_with "subscriptTail" => (k_here; (fail_if_success fail_if_success with_reducible show wpAny _ _ (subscriptTail _ _ (Value.ref _) (Value.int _ _)) _ _ _); k_dflt (refine' Mine.item_L ?zzN ?zzm ?zza ?zzb ?zzc ?_; (case zzN => k_asm); (case zzm => k_mem); (case zza => omega); (case zzb => omega); (case zzc => omega); k_whole); intro _ _))
  (k_with "subscriptTail" => (k_here; (fail_if_success fail_if_success with_reducible show wpAny _ _ (subscriptTail _ _ (Value.ref _) (Value.int _ _)) _ _ _); k_dflt (refine' Mine.item_LI ?zzN ?zzm ?zzi ?zza ?zzb ?zzc ?_; (case zzN => k_asm); (case zzm => k_mem); (case zzi => with_reducible assumption); (case zza => omega); (case zzb => omega); (case zzc => omega); k_whole); intro _ _))
  (k_with "ite" => first | with_reducible refine PyProof.Rows.ite_tt ?_ | with_reducible refine PyProof.Rows.ite_ff ?_)
  (k_with "execs cons" => (k_here; (try k_gentoks); (with_reducible refine wpAny_execs_cons ?_); (try dsimp only); k_fold))
  (k_with "eval Constant int" => (with_reducible refine Mine.constI ?_))
  (k_with "eval Constant str" => (with_reducible refine Mine.constS ?_))
  (k_with "binaryOp Add int int" => (with_reducible refine Mine.addI ?_))
  (k_with "subscriptTail" => (k_here; (fail_if_success fail_if_success with_reducible show wpAny _ _ (subscriptTail _ (Expr.Slice (some _) (some _) none _) (Value.str _ _) (Value.ref _)) _ _ _); k_dflt (refine' Mine.str_slice (s := ⟨_, _, _, _, _⟩) ?zzF ?zzN ?zza ?zzb ?zzc ?zzd ?_ ?zzs ?zzt; (case zzF => k_asm); (case zzN => k_asm); (case zza => omega); (case zzb => omega); (case zzc => omega); (case zzd => omega); (case zzs => with_unfolding_all rfl); (case zzt => kmk_pure)); intro _ _ _ _ _ _ _; (try k_sweep)))
  (k_with "subscriptTail" => (k_here; (fail_if_success fail_if_success with_reducible show wpAny _ _ (subscriptTail _ _ (Value.str _ _) (Value.int _ _)) _ _ _); k_dflt (refine' Mine.str_item ?zza ?zzb ?zzc ?_; (case zza => omega); (case zzb => omega); (case zzc => omega)); intro _ _ _ _))
  (k_with "compareOp In str str" => (k_here; (fail_if_success fail_if_success with_reducible show wpAny _ _ (compareOp CmpOp.In (Value.str _ _) (Value.str _ _)) _ _ _); (refine Mine.str_in (by with_reducible assumption) ?_); intro _ _))
  (k_with "exec While Compare cons nil" => (refine Mine.stop_intro ?_))
  (k_with "exec While BoolOp cons nil" => (refine Mine.stop_intro ?_))
  (k_with "exec While UnaryOp cons nil" => (refine Mine.stop_intro ?_))
  (k_with "exec While Constant cons nil" => (refine Mine.stop_intro ?_))
  (k_with "exec While" => (refine Mine.stop_intro ?_))
  (k_with "call" => ((fail_if_success fail_if_success with_reducible show wpAny _ _ (call (Prod.fst _) _) _ _ _); dsimp only [List.cons_append, List.nil_append, List.append_nil]))
  trivial
namespace Mine
open PySem PySem.W PyProof.Rows PySem.Calls PyProof.V PySem.Spec PySem.NumText
theorem big_abs {n : Int} (h0 : -10 ^ 33 < n) (h1 : n < 10 ^ 33) : ¬ (10 : Int) ^ Int.toNat 1000 ≤ if n < 0 then -n else n := by
  have h2 : (10 : Nat) ^ 33 ≤ 10 ^ 1000 := Nat.pow_le_pow_right (by decide) (by decide)
  have h3 : (10 : Int) ^ 33 ≤ 10 ^ Int.toNat 1000 := by
    have e : Int.toNat 1000 = 1000 := rfl
    rw [e]
    exact_mod_cast h2
  generalize (10 : Int) ^ Int.toNat 1000 = b at h3 ⊢
  intro h
  split at h <;> omega
theorem numW_toString {n : Int} (h0 : -10 ^ 33 < n) (h1 : n < 10 ^ 33) : NumW n (Str.ofString (toString n)).cps.toList := by
  by_cases h : 0 ≤ n
  · exact numW_pos (digW_toString h) (len_toString h (by omega))
  · obtain ⟨k, rfl⟩ : ∃ k, n = Int.negSucc k := by
      cases n with
      | ofNat k => exact absurd (Int.natCast_nonneg k) h
      | negSucc k => exact ⟨k, rfl⟩
    have e1 : (Str.ofString (toString (Int.negSucc k))).cps.toList = 45 :: (Str.ofString (toString ((k + 1 : Nat) : Int))).cps.toList := by
      have e2 : toString (Int.negSucc k) = "-" ++ toString ((k + 1 : Nat) : Int) := rfl
      rw [e2, cps_ofString, cps_ofString, String.toList_append, List.map_append]
      rfl
    rw [e1]
    have hk : ((k + 1 : Nat) : Int) = 0 - Int.negSucc k := by omega
    have hd := digW_toString (n := ((k + 1 : Nat) : Int)) (by omega)
    rw [hk] at hd
    rw [hk]
    exact numW_neg hd (len_toString (by omega) (by omega))
theorem NumW.len {n : Int} {x : List Nat} (h : NumW n x) : x.length ≤ 61 := by
  obtain ⟨neg, ds, rfl, _, _, hl, _⟩ := h
  cases neg
  · show ds.length ≤ 61
    omega
  · show (45 :: ds).length ≤ 61
    rw [List.length_cons]
    omega
set_option maxHeartbeats 2000000 in
theorem digits_K {w : World} {mean : ExcName → Option Value} {mg mb : Str → Option Value} {dp un : Nat} {gd : Option (List Code)} {cn : Str} {cs : Scope} {a : Addr} {ccd : Value} {cl : List (Str × Addr)} {outer : List Env} {A₀ : Around} {base h₀ : Heap} {L : Addr} {m : Str → Option Value} {zh : Heap} {zg : Array GenState} {zd : Drawn} {zt : Nat} {zo : OsState} {Q E : Value → Shared → Prop} {news : List (Addr × Obj)} {n : Int} {t : Tok}
    (B : Below A₀ base outer h₀) (F : Fr h₀ L zh m) (X : (Mine.top.heap_1 w.params).In h₀) (T : Top Mine.V loose mean mg mb h₀) (hk : cs.kind = .function) (hdp : dp + 5 < recursionLimit) (hun : un + 50 < cLine)
    (N : News h₀ L zh news) (hn0 : -10 ^ 33 < n) (hn1 : n < 10 ^ 33)
    (hQ : ∀ x tx h' tk', NumW n x.cps.toList → Fr h₀ L h' m → News h₀ L h' news → Q (.str x tx) ⟨h', zg, zd, tk', zo⟩) :
    wpAny (model prog w) (ktrTop dp un gd cn cs L a ccd cl outer) (call (.ref 221) [.int n t]) Q E ⟨zh, zg, zd, zt, zo⟩ := by
  refine wpAny_call ?_
  k_dflt (refine' code_def (binds := [(Str.ofString "number", .int n t)]) ?k1 ?k2 ?k3 ?k4 ?k5 ?kA ?kF ?kK ?k6 ?k7 ?k8 ?k9 ?kB ?_ ?c2 ?c3 ?c4 ?c5; (case kA => exact rfl); (case kF => exact rfl); (case kK => assumption); (case k1 => k_asm); (case k2 => k_asm); (case k3 => k_asm); (case k4 => k_asm); (case k5 => k_asm); (case k6 => k_is); (case k7 => k_is); (case k8 => ktr_room); (case k9 => exact BindsTo.of_eq rfl); (case c5 => decide); (case kB => exact locs rfl); (case c2 => exact rfl); (case c3 => exact rfl); (case c4 => exact rfl); k_whole; intro g' L' h' FG' F' N' B' X' T'; (try dsimp only); (try k_fold); (show let Ab : PySem.Around := ktrTop dp un gd cn cs L a ccd cl outer; let ev : PySem.Env := _; let Ac : PySem.Around := PySem.Around.deeper Ab ev; wpAny _ Ac (PySem.execs _ ev) _ _ _); intro Ab ev Ac; (replace hdp : PySem.Around.depth Ab + _ < _ := hdp); (replace hun : PySem.Around.units Ab + _ < _ := hun))
  k_steps
  · exact absurd (by assumption) (big_abs hn0 hn1)
  · (with_reducible rename Fr h₀ _ _ _ => Fz)
    (with_reducible rename News h₀ _ _ _ => Nz)
    exact hQ _ _ _ _ (numW_toString hn0 hn1) Fz Nz
end Mine
namespace Mine
open PySem PySem.W PyProof.Rows PySem.Calls PyProof.V PySem.Spec PySem.NumText PyProof.Rows.LCg
section
variable {pg : Program} {w : World} {A : Around} {E : Value → Shared → Prop} {s : Shared} {env : Env} {h₀ : Heap} {m : Str → Option Value} {news : List (Addr × Obj)} {elt iter : PySem.Expr} {a b y : Str} {pa pb tp py : Pos} {kk : Nat} {scope : Scope} {cl : List (Str × Addr)} {pos spos : Pos} {Q : Flow → Shared → Prop} {dm : Addr} {vs : List Value}
/-- what is asked of one turn: the ledger stands, the list grows by the element's value -/
def TurnP (pg : Program) (w : World) (A : Around) (h₀ : Heap) (L : Addr) (m : Str → Option Value) (news : List (Addr × Obj)) (elt : PySem.Expr) (scope : Scope) (cl : List (Str × Addr)) (env : Env) (a b : Str) (vs : List Value) (J : Nat → List Value → Prop) (s : Shared) : Prop :=
  ∀ (i : Nat) (t : Addr) (p q : Value) (ys : List Value) (I : Addr) (oI : Obj) (C : Addr) (oC : Obj) (D : Addr) (m₂ : Str → Option Value) (h : Heap) (tk : Nat) (E' : Value → Shared → Prop), vs[i]? = some (.ref t) → (t, tupO [p, q]) ∈ news → J i ys → NsObj oC m₂ → m₂ a = some p → m₂ b = some q → Fr h₀ L h m →
    News h₀ L h ((I, oI) :: (C, oC) :: (D, lst ys) :: news) → 
    wpAny (model pg w) A (eval elt (compEnvC scope cl C env)) (fun v s' => ∃ h' tk', s' = { s with heap := h', toks := tk' } ∧ Fr h₀ L h' m ∧ News h₀ L h' ((I, oI) :: (C, oC) :: (D, lst ys) :: news) ∧ J (i + 1) (ys ++ [v])) E' { s with heap := h, toks := tk }
theorem comp_loop {I C D : Addr} {h : Heap} {tk : Nat} {m₀ : Str → Option Value} {R : Result → Shared → Prop} (J : Nat → List Value → Prop)
    (hh : A.handled = none) (hm : (dm, tupO vs) ∈ news) (hp : ∀ (i : Nat) (v : Value), vs[i]? = some v → ∃ (t : Addr) (p q : Value), v = .ref t ∧ (t, tupO [p, q]) ∈ news)
    (ha : scope.names.lookup a = some .local) (hb : scope.names.lookup b = some .local) (hab : a ≠ b) (hkind : scope.kind = .function) (hvs : vs.length ≤ 1000)
    (dCI : C ≠ I) (dDI : D ≠ I) (dCD : C ≠ D) (oI : ∀ q ∈ news, q.1 ≠ I) (oC : ∀ q ∈ news, q.1 ≠ C) (oD : ∀ q ∈ news, q.1 ≠ D) (lI : I ≠ env.locals) (lC : C ≠ env.locals) (lD : D ≠ env.locals) (nI : h₀.get? I = none) (nC : h₀.get? C = none) (nD : h₀.get? D = none)
    (hI : h.IsTupleIter I dm 0) (F : Fr h₀ env.locals h m) (hC : h.Ns C m₀) (N : News h₀ env.locals h ((D, lst []) :: news)) (hJ : J 0 [])
    (turn : TurnP pg w A h₀ env.locals m news elt scope cl env a b vs J s)
    (fin : ∀ h' tk' m' ys, Fr h₀ env.locals h' m → h'.Ns C m' → News h₀ env.locals h' ((D, lst ys) :: news) → J vs.length ys → R (.ok .next) { s with heap := h', toks := tk' }) :
    codeAny (model pg w) A (.compLoop (.ListComp elt [⟨.Tuple [.Name a pa, .Name b pb] kk tp, iter, [], 0⟩] scope pos) 0 (.ref I) (.ref D) (compEnvC scope cl C env)) R { s with heap := h, toks := tk } := by
  refine kcp_loop (fun k s' => ∃ h' tk' i ys m', s' = { s with heap := h', toks := tk' } ∧ i + k = vs.length ∧ ys.length = i ∧ h'.IsTupleIter I dm i ∧ Fr h₀ env.locals h' m ∧ h'.Ns C m' ∧ News h₀ env.locals h' ((D, lst ys) :: news) ∧ J i ys) ?_ vs.length ⟨h, tk, 0, [], m₀, rfl, by omega, rfl, hI, F, hC, N, hJ⟩
  rintro k s' ⟨h', tk', i, ys, m', rfl, hik, hyl, hI', F', hC', N', hJ'⟩
  have hT : h'.IsTuple dm vs.toArray := ⟨_, (N' _ (.tail _ hm)).1, rfl, _, rfl⟩
  by_cases hlt : i < vs.length
  · have hv : vs[i]? = some vs[i] := List.getElem?_eq_getElem hlt
    obtain ⟨t, p, q, hvt, htm⟩ := hp i _ hv
    rw [hvt] at hv
    refine wpAny_pyNext_tuple_item hI' hT (x := .ref t) (by simpa using hv) fun h1 hI1 hs1 => ?_
    refine letGo_tupleiter hI1 ?_
    have up1 : ∀ c o, c ≠ I → h'.get? c = some o → h1.get? c = some o := fun c o hc e => (hs1.2 c hc).trans e
    have ht1 : h1.IsTuple t #[p, q] := ⟨_, up1 _ _ (oI _ htm) (N' _ (.tail _ htm)).1, rfl, _, rfl⟩
    have hC1 : h1.Ns C m' := hC'.at fun o e => up1 C o dCI e
    refine kcp_assign hh ht1 (lookup_relabel_local ha) (lookup_relabel_local hb) (by simp [compEnvC, relabel, hkind]) hC1 fun h2 tk2 hC2 up2 => ?_
    have up12 : ∀ c o, c ≠ I → c ≠ C → h'.get? c = some o → h2.get? c = some o := fun c o hc hc2 e => up2 c o hc2 (up1 c o hc e)
    obtain ⟨oCo, heC, hoC⟩ := ns_obj hC2
    have F2 : Fr h₀ env.locals h2 m := ⟨F'.ns.at fun o e => up12 _ o (Ne.symm lI) (Ne.symm lC) e, fun c o e => up12 c o (fun z => by rw [z, nI] at e; cases e) (fun z => by rw [z, nC] at e; cases e) (F'.keep c o e), F'.above⟩
    have hI2 : h2.IsTupleIter I dm (i + 1) := hI1.at fun o e => up2 I o (Ne.symm dCI) e
    obtain ⟨oIo, heI, hcI, hdI⟩ := hI2
    have N2 : News h₀ env.locals h2 ((I, oIo) :: (C, oCo) :: (D, lst ys) :: news) := by
      intro x hx
      rcases List.mem_cons.mp hx with rfl | hx
      · exact ⟨heI, lI, nI⟩
      · rcases List.mem_cons.mp hx with rfl | hx
        · exact ⟨heC, lC, nC⟩
        · refine ⟨up12 _ _ ?_ ?_ (N' x hx).1, (N' x hx).2⟩
          · rcases List.mem_cons.mp hx with rfl | hx
            · exact dDI
            · exact oI x hx
          · rcases List.mem_cons.mp hx with rfl | hx
            · exact Ne.symm dCD
            · exact oC x hx
    refine wpAny_mono (turn i t p q ys I oIo C oCo D _ h2 tk2 _ hv htm hJ' hoC (by simp [hab]) (by simp) F2 N2) (fun v s4 h4 => ?_) fun _ _ e => e
    obtain ⟨h4', tk4, rfl, F4, N4, hJ4⟩ := h4
    have hD4 := (N4 (D, lst ys) (.tail _ (.tail _ (.head _)))).1
    refine append_at (hsz := by rw [sizeLine_eq, List.size_toArray]; omega) hD4 fun h5 hs5 hD5 => ?_
    refine ⟨k - 1, by omega, h5, tk4, i + 1, ys ++ [v], (fun z => if z = b then some q else if z = a then some p else m' z), rfl, by omega, by simp [hyl], ?_, ?_, ?_, ?_, hJ4⟩
    · exact ⟨oIo, (hs5.2 I (Ne.symm dDI)).trans (N4 _ (.head _)).1, hcI, hdI⟩
    · exact F4.change hs5 lD nD
    · exact hoC.ns ((hs5.2 C dCD).trans (N4 (C, oCo) (.tail _ (.head _))).1)
    · intro x hx
      rcases List.mem_cons.mp hx with rfl | hx
      · refine ⟨hD5.trans (congrArg some ?_), lD, nD⟩
        rw [← hyl] at *
        exact lst_snoc ys v
      · have z := N4 x (.tail _ (.tail _ (.tail _ hx)))
        exact ⟨(hs5.2 _ (oD x hx)).trans z.1, z.2⟩
  · obtain rfl : i = vs.length := by omega
    refine wpAny_pyNext_tuple_end hh hI' hT (by simp) fun h1 hs1 => ?_
    exact fin h1 tk' m' ys ⟨F'.ns.at fun o e => hs1 _ o (Ne.symm lI) e, fun c o e => hs1 c o (fun z => by rw [z, nI] at e; cases e) (F'.keep c o e), F'.above⟩ (hC'.at fun o e => hs1 C o dCI e)
      (fun x hx => ⟨hs1 _ _ (by
        rcases List.mem_cons.mp hx with rfl | hx
        · exact dDI
        · exact oI x hx) (N' x hx).1, (N' x hx).2⟩) hJ'
theorem comp_pairs (J : Nat → List Value → Prop)
    (hh : A.handled = none) (F : Fr h₀ env.locals s.heap m) (N : News h₀ env.locals s.heap news) (hm : (dm, tupO vs) ∈ news) (hp : ∀ (i : Nat) (v : Value), vs[i]? = some v → ∃ (t : Addr) (p q : Value), v = .ref t ∧ (t, tupO [p, q]) ∈ news) (hvs : vs.length ≤ 1000)
    (hsw : swapsWith (.ListComp elt [⟨.Tuple [.Name a pa, .Name b pb] kk tp, iter, [], 0⟩] scope pos) (some (.Name y py)) spos.line env = pure true)
    (hclos : closureFor scope env = pure cl) (hcell : ∀ z ∈ scope.names, z.2 ≠ .cell) (hkind : scope.kind = .function)
    (hnames : ∀ z ∈ scope.names, z.2 = .local → scope.names.lookup z.1 = some .local) (ha : scope.names.lookup a = some .local) (hb : scope.names.lookup b = some .local) (hab : a ≠ b)
    (hy : env.kindOf y = some .local) (hpl : (env.scope.kind == .class || (env.scope.kind == .module && env.locals != env.globals)) = false)
    (h : wpAny (model pg w) A (eval iter env) (fun v s₁ => v = .ref dm ∧ s₁ = s) E s)
    (hJ : J 0 []) (turn : TurnP pg w A h₀ env.locals m news elt scope cl env a b vs J s)
    (fin : ∀ D ys h' tk', J vs.length ys → (∀ q ∈ news, q.1 < D) → Fr h₀ env.locals h' (fun z => if z = y then some (.ref D) else m z) → News h₀ env.locals h' ((D, lst ys) :: news) → Q .next { s with heap := h', toks := tk' })
    (hs : ∀ x, foldedSetIterable iter env x = pure x := by intro _; rfl) :
    wpAny (model pg w) A (exec (.Assign [.Name y py] (.ListComp elt [⟨.Tuple [.Name a pa, .Name b pb] kk tp, iter, [], 0⟩] scope pos) spos) env) Q E s := by
  rw [exec_Assign_Name_used _ _ _ _ hsw]
  refine wpAny_bind (wpAny_standAt (wpAny_bind ?_))
  show wpAny _ A (do let _ ← comprehension (.ListComp elt [⟨.Tuple [.Name a pa, .Name b pb] kk tp, iter, [], 0⟩] scope pos) scope env _ (newList []) false (eval iter env) (some (assign (.Name y py) env))) _ _ s
  refine wpAny_bind (wpAny_mono (wpAny_comprehension_free (use := some (assign (.Name y py) env)) (Q := fun _ s' => Q .next s') rfl hs hclos hkind hnames
    (wpAny_mono h (fun xv s₁ h₁ => ?_) fun _ _ e => e)) (fun _ s' hq => wpAny_pure (wpAny_pure hq)) fun _ _ e => e)
  obtain ⟨rfl, rfl⟩ := h₁
  have hT : s₁.heap.IsTuple dm vs.toArray := ⟨_, (N _ hm).1, rfl, _, rfl⟩
  refine wpAny_pyIter_tuple hT ?_
  have hlt := fun q hq => Heap.lt_size (N q hq).1
  refine wpAny_newObj_type ?_ (by size_fits)
  refine wpAny_newFunctionEnv hcell (by intro y hy; simp at hy) (fun h1 hns1 hsb1 => ?_) hkind
  generalize hg1 : s₁.heap.push { cls := .type "tuple_iterator", data := .fields #[.ref dm, .int 0 0] } = g1 at *
  have z1 : g1.objs.size = s₁.heap.objs.size + 1 := by rw [← hg1, Heap.size_push]
  dsimp only at hns1 hsb1 ⊢
  generalize hg2 : g1.push { cls := .type "list", dict := none, data := .seq ([] : List Value).toArray } = g2 at *
  have z2 : g2.objs.size = g1.objs.size + 1 := by rw [← hg2, Heap.size_push]
  have up : ∀ c o, g2.get? c = some o → h1.get? c = some o := fun c o e => hsb1.extBut c o (Nat.ne_of_lt (Heap.lt_size e)) (Heap.get?_push_of_some _ e)
  have up2 : ∀ c o, g1.get? c = some o → h1.get? c = some o := fun c o e => up c o (hg2 ▸ Heap.get?_push_of_some _ e)
  have up3 : ∀ c o, s₁.heap.get? c = some o → h1.get? c = some o := fun c o e => up2 c o (hg1 ▸ Heap.get?_push_of_some _ e)
  have hL := F.ns.lt
  have new0 : ∀ c, s₁.heap.objs.size ≤ c → h₀.get? c = none := fun c hc => Heap.get?_none_of_le (Nat.le_trans (Nat.le_of_lt (Nat.lt_of_le_of_lt F.above hL)) hc)
  have hI : h1.IsTupleIter s₁.heap.objs.size dm 0 := ⟨_, up2 _ _ (hg1 ▸ Heap.get?_push_size _ rfl), rfl, rfl⟩
  have hD : h1.get? g1.objs.size = some (lst []) := up _ _ (hg2 ▸ Heap.get?_push_size _ rfl)
  have k1 : @LT.lt Nat _ s₁.heap.objs.size g1.objs.size := by omega
  have k2 : @LT.lt Nat _ g1.objs.size g2.objs.size := by omega
  have k3 : @LT.lt Nat _ s₁.heap.objs.size g2.objs.size := by omega
  have k4 : @LT.lt Nat _ env.locals g1.objs.size := Nat.lt_trans hL k1
  have k5 : @LT.lt Nat _ env.locals g2.objs.size := Nat.lt_trans hL k3
  have old1 : ∀ q ∈ news, @LT.lt Nat _ q.1 g1.objs.size := fun q hq => Nat.lt_trans (hlt q hq) k1
  have old2 : ∀ q ∈ news, @LT.lt Nat _ q.1 g2.objs.size := fun q hq => Nat.lt_trans (hlt q hq) k3
  refine codeAny_compStart_list (?loop) (wpAny_pyIter_tupleiter hI ?loop)
  refine comp_loop (I := s₁.heap.objs.size) (C := g2.objs.size) (D := g1.objs.size) (s := s₁) J hh hm hp ha hb hab hkind hvs (Nat.ne_of_gt k3) (Nat.ne_of_gt k1) (Nat.ne_of_gt k2) (fun q hq => Nat.ne_of_lt (hlt q hq)) (fun q hq => Nat.ne_of_lt (old2 q hq)) (fun q hq => Nat.ne_of_lt (old1 q hq)) (Nat.ne_of_gt hL) (Nat.ne_of_gt k5) (Nat.ne_of_gt k4) (new0 _ (Nat.le_refl _)) (new0 _ (Nat.le_of_lt k3)) (new0 _ (Nat.le_of_lt k1)) hI (F.keeps up3) hns1 (fun x hx => ?c3) hJ turn fun h' tk' m' ys F' hC' N' hJ' => ?c4
  case c3 =>
    rcases List.mem_cons.mp hx with rfl | hx
    · exact ⟨hD, Nat.ne_of_gt k4, new0 _ (Nat.le_of_lt k1)⟩
    · exact ⟨up3 _ _ (N x hx).1, (N x hx).2⟩
  case c4 =>
    show wpAny _ A (assign (.Name y py) env (.ref g1.objs.size)) _ _ _
    refine wpAny_assign_Name (wpAny_storeName_local hy F'.ns (fun h2 hn2 hs2 => ?_) hpl)
    have F2 : Fr h₀ env.locals h2 (fun z => if z = y then some (.ref g1.objs.size) else m z) := F'.set hn2 hs2
    have hCL : g2.objs.size ≠ env.locals := Nat.ne_of_gt k5
    refine ⟨m', hC'.sameBut hs2 hCL, fun h3 hs3 => fin _ ys h3 _ hJ' (fun q hq => ?_) (F2.change hs3 hCL (new0 _ (Nat.le_of_lt k3))) (fun x hx => ?_)⟩
    · exact old1 q hq
    · have z := N' x hx
      refine ⟨hs3.extBut _ _ ?_ ((hs2.2 _ z.2.1).trans z.1), z.2⟩
      rcases List.mem_cons.mp hx with rfl | hx
      · exact Nat.ne_of_lt k2
      · exact Nat.ne_of_lt (old2 x hx)
end
end Mine
namespace Mine
open PySem PySem.W PyProof.Rows PySem.Calls PyProof.V PySem.Spec PySem.NumText
/-- a range's text -/
def RngT (x : List Nat) (p : Int × Int) : Prop := ∃ a b, x = a ++ [46, 46] ++ b ∧ NumW p.1 a ∧ NumW p.2 b
def Bnd (p : Int × Int) : Prop := -10 ^ 33 < p.1 ∧ p.1 < 10 ^ 33 ∧ -10 ^ 33 < p.2 ∧ p.2 < 10 ^ 33
def Good : Option Int → List (Int × Int) → Prop
  | _, [] => True
  | last, (lo, hi) :: r => ¬ (hi < lo ∨ ∃ l, last = some l ∧ lo ≤ l + 1) ∧ Good (some hi) r
inductive RngsT : List Str → List (Int × Int) → Prop
  | nil : RngsT [] []
  | cons {x : Str} {p xs ps} : RngT x.cps.toList p → RngsT xs ps → RngsT (x :: xs) (p :: ps)
theorem RngsT.snoc {xs : List Str} {ps : List (Int × Int)} {x : Str} {p : Int × Int} (h : RngsT xs ps) (k : RngT x.cps.toList p) : RngsT (xs ++ [x]) (ps ++ [p]) := by
  induction h with
  | nil => exact .cons k .nil
  | cons a _ ih => exact .cons a ih
theorem RngsT.length {xs : List Str} {ps : List (Int × Int)} (h : RngsT xs ps) : xs.length = ps.length := by
  induction h with
  | nil => rfl
  | cons _ _ ih => rw [List.length_cons, List.length_cons, ih]
theorem RngT.len {x : List Nat} {p : Int × Int} (h : RngT x p) : x.length ≤ 124 := by
  obtain ⟨a, b, rfl, h1, h2⟩ := h
  have := h1.len
  have := h2.len
  simp only [List.length_append, List.length_cons, List.length_nil]
  omega
def tailT : List Str → List Nat
  | [] => [125]
  | x :: r => [44, 32] ++ x.cps.toList ++ tailT r
theorem tailT_len {xs : List Str} {ps : List (Int × Int)} (h : RngsT xs ps) : (tailT xs).length ≤ 126 * ps.length + 1 := by
  induction h with
  | nil => simp [tailT]
  | cons a _ ih =>
    have := a.len
    rw [tailT, List.length_append, List.length_append, List.length_cons]
    simp only [List.length_cons, List.length_nil]
    omega
theorem cps_comma : (Str.ofString ", ").cps.toList = [44, 32] := by decide +kernel
theorem cps_open : (Str.ofString "{").cps.toList = [123] := by decide +kernel
theorem cps_close : (Str.ofString "}").cps.toList = [125] := by decide +kernel
theorem cps_cm : (Str.ofString ",").cps.toList = [44] := by decide +kernel
theorem cps_dd : (Str.ofString "..").cps.toList = [46, 46] := by decide +kernel
theorem numLen {n : Int} {x : Str} (h : NumW n x.cps.toList) : x.length ≤ 61 := by rw [← len_cps]; exact h.len
theorem len_dd : (Str.ofString "..").length = 2 := by decide +kernel
theorem join_tail : ∀ (r : List Str) (x : Str), (Str.join (Str.ofString ", ") (x :: r)).cps.toList ++ [125] = x.cps.toList ++ tailT r
  | [], x => rfl
  | y :: r, x => by
    show ((x ++ Str.ofString ", ") ++ Str.join (Str.ofString ", ") (y :: r)).cps.toList ++ [125] = _
    rw [cps_app, cps_app, List.append_assoc, join_tail r y, cps_comma, tailT]
    simp only [List.append_assoc]
theorem rowD_num {n : Int} {x : List Nat} (h : NumW n x) (a : -10 ^ 33 < n) (b : n < 10 ^ 33) : RowD (some n) x := .inr ⟨n, rfl, h, a, b⟩
theorem rowD_sgn {x : List Nat} (h : x ∈ signL) : RowD none x := .inl ⟨rfl, h⟩
/-- a range's three tokens ahead of a text -/
theorem sfx_rng {b : Bool} {g x r : List Nat} {off : Nat} {p : Int × Int} {ks : List TokD} {last : Option Int} (hg : g ∈ gapL) (hb : g ≠ [] ∨ b = true) (hx : RngT x p) (hp : Bnd p) (hgood : ¬ (p.2 < p.1 ∨ ∃ l, last = some l ∧ p.1 ≤ l + 1))
    (hs : Sfx false r (off + g.length + x.length) ks) :
    ∃ t1 t2 t3, Sfx b (g ++ x ++ r) off (t1 :: t2 :: t3 :: ks) ∧ (∀ S : Str, ¬ IsS t1 S) ∧ StrR last (t1 :: t2 :: t3 :: ks) (.ok (p.1, p.2, ks)) := by
  obtain ⟨u, v, rfl, hu, hv⟩ := hx
  obtain ⟨b1, b2, b3, b4⟩ := hp
  have nu := numW_late hu
  have nv := numW_late hv
  refine ⟨⟨some p.1, u, off + g.length⟩, ⟨none, [46, 46], off + g.length + u.length⟩, ⟨some p.2, v, off + g.length + u.length + 2⟩, ?_, fun S h => ?_, ?_⟩
  · have e : g ++ (u ++ [46, 46] ++ v) ++ r = g ++ u ++ ([] ++ [46, 46] ++ ([] ++ v ++ r)) := by simp only [List.append_assoc, List.nil_append]
    rw [e]
    refine Sfx.cons hg (rowD_num hu b1 b2) (hb.imp id .inl) ?_
    refine Sfx.cons (by decide) (rowD_sgn (by decide)) (.inr (.inr (by decide))) ?_
    have e2 : decide (([46, 46] : List Nat) ∈ lateL) = true := by decide
    rw [e2]
    refine Sfx.cons (by decide) (rowD_num hv b3 b4) (.inr (.inl rfl)) ?_
    rw [decide_eq_false nv]
    have e3 : off + g.length + u.length + ([] : List Nat).length + ([46, 46] : List Nat).length + ([] : List Nat).length + v.length = off + g.length + (u ++ [46, 46] ++ v).length := by
      simp only [List.length_append, List.length_cons, List.length_nil]
      omega
    rw [e3]
    exact hs
  · exact absurd h.1 (by simp)
  · exact .good rfl ⟨rfl, cps_dd.symm⟩ rfl hgood
/-- the ranges behind the first one, up to the closing bracket -/
theorem tail_reads : ∀ {xs : List Str} {ps : List (Int × Int)} (_ : RngsT xs ps) (_ : ∀ p ∈ ps, Bnd p) (f : List (Int × Int)) (l h : Int) (_ : Good (some h) ps) (off : Nat),
    ∃ ks e, Sfx false (tailT xs) off ks ∧ LoopR (f ++ [(l, h)]) ks (.ok (f ++ [(l, h)] ++ ps, [e])) ∧ ks.length ≤ 4 * ps.length + 2 := by
  intro xs ps h
  induction h with
  | nil =>
    intro _ f l h _ off
    refine ⟨[⟨none, [125], off + 0⟩, ⟨none, [], off + 0 + 1⟩], ⟨none, [], off + 0 + 1⟩, ?_, ?_, by simp⟩
    · have := Sfx.cons (b := false) (g := []) (x := [125]) (r := []) (off := off) (w := none) (ks := [⟨none, [], off + 0 + 1⟩]) (by decide) (rowD_sgn (by decide)) (.inr (.inr (by decide))) .fin
      simpa [tailT] using this
    · rw [List.append_nil]
      exact .done ⟨rfl, cps_close.symm⟩
  | @cons x p xs ps hx _ ih =>
    intro hb f l h hg off
    obtain ⟨hg1, hg2⟩ := hg
    obtain ⟨ks, e, h1, h2, h3⟩ := ih (fun q hq => hb q (.tail _ hq)) (f ++ [(l, h)]) p.1 p.2 hg2 (off + 0 + 1 + ([32] : List Nat).length + x.cps.toList.length)
    obtain ⟨t1, t2, t3, h4, h5, h6⟩ := sfx_rng (b := true) (g := [32]) (off := off + 0 + 1) (last := some h) (by decide) (.inl (by decide)) hx (hb p (.head _)) hg1 h1
    refine ⟨⟨none, [44], off + 0⟩ :: t1 :: t2 :: t3 :: ks, e, ?_, ?_, ?_⟩
    · have := Sfx.cons (b := false) (g := []) (x := [44]) (r := [32] ++ x.cps.toList ++ tailT xs) (off := off) (w := none) (ks := t1 :: t2 :: t3 :: ks) (by decide) (rowD_sgn (by decide)) (.inr (.inr (by decide))) h4
      simpa [tailT] using this
    · refine .next ?_ ⟨rfl, cps_cm.symm⟩ h6 ?_
      · intro z
        have := z.2
        rw [cps_close] at this
        exact absurd (show ([44] : List Nat) = [125] from this) (by decide)
      · have e2 : f ++ [(l, h)] ++ p :: ps = f ++ [(l, h)] ++ [(p.1, p.2)] ++ ps := by simp
        rw [e2]
        exact h2
    · simp only [List.length_cons]
      omega
/-- the text of ranges is read as they are -/
theorem text_reads {xs : List Str} {ps : List (Int × Int)} (h : RngsT xs ps) (hb : ∀ p ∈ ps, Bnd p) (hg : Good none ps) (X : Str) (hX : X = if xs.length = 1 then xs.headD Str.empty else Str.ofString "{" ++ Str.join (Str.ofString ", ") xs ++ Str.ofString "}") :
    ∃ tk0 ks e, Sfx true X.cps.toList 0 (tk0 :: ks) ∧ DomR (tk0 :: ks) (.ok (ps, [e])) ∧ ks.length ≤ 4 * ps.length + 4 ∧ X.length ≤ 126 * ps.length + 4 := by
  cases h with
  | nil =>
    have e1 : X.cps.toList = [] ++ [123] ++ ([] ++ [125] ++ []) := by rw [hX]; decide +kernel
    refine ⟨⟨none, [123], 0⟩, [⟨none, [125], 1⟩, ⟨none, [], 2⟩], ⟨none, [], 2⟩, ?_, ?_, by simp, ?_⟩
    · rw [e1]
      refine Sfx.cons (by decide) (rowD_sgn (by decide)) (.inr (.inl rfl)) ?_
      refine Sfx.cons (by decide) (rowD_sgn (by decide)) (.inr (.inr (by decide))) ?_
      exact .fin
    · exact .curly ⟨rfl, cps_open.symm⟩ (.done ⟨rfl, cps_close.symm⟩)
    · rw [← len_cps, e1]
      simp
  | @cons x p xs ps hx hr =>
    obtain ⟨hg1, hg2⟩ := hg
    have hxl := hx.len
    cases hr with
    | nil =>
      have e0 : X = x := hX
      subst e0
      have hf : Sfx false [] (0 + ([] : List Nat).length + X.cps.toList.length) [⟨none, [], 0 + ([] : List Nat).length + X.cps.toList.length⟩] := .fin
      obtain ⟨t1, t2, t3, h4, h5, h6⟩ := sfx_rng (b := true) (g := []) (off := 0) (last := none) (by decide) (.inr rfl) hx (hb p (.head _)) hg1 hf
      refine ⟨t1, _, _, by simpa using h4, .plain (h5 _) h6, by simp, ?_⟩
      rw [← len_cps]
      simp only [List.length_cons, List.length_nil]
      omega
    | @cons y q xs ps hy hr =>
      rw [if_neg (by simp)] at hX
      obtain ⟨ks, e, h1, h2, h3⟩ := tail_reads (.cons hy hr) (fun q hq => hb q (.tail _ hq)) [] p.1 p.2 hg2 (0 + 0 + 1 + ([] : List Nat).length + x.cps.toList.length)
      obtain ⟨t1, t2, t3, h4, h5, h6⟩ := sfx_rng (b := true) (g := []) (off := 0 + 0 + 1) (last := none) (by decide) (.inr rfl) hx (hb p (.head _)) hg1 h1
      have e1 : X.cps.toList = [] ++ [123] ++ ([] ++ x.cps.toList ++ tailT (y :: xs)) := by
        rw [hX, cps_app, cps_app, cps_open, cps_close, List.append_assoc, join_tail]
        simp
      refine ⟨⟨none, [123], 0 + 0⟩, t1 :: t2 :: t3 :: ks, e, ?_, ?_, ?_, ?_⟩
      · rw [e1]
        exact Sfx.cons (by decide) (rowD_sgn (by decide)) (.inr (.inl rfl)) h4
      · exact .curly ⟨rfl, cps_open.symm⟩ (.first (h5 _) h6 h2)
      · simp only [List.length_cons] at h3 ⊢
        omega
      · have := tailT_len (.cons hy hr)
        rw [← len_cps, e1]
        simp only [List.length_append, List.length_cons, List.length_nil] at this ⊢
        omega
end Mine
namespace Mine
open PySem PySem.W PyProof.Rows PySem.Calls PyProof.V PySem.Spec PySem.NumText
theorem TokL.bnd {t : TokD} {r : List TokD} {n : Int} (h : TokL (t :: r)) (hw : t.worth = some n) : -10 ^ 33 < n ∧ n < 10 ^ 33 := by
  cases h with
  | fin => cases hw
  | cons hr _ =>
    rcases hr with ⟨e, _⟩ | ⟨k, e, _, a, b⟩
    · have e' : (none : Option Int) = some n := e ▸ hw
      cases e'
    · have e' : some k = some n := e ▸ hw
      cases e'
      exact ⟨a, b⟩
theorem TokL.tail {t t1 : TokD} {r : List TokD} (h : TokL (t :: t1 :: r)) : TokL (t1 :: r) := by
  cases h with
  | cons _ h => exact h
theorem StrR.facts {last : Option Int} {ks r : List TokD} {lo hi : Int} (h : StrR last ks (.ok (lo, hi, r))) (hT : TokL ks) : Bnd (lo, hi) ∧ ¬ (hi < lo ∨ ∃ l, last = some l ∧ lo ≤ l + 1) ∧ TokL r ∧ ks.length = r.length + 3 := by
  cases h with
  | good a b c d =>
    have h1 := hT.bnd a
    have h2 := hT.tail.tail.bnd c
    exact ⟨⟨h1.1, h1.2, h2.1, h2.2⟩, d, (hT.tail.tail.num c).1, by simp⟩
theorem LoopR.facts {f : List (Int × Int)} {ks : List TokD} {x : Except Nat (List (Int × Int) × List TokD)} (h : LoopR f ks x) : ∀ {rs r}, x = .ok (rs, r) → TokL ks → ∃ g, rs = f ++ g ∧ Good (f.getLast?.map Prod.snd) g ∧ (∀ p ∈ g, Bnd p) ∧ g.length ≤ ks.length ∧ r.length < ks.length := by
  induction h with
  | done a =>
    intro rs r e hT
    cases e
    exact ⟨[], by simp, trivial, fun _ h => absurd h List.not_mem_nil, by simp, by simp⟩
  | noComma => intro rs r e; cases e
  | firstBad => intro rs r e; cases e
  | first a b _ ih =>
    intro rs r e hT
    obtain ⟨h1, h2, h3, h4⟩ := b.facts hT
    obtain ⟨g, rfl, k1, k2, k3, k4⟩ := ih e h3
    refine ⟨_ :: g, rfl, ⟨h2, k1⟩, fun p hp => ?_, by simp only [List.length_cons] at h4 ⊢; omega, by omega⟩
    rcases List.mem_cons.mp hp with rfl | hp
    · exact h1
    · exact k2 p hp
  | nextBad => intro rs r e; cases e
  | @next f l h t r0 lo hi r' res a b c _ ih =>
    intro rs r e hT
    have hT2 := (hT.sign b (by decide +kernel)).1
    obtain ⟨h1, h2, h3, h4⟩ := c.facts hT2
    obtain ⟨g, rfl, k1, k2, k3, k4⟩ := ih e h3
    refine ⟨(lo, hi) :: g, by simp, ?_, fun p hp => ?_, by simp only [List.length_cons] at h4 ⊢; omega, by simp only [List.length_cons]; omega⟩
    · have e1 : (f ++ [(l, h)]).getLast? = some (l, h) := by simp
      have e2 : (f ++ [(l, h)] ++ [(lo, hi)]).getLast? = some (lo, hi) := by simp
      rw [e2] at k1
      rw [e1]
      exact ⟨h2, k1⟩
    · rcases List.mem_cons.mp hp with rfl | hp
      · exact h1
      · exact k2 p hp
theorem DomR.facts {ks : List TokD} {rs : List (Int × Int)} {r : List TokD} (h : DomR ks (.ok (rs, r))) (hT : TokL ks) : Good none rs ∧ (∀ p ∈ rs, Bnd p) ∧ rs.length ≤ ks.length ∧ r.length < ks.length := by
  cases h with
  | plain a b =>
    obtain ⟨h1, h2, h3, h4⟩ := b.facts hT
    refine ⟨⟨h2, trivial⟩, fun p hp => ?_, by simp, by omega⟩
    rcases List.mem_cons.mp hp with rfl | hp
    · exact h1
    · cases hp
  | curly a b =>
    have hT2 := (hT.sign a (by decide +kernel)).1
    obtain ⟨g, rfl, k1, k2, k3, k4⟩ := b.facts rfl hT2
    exact ⟨k1, k2, by simp only [List.length_cons, List.nil_append]; omega, by simp only [List.length_cons]; omega⟩
section
variable {w : World} {A : Around} {E : Value → Shared → Prop} {zh : Heap} {zg : Array GenState} {zd : Drawn} {zt : Nat} {zo : OsState} {h₀ : Heap} {L : Addr} {news : List (Addr × Obj)}
theorem join_V {D : Addr} {ys : List Value} {xs : List Str} {nn : Nat} {t : Tok} {Q : Value → Shared → Prop} (N : News h₀ L zh news) (hm : (D, ({ cls := .type "list", data := .seq ys.toArray nn } : Obj)) ∈ news) (hs : StrsAre ys xs) (hz : (xs.map (·.length)).sum + xs.length * 2 ≤ 100000)
    (h : ∀ t' k, Q (.str (Str.join (Str.ofString ", ") xs) t') ⟨zh, zg, zd, k, zo⟩) : wpAny (model prog w) A (call (.builtin "str.join") [.str (Str.ofString ", ") t, .ref D]) Q E ⟨zh, zg, zd, zt, zo⟩ := by
  refine join_list ⟨_, (N _ hm).1, rfl, _, rfl⟩ (by simpa using hs) (by rw [len_lit2]; omega) fun t' k => ?_
  rw [show Txt.join (Str.ofString ", ") xs = Str.join (Str.ofString ", ") xs from StrLaws.glued_eq_join _ _]
  exact h t' k
end
end Mine
theorem Mine.rw_P39_dtext : True := by
  k_with_none
  (k_with "subscriptTail" => (k_here; (fail_if_success fail_if_success with_reducible show wpAny _ _ (subscriptTail _ _ (Value.ref _) (Value.str _ _)) _ _ _); k_dflt (refine' Mine.d_get ?zzN ?zzm ?zzo ?zzf ?_; (case zzN => k_asm); (case zzm => k_mem); (case zzo => with_reducible assumption); (case zzf => exact rfl); k_whole)))
  (k_with "setItem ref str" => (k_here; (fail_if_success fail_if_success with_reducible show wpAny _ _ (setItem (Value.ref _) (Value.str _ _) _) _ _ _); k_dflt (refine' Mine.d_set ?zzF ?zzN ?zzU ?zzo ?_ ?zzz; (case zzF => k_asm); (case zzN => k_asm); (case zzU => k_updF); (case zzo => with_reducible assumption); (case zzz => exact Nat.le_of_ble_eq_true rfl)); intro _ _ _ _ _; (try k_sweep)))
  (k_with "call builtin:len" => (k_here; (fail_if_success fail_if_success with_reducible show wpAny _ _ (call (Value.builtin "len") [Value.ref _]) _ _ _); k_dflt (refine' Mine.len_L ?zzN ?zzm ?zzb ?_; (case zzN => k_asm); (case zzm => k_mem); (case zzb => omega); k_whole)))
  (k_with "subscriptTail" => (k_here; (fail_if_success fail_if_success with_reducible show wpAny _ _ (subscriptTail _ _ (Value.ref _) (Value.int _ _)) _ _ _); k_dflt (refine' Mine.item_L ?zzN ?zzm ?zza ?zzb ?zzc ?_; (case zzN => k_asm); (case zzm => k_mem); (case zza => omega); (case zzb => omega); (case zzc => omega); k_whole); intro _ _))
  (k_with "subscriptTail" => (k_here; (fail_if_success fail_if_success with_reducible show wpAny _ _ (subscriptTail _ _ (Value.ref _) (Value.int _ _)) _ _ _); k_dflt (refine' Mine.item_LI ?zzN ?zzm ?zzi ?zza ?zzb ?zzc ?_; (case zzN => k_asm); (case zzm => k_mem); (case zzi => with_reducible assumption); (case zza => omega); (case zzb => omega); (case zzc => omega); k_whole); intro _ _))
  (k_with "ite" => first | with_reducible refine PyProof.Rows.ite_tt ?_ | with_reducible refine PyProof.Rows.ite_ff ?_)
  (k_with "execs cons" => (k_here; (try k_gentoks); (with_reducible refine wpAny_execs_cons ?_); (try dsimp only); k_fold))
  (k_with "eval Constant int" => (with_reducible refine Mine.constI ?_))
  (k_with "eval Constant str" => (with_reducible refine Mine.constS ?_))
  (k_with "binaryOp Add int int" => (with_reducible refine Mine.addI ?_))
  (k_with "subscriptTail" => (k_here; (fail_if_success fail_if_success with_reducible show wpAny _ _ (subscriptTail _ (Expr.Slice (some _) (some _) none _) (Value.str _ _) (Value.ref _)) _ _ _); k_dflt (refine' Mine.str_slice (s := ⟨_, _, _, _, _⟩) ?zzF ?zzN ?zza ?zzb ?zzc ?zzd ?_ ?zzs ?zzt; (case zzF => k_asm); (case zzN => k_asm); (case zza => omega); (case zzb => omega); (case zzc => omega); (case zzd => omega); (case zzs => with_unfolding_all rfl); (case zzt => kmk_pure)); intro _ _ _ _ _ _ _; (try k_sweep)))
  (k_with "subscriptTail" => (k_here; (fail_if_success fail_if_success with_reducible show wpAny _ _ (subscriptTail _ _ (Value.str _ _) (Value.int _ _)) _ _ _); k_dflt (refine' Mine.str_item ?zza ?zzb ?zzc ?_; (case zza => omega); (case zzb => omega); (case zzc => omega)); intro _ _ _ _))
  (k_with "compareOp In str str" => (k_here; (fail_if_success fail_if_success with_reducible show wpAny _ _ (compareOp CmpOp.In (Value.str _ _) (Value.str _ _)) _ _ _); (refine Mine.str_in (by with_reducible assumption) ?_); intro _ _))
  (k_with "exec While Compare cons nil" => (refine Mine.stop_intro ?_))
  (k_with "exec While BoolOp cons nil" => (refine Mine.stop_intro ?_))
  (k_with "exec While UnaryOp cons nil" => (refine Mine.stop_intro ?_))
  (k_with "exec While Constant cons nil" => (refine Mine.stop_intro ?_))
  (k_with "exec While" => (refine Mine.stop_intro ?_))
  (k_with "call" => ((fail_if_success fail_if_success with_reducible show wpAny _ _ (call (Prod.fst _) _) _ _ _); dsimp only [List.cons_append, List.nil_append, List.append_nil]))
  (k_with "exec Assign cons ListComp" => (refine Mine.stop_intro ?_))
  (k_with "call ref" => (k_here; (fail_if_success fail_if_success with_reducible show wpAny _ _ (call (Value.ref 221) [Value.int _ _]) _ _ _); k_dflt (refine' Mine.digits_K ?zzB ?zzF ?zzX ?zzT ?zzhk ?zzhd ?zzhu ?zzN ?zzn0 ?zzn1 ?_; (case zzB => k_asm); (case zzF => k_asm); (case zzX => k_asm); (case zzT => k_asm); (case zzhk => first | exact rfl | assumption); (case zzN => k_asm); (case zzn0 => with_reducible assumption); (case zzn1 => with_reducible assumption); (case zzhd => ktr_room); (case zzhu => ktr_units)); intro _ _ _ _ hx9 _ _; (have hl9 := Mine.numLen hx9); (try dsimp only); (try k_fold); (try k_sweep)))
  (k_with "formatField str" => (k_here; (fail_if_success fail_if_success with_reducible show wpAny _ _ (formatField (Value.str _ _) _) _ _ _); (refine' formatField_str ?zzh ?zzz; (case zzz => (rw [sizeLine_eq]; omega))); intro _ _; (try dsimp only)))
  (k_with "And" => (refine ⟨Mine.len_fit (by simp only [Str.length_append, Mine.len_empty, Mine.len_dd]; omega), ?_⟩))
  (k_with "call builtin:str.join" => (k_here; (fail_if_success fail_if_success with_reducible show wpAny _ _ (call (Value.builtin "str.join") [Value.str _ _, Value.ref _]) _ _ _); k_dflt (refine' Mine.join_V ?zzN ?zzm ?zzs ?zzz ?_; (case zzN => k_asm); (case zzm => k_mem); (case zzs => with_reducible assumption); (case zzz => omega)); intro _ _; (try dsimp only)))
  trivial
namespace Mine
open PySem PySem.W PyProof.Rows PySem.Calls PyProof.V PySem.Spec PySem.NumText PyProof.Rows.LCg
theorem strsAre_snoc {vs : List Value} {ys : List Str} (h : StrsAre vs ys) (y : Str) (t : Tok) : StrsAre (vs ++ [.str y t]) (ys ++ [y]) := by
  induction h with
  | nil => exact .cons y t .nil
  | cons a b _ ih => exact .cons a b ih
theorem PairsV.at {l : List (Addr × Obj)} {vs : List Value} {ps : List (Int × Int)} (h : PairsV l vs ps) : ∀ (i : Nat) (v : Value), vs[i]? = some v → ∃ (t : Addr) (p q : Value), v = .ref t ∧ (t, tupO [p, q]) ∈ l := by
  intro i v hv
  obtain ⟨p, _, a, t, u, rfl, hm⟩ := h.get hv
  exact ⟨a, _, _, rfl, hm⟩
def DtJ (ps : List (Int × Int)) (i : Nat) (ys : List Value) : Prop := ∃ xs, StrsAre ys xs ∧ RngsT xs (ps.take i)
theorem strsAre_len {vs : List Value} {ys : List Str} (h : StrsAre vs ys) : vs.length = ys.length := by
  induction h with
  | nil => rfl
  | cons _ _ _ ih => rw [List.length_cons, List.length_cons, ih]
theorem rngs_sum {xs : List Str} {ps : List (Int × Int)} (h : RngsT xs ps) : (xs.map (·.length)).sum ≤ 124 * ps.length := by
  induction h with
  | nil => simp
  | cons a _ ih =>
    have := a.len
    rw [len_cps] at this
    rw [List.map_cons, List.sum_cons, List.length_cons]
    omega
theorem dt_snoc {ps : List (Int × Int)} {i : Nat} {ys : List Value} {xs : List Str} {lo hi : Int} {x y : Str} {t : Tok} (hxs : StrsAre ys xs) (hrs : RngsT xs (ps.take i)) (hi' : ps[i]? = some (lo, hi)) (hx : NumW lo x.cps.toList) (hy : NumW hi y.cps.toList) :
    DtJ ps (i + 1) (ys ++ [.str (Str.empty ++ x ++ Str.ofString ".." ++ y) t]) := by
  refine ⟨xs ++ [Str.empty ++ x ++ Str.ofString ".." ++ y], strsAre_snoc hxs _ _, ?_⟩
  rw [List.take_add_one, hi']
  refine hrs.snoc ⟨x.cps.toList, y.cps.toList, ?_, hx, hy⟩
  rw [cps_app, cps_app, cps_app, cps_dd]
  rfl
set_option maxHeartbeats 2000000 in
theorem dtext_body {w : World} {mean : ExcName → Option Value} {mg mb : Str → Option Value} {dp un : Nat} {gd : Option (List Code)} {cn : Str} {cs : Scope} {a : Addr} {ccd : Value} {cl : List (Str × Addr)} {outer : List Env} {A₀ : Around} {base h₀ : Heap} {L : Addr} {m : Str → Option Value} {zh : Heap} {zg : Array GenState} {zd : Drawn} {zt : Nat} {zo : OsState} {Q E : Value → Shared → Prop} {news : List (Addr × Obj)} {dm : Addr} {vs : List Value} {ps : List (Int × Int)}
    (B : Below A₀ base outer h₀) (F : Fr h₀ L zh m) (X : (Mine.top.heap_1 w.params).In h₀) (T : Top Mine.V loose mean mg mb h₀) (hk : cs.kind = .function) (hdp : dp + 15 < recursionLimit) (hun : un + 150 < cLine)
    (N : News h₀ L zh news) (hm : (dm, tupO vs) ∈ news) (hv : PairsV news vs ps) (hb : ∀ p ∈ ps, Bnd p) (hl : vs.length ≤ 300) 
    (hQ : ∀ X tX xs h' tk', RngsT xs ps → X = (if xs.length = 1 then xs.headD Str.empty else Str.ofString "{" ++ Str.join (Str.ofString ", ") xs ++ Str.ofString "}") → Fr h₀ L h' m → News h₀ L h' news → Q (.str X tX) ⟨h', zg, zd, tk', zo⟩) :
    wpAny (model prog w) (ktrTop dp un gd cn cs L a ccd cl outer) (call (.ref 226) [.ref dm]) Q E ⟨zh, zg, zd, zt, zo⟩ := by
  refine wpAny_call ?_
  k_dflt (refine' code_def (binds := [(Str.ofString "domain", .ref dm)]) ?k1 ?k2 ?k3 ?k4 ?k5 ?kA ?kF ?kK ?k6 ?k7 ?k8 ?k9 ?kB ?_ ?c2 ?c3 ?c4 ?c5; (case kA => exact rfl); (case kF => exact rfl); (case kK => assumption); (case k1 => k_asm); (case k2 => k_asm); (case k3 => k_asm); (case k4 => k_asm); (case k5 => k_asm); (case k6 => k_is); (case k7 => k_is); (case k8 => ktr_room); (case k9 => exact BindsTo.of_eq rfl); (case c5 => decide); (case kB => exact locs rfl); (case c2 => exact rfl); (case c3 => exact rfl); (case c4 => exact rfl); k_whole; intro g' L' h' FG' F' N' B' X' T'; (try dsimp only); (try k_fold); (show let Ab : PySem.Around := ktrTop dp un gd cn cs L a ccd cl outer; let ev : PySem.Env := _; let Ac : PySem.Around := PySem.Around.deeper Ab ev; wpAny _ Ac (PySem.execs _ ev) _ _ _); intro Ab ev Ac; (replace hdp : PySem.Around.depth Ab + _ < _ := hdp); (replace hun : PySem.Around.units Ab + _ < _ := hun))
  k_steps
  refine Stop.mk ?_
  refine' comp_pairs (DtJ ps) rfl F' N' hm hv.at (by omega) ?sw ?clos ?cell ?kind ?names ?na ?nb ?nab ?ky ?pl (ld F' rfl ⟨rfl, rfl⟩) ⟨[], .nil, .nil⟩ ?turn ?fin
  case sw => with_unfolding_all rfl
  case clos => with_unfolding_all rfl
  case cell => decide
  case kind => rfl
  case names => decide
  case na => rfl
  case nb => rfl
  case nab => decide
  case ky => rfl
  case pl => rfl
  case turn =>
    intro i t p q ys I oI C oC D m₂ h tk E' hvi htm hJ hoC hma hmb F2 N2
    obtain ⟨xs, hxs, hrs⟩ := hJ
    obtain ⟨⟨lo, hi⟩, hpi, a2, tl, th, hra, ham⟩ := hv.get hvi
    obtain rfl : t = a2 := by cases hra; rfl
    have hobj : tupO [p, q] = tupO [.int lo tl, .int hi th] := by
      have e1 := (N' _ htm).1
      have e2 := (N' _ ham).1
      rw [e1] at e2
      exact Option.some.inj e2
    obtain ⟨rfl, rfl⟩ : p = .int lo tl ∧ q = .int hi th := by
      have := congrArg Obj.data hobj
      simpa using this
    obtain ⟨b1, b2, b3, b4⟩ := hb _ (List.mem_of_getElem? hpi)
    dsimp only at b1 b2 b3 b4
    clear F' N' N
    k_steps
    · assumption
    · assumption
    · exact dt_snoc hxs hrs hpi (by assumption) (by assumption)
  case fin =>
    intro D ys h2 tk2 hJ lD F2 N2
    obtain ⟨xs, hxs, hrs⟩ := hJ
    rw [hv.length, List.take_length] at hrs
    have hsl := strsAre_len hxs
    have hrl := hrs.length
    have hpl := hv.length
    clear F' N' N
    have hfit := rngs_sum hrs
    have hjl := StrLaws.join_length_le (Str.ofString ", ") xs
    rw [len_lit2] at hjl
    dsimp only
    k_steps
    · (with_reducible rename Fr h₀ _ _ _ => Fz)
      (with_reducible rename News h₀ _ _ _ => Nz)
      refine hQ _ _ xs _ _ hrs ?_ Fz (newsSub Nz fun q hq => .tail _ hq)
      have h1 : xs.length = 1 := by omega
      rw [if_pos h1]
      obtain ⟨x, rfl⟩ : ∃ x, xs = [x] := List.length_eq_one_iff.mp h1
      rfl
    · (with_reducible rename Fr h₀ _ _ _ => Fz)
      (with_reducible rename News h₀ _ _ _ => Nz)
      refine hQ _ _ xs _ _ hrs ?_ Fz (newsSub Nz fun q hq => .tail _ hq)
      have h1 : ¬ xs.length = 1 := by
        intro h1
        have h2 : (ys.length : Int) = 1 := by omega
        contradiction
      rw [if_neg h1]
end Mine
namespace Mine
open PySem PySem.W PyProof.Rows PySem.Calls PyProof.V PySem.Spec PySem.NumText
theorem at_0 {toks r : List TokD} {t0 : TokD} {p : Nat} {k : Int} (h : toks.drop p = t0 :: r) (e : k = (p : Int)) : toks[k.toNat]? = some t0 := by
  subst e
  rw [Int.toNat_natCast, ← Nat.add_zero p, ← List.getElem?_drop, h]
  rfl
theorem at_1 {toks r : List TokD} {t0 t1 : TokD} {p : Nat} {k : Int} (h : toks.drop p = t0 :: t1 :: r) (e : k = (p : Int) + 1) : toks[k.toNat]? = some t1 := by
  have e2 : k.toNat = p + 1 := by omega
  rw [e2, ← List.getElem?_drop, h]
  rfl
theorem at_2 {toks r : List TokD} {t0 t1 t2 : TokD} {p : Nat} {k : Int} (h : toks.drop p = t0 :: t1 :: t2 :: r) (e : k = (p : Int) + 2) : toks[k.toNat]? = some t2 := by
  have e2 : k.toNat = p + 2 := by omega
  rw [e2, ← List.getElem?_drop, h]
  rfl
theorem at_3 {toks r : List TokD} {t0 t1 t2 t3 : TokD} {p : Nat} {k : Int} (h : toks.drop p = t0 :: t1 :: t2 :: t3 :: r) (e : k = (p : Int) + 3) : toks[k.toNat]? = some t3 := by
  have e2 : k.toNat = p + 3 := by omega
  rw [e2, ← List.getElem?_drop, h]
  rfl
section
variable {pg : Program} {w : World} {A : Around} {E : Value → Shared → Prop} {zh : Heap} {zg : Array GenState} {zd : Drawn} {zt : Nat} {zo : OsState} {h₀ : Heap} {L l : Addr} {news T : List (Addr × Obj)} {fvs : List Value} {toks : List TokD} {nn : Nat} {k : Int} {u : Tok} {tok : TokD} {value slice : PySem.Expr} {Q : Value → Shared → Prop}
theorem tok_item (N : News h₀ L zh news) (hm : (l, listOf fvs.toArray nn) ∈ news) (hv : ToksV T fvs toks) (g : toks[k.toNat]? = some tok) (h0 : 0 ≤ k) (hb : fvs.length ≤ 1000)
    (h : ∀ a wv x t t2, (a, tupO [wv, .str x t, .int (tok.pos : Int) t2]) ∈ T → x.cps.toList = tok.txt → worthIs wv tok.worth → Q (.ref a) ⟨zh, zg, zd, zt, zo⟩)
    (hs : subscripted slice false (.ref l) (.int k u) = operate [.ref l, .int k u] (getItem (.ref l) (.int k u)) := by with_unfolding_all rfl) :
    wpAny (model pg w) A (subscriptTail value slice (.ref l) (.int k u)) Q E ⟨zh, zg, zd, zt, zo⟩ := by
  have hk := (List.getElem?_eq_some_iff.mp g).1
  have hl := hv.length
  refine item_L N hm h0 (by omega) (by omega) (fun x hx => ?_) hs
  obtain ⟨tok', g', a, wv, x', t, t2, rfl, hm', hx', hw⟩ := hv.get hx
  rw [g] at g'
  cases g'
  exact h a wv x' t t2 hm' hx' hw
theorem tok_item_num {n : Int} (N : News h₀ L zh news) (hm : (l, listOf fvs.toArray nn) ∈ news) (hv : ToksV T fvs toks) (g : toks[k.toNat]? = some tok) (h0 : 0 ≤ k) (hb : fvs.length ≤ 1000) (hw : tok.worth = some n)
    (h : ∀ a tn x t t2, (a, tupO [.int n tn, .str x t, .int (tok.pos : Int) t2]) ∈ T → x.cps.toList = tok.txt → Q (.ref a) ⟨zh, zg, zd, zt, zo⟩)
    (hs : subscripted slice false (.ref l) (.int k u) = operate [.ref l, .int k u] (getItem (.ref l) (.int k u)) := by with_unfolding_all rfl) :
    wpAny (model pg w) A (subscriptTail value slice (.ref l) (.int k u)) Q E ⟨zh, zg, zd, zt, zo⟩ :=
  tok_item N hm hv g h0 hb (fun a wv x t t2 h1 h2 h3 => by
    rcases h3 with ⟨_, e⟩ | ⟨n', tn, rfl, e⟩
    · rw [hw] at e; cases e
    · rw [hw] at e; cases e
      exact h a tn x t t2 h1 h2) hs
theorem tok_item_non (N : News h₀ L zh news) (hm : (l, listOf fvs.toArray nn) ∈ news) (hv : ToksV T fvs toks) (g : toks[k.toNat]? = some tok) (h0 : 0 ≤ k) (hb : fvs.length ≤ 1000) (hw : tok.worth = none)
    (h : ∀ a x t t2, (a, tupO [.none, .str x t, .int (tok.pos : Int) t2]) ∈ T → x.cps.toList = tok.txt → Q (.ref a) ⟨zh, zg, zd, zt, zo⟩)
    (hs : subscripted slice false (.ref l) (.int k u) = operate [.ref l, .int k u] (getItem (.ref l) (.int k u)) := by with_unfolding_all rfl) :
    wpAny (model pg w) A (subscriptTail value slice (.ref l) (.int k u)) Q E ⟨zh, zg, zd, zt, zo⟩ :=
  tok_item N hm hv g h0 hb (fun a wv x t t2 h1 h2 h3 => by
    rcases h3 with ⟨rfl, _⟩ | ⟨n', tn, rfl, e⟩
    · exact h a x t t2 h1 h2
    · rw [hw] at e; cases e) hs
theorem tok_item_two (N : News h₀ L zh news) (hm : (l, listOf fvs.toArray nn) ∈ news) (hv : ToksV T fvs toks) (h0 : 0 ≤ k) (h1 : k < fvs.length) (hb : fvs.length ≤ 1000)
    (ha : ∀ (tok : TokD) a x t t2, toks[k.toNat]? = some tok → (a, tupO [.none, .str x t, .int (tok.pos : Int) t2]) ∈ T → x.cps.toList = tok.txt → tok.worth = none → Q (.ref a) ⟨zh, zg, zd, zt, zo⟩)
    (hc : ∀ (tok : TokD) a n tn x t t2, toks[k.toNat]? = some tok → (a, tupO [.int n tn, .str x t, .int (tok.pos : Int) t2]) ∈ T → x.cps.toList = tok.txt → tok.worth = some n → Q (.ref a) ⟨zh, zg, zd, zt, zo⟩)
    (hs : subscripted slice false (.ref l) (.int k u) = operate [.ref l, .int k u] (getItem (.ref l) (.int k u)) := by with_unfolding_all rfl) :
    wpAny (model pg w) A (subscriptTail value slice (.ref l) (.int k u)) Q E ⟨zh, zg, zd, zt, zo⟩ := by
  have hl := hv.length
  have hk : k.toNat < toks.length := by omega
  exact tok_item N hm hv (List.getElem?_eq_getElem hk) h0 hb (fun a wv x t t2 a1 a2 a3 => by
    rcases a3 with ⟨rfl, e⟩ | ⟨n, tn, rfl, e⟩
    · exact ha _ a x t t2 (List.getElem?_eq_getElem hk) a1 a2 e
    · exact hc _ a n tn x t t2 (List.getElem?_eq_getElem hk) a1 a2 e) hs
theorem str_eq_d {x z : Str} {t u : Tok} {l : List Nat} (hy : x.cps.toList = l) (h : Q (.bool (decide (l = z.cps.toList))) ⟨zh, zg, zd, zt, zo⟩) : wpAny (model pg w) A (compareOp .Eq (.str x t) (.str z u)) Q E ⟨zh, zg, zd, zt, zo⟩ := by
  refine P.eq_str ?_
  rw [hy, show (l == z.cps.toList) = decide (l = z.cps.toList) by by_cases h : l = z.cps.toList <;> simp [h]]
  exact h
theorem str_ne_d {x z : Str} {t u : Tok} {l : List Nat} (hy : x.cps.toList = l) (h : Q (.bool (!decide (l = z.cps.toList))) ⟨zh, zg, zd, zt, zo⟩) : wpAny (model pg w) A (compareOp .NotEq (.str x t) (.str z u)) Q E ⟨zh, zg, zd, zt, zo⟩ := by
  refine P.ne_str ?_
  rw [hy, show (l != z.cps.toList) = !decide (l = z.cps.toList) by by_cases h : l = z.cps.toList <;> simp [h]]
  exact h
theorem str_ne_t {x z : Str} {t u : Tok} {l : List Nat} (hy : x.cps.toList = l) (hz : l = z.cps.toList) (h : Q (.bool false) ⟨zh, zg, zd, zt, zo⟩) : wpAny (model pg w) A (compareOp .NotEq (.str x t) (.str z u)) Q E ⟨zh, zg, zd, zt, zo⟩ := by
  have e : x = z := str_ext (hy.trans hz)
  refine P.ne_str ?_
  rw [e]
  simpa using h
theorem str_ne_f {x z : Str} {t u : Tok} {l : List Nat} (hy : x.cps.toList = l) (hz : l ≠ z.cps.toList) (h : Q (.bool true) ⟨zh, zg, zd, zt, zo⟩) : wpAny (model pg w) A (compareOp .NotEq (.str x t) (.str z u)) Q E ⟨zh, zg, zd, zt, zo⟩ := by
  refine P.ne_str ?_
  rw [hy, bne, beq_eq_false_iff_ne.mpr hz]
  exact h
end
theorem tok_txt {t : TokD} {r : List TokD} {S : Str} (h : TokL (t :: r)) (hS : S.cps.toList ∈ lateL) (hn : ¬ IsS t S) : t.txt ≠ S.cps.toList := by
  intro e
  apply hn
  refine ⟨?_, e⟩
  cases h with
  | fin => rfl
  | cons hr _ =>
    rcases hr with ⟨e2, _⟩ | ⟨n, _, hw, _⟩
    · exact e2
    · have e3 : _ = S.cps.toList := e
      exact absurd (show _ ∈ lateL from by rw [← e3] at hS; exact hS) (numW_late hw)
end Mine
namespace Mine
open PySem PySem.W PyProof.Rows PySem.Calls PyProof.V PySem.Spec PySem.NumText
def pd (p : Int × Int) : PyData := .tuple [.int p.1, .int p.2]
theorem pd_lay : ∀ ps : List (Int × Int), PyData.canLayAll0 (ps.map pd) = true
  | [] => rfl
  | _ :: r => by simp [PyData.canLayAll0, PyData.canLay0, pd, pd_lay r]
theorem pd_depth : ∀ ps : List (Int × Int), PyData.depthAll (ps.map pd) ≤ 1
  | [] => by simp [PyData.depthAll]
  | _ :: r => by
    have := pd_depth r
    simp only [List.map_cons, PyData.depthAll, PyData.depth, pd]
    omega
theorem pd_eqv : ∀ ps qs : List (Int × Int), PyData.eqvAll (ps.map pd) (qs.map pd) = decide (ps = qs)
  | [], [] => by simp [PyData.eqvAll]
  | [], _ :: _ => by simp [PyData.eqvAll]
  | _ :: _, [] => by simp [PyData.eqvAll]
  | (a, b) :: r, (c, d) :: t => by
    simp only [List.map_cons, PyData.eqvAll, PyData.eqv, pd, pd_eqv r t]
    by_cases h : a = c <;> by_cases h' : b = d <;> by_cases h'' : r = t <;> simp [h, h', h'']
theorem pd_shT (ps : List (Int × Int)) : SeqAt.shaped (.tuple (ps.map pd)) = true := by
  have := pd_depth ps
  simp only [SeqAt.shaped, PyData.canLay0, PyData.depth, pd_lay ps, Bool.true_and]
  exact decide_eq_true (by omega)
theorem pd_shL (ps : List (Int × Int)) : SeqAt.shaped (.list (ps.map pd)) = true := by
  have := pd_depth ps
  simp only [SeqAt.shaped, PyData.canLay0, PyData.depth, pd_lay ps, Bool.true_and]
  exact decide_eq_true (by omega)
section
variable {w : World} {A : Around} {E : Value → Shared → Prop} {zh : Heap} {zg : Array GenState} {zd : Drawn} {zt : Nat} {zo : OsState} {h₀ h : Heap} {L a b : Addr} {news : List (Addr × Obj)} {vs us : List Value} {ps qs : List (Int × Int)} {n1 n2 : Nat} {Q : Value → Shared → Prop}
theorem PairsV.reads (N : News h₀ L h news) (hv : PairsV news vs ps) : ∃ as, ReadsAll h vs (ps.map pd) as := by
  induction hv with
  | nil => exact ⟨_, .nil⟩
  | cons hp _ ih =>
    obtain ⟨as, r⟩ := ih
    obtain ⟨x, t, u, rfl, hm⟩ := hp
    exact ⟨_, .cons (reads_tuple_at (N.get hm) rfl rfl (.cons (.int _ _) (.cons (.int _ _) .nil))) r⟩
theorem ne_pairsT (N : News h₀ L zh news) (ma : (a, tupO vs) ∈ news) (mb : (b, tupO us) ∈ news) (hv : PairsV news vs ps) (hu : PairsV news us qs) (hx : A.units + 64 < cLine) (h : Q (.bool (!decide (ps = qs))) ⟨zh, zg, zd, zt, zo⟩) :
    wpAny (model prog w) A (compareOp .NotEq (.ref a) (.ref b)) Q E ⟨zh, zg, zd, zt, zo⟩ := by
  obtain ⟨as, ra⟩ := hv.reads N
  obtain ⟨bs, rb⟩ := hu.reads N
  refine ne_dataH (reads_tuple_at (N.get ma) rfl rfl (by simpa using ra)) (reads_tuple_at (N.get mb) rfl rfl (by simpa using rb)) (pd_shT ps) (pd_shT qs) hx ?_
  simp only [PyData.eqv]
  rw [pd_eqv]
  exact h
theorem ne_pairsL (N : News h₀ L zh news) (ma : (a, listOf vs.toArray n1) ∈ news) (mb : (b, ({ cls := .type "list", data := .seq #[] n2 } : Obj)) ∈ news) (hv : PairsV news vs ps) (hx : A.units + 64 < cLine) (h : Q (.bool (!decide (ps = []))) ⟨zh, zg, zd, zt, zo⟩) :
    wpAny (model prog w) A (compareOp .NotEq (.ref a) (.ref b)) Q E ⟨zh, zg, zd, zt, zo⟩ := by
  obtain ⟨as, ra⟩ := hv.reads N
  refine ne_dataH (reads_list_at (N.get ma) rfl rfl (by simpa using ra)) (reads_list_at (N.get mb) rfl rfl (.nil)) (pd_shL ps) (pd_shL []) hx ?_
  have := pd_eqv ps []
  simp only [PyData.eqv]
  rw [show ([] : List PyData) = ([] : List (Int × Int)).map pd from rfl, this]
  exact h
theorem ne_L0 (N : News h₀ L zh news) (ma : (a, listOf vs.toArray n1) ∈ news) (mb : (b, ({ cls := .type "list", data := .seq #[] n2 } : Obj)) ∈ news) (hv : PairsV news vs []) (hx : A.units + 64 < cLine) (h : Q (.bool false) ⟨zh, zg, zd, zt, zo⟩) :
    wpAny (model prog w) A (compareOp .NotEq (.ref a) (.ref b)) Q E ⟨zh, zg, zd, zt, zo⟩ := ne_pairsL N ma mb hv hx (by simpa using h)
theorem ne_L1 {p : Int × Int} (N : News h₀ L zh news) (ma : (a, listOf vs.toArray n1) ∈ news) (mb : (b, ({ cls := .type "list", data := .seq #[] n2 } : Obj)) ∈ news) (hv : PairsV news vs (ps ++ [p])) (hx : A.units + 64 < cLine) (h : Q (.bool true) ⟨zh, zg, zd, zt, zo⟩) :
    wpAny (model prog w) A (compareOp .NotEq (.ref a) (.ref b)) Q E ⟨zh, zg, zd, zt, zo⟩ := ne_pairsL N ma mb hv hx (by simpa using h)
theorem ne_same (N : News h₀ L zh news) (ma : (a, tupO vs) ∈ news) (mb : (b, tupO us) ∈ news) (hv : PairsV news vs ps) (hu : PairsV news us ps) (hx : A.units + 64 < cLine) (h : Q (.bool false) ⟨zh, zg, zd, zt, zo⟩) :
    wpAny (model prog w) A (compareOp .NotEq (.ref a) (.ref b)) Q E ⟨zh, zg, zd, zt, zo⟩ := ne_pairsT N ma mb hv hu hx (by simpa using h)
end
end Mine
namespace Mine
open PySem PySem.W PyProof.Rows PySem.Calls PyProof.V PySem.Spec PySem.NumText PyProof.Rows.LCg
def lastOf (fs : List (Int × Int)) : Option Int := fs.getLast?.map Prod.snd
theorem lastOf_snoc {f : List (Int × Int)} {l h : Int} : lastOf (f ++ [(l, h)]) = some h := by simp [lastOf]
structure LrJ (T0 toks : List TokD) (fl l' : Addr) (many : Bool) (rest : List (Addr × Obj)) (n : Nat) (m : Str → Option Value) (nx : List (Addr × Obj)) : Prop where
  out : ∃ (P : Nat) (tP : Tok) (fs : List (Int × Int)) (vs : List Value) (nn : Nat) (tl : List (Addr × Obj)) (q : TokD) (r : List TokD),
    nx = (l', listOf vs.toArray nn) :: tl ∧ n = r.length ∧ toks.drop P = q :: r ∧ TokL (q :: r) ∧ PairsV tl vs fs ∧ (∀ x ∈ rest, x ∈ tl) ∧ (∀ x ∈ tl, x.1 ≠ l') ∧ (many = false → fs = []) ∧ fs.length + r.length ≤ 400 ∧
    (∀ p, StrR (lastOf fs) (q :: r) (.error p) → DomR T0 (.error p)) ∧
    (∀ lo hi r2, StrR (lastOf fs) (q :: r) (.ok (lo, hi, r2)) → (many = false → DomR T0 (.ok (fs ++ [(lo, hi)], r2))) ∧ (many = true → ∀ res, LoopR (fs ++ [(lo, hi)]) r2 res → DomR T0 res)) ∧
    m (Str.ofString "tokens") = some (.ref fl) ∧ m (Str.ofString "place") = some (.int (P : Int) tP) ∧ m (Str.ofString "found") = some (.ref l') ∧ m (Str.ofString "is_many") = some (.bool many)
def tokAt (toks : List TokD) (k : Nat) : TokD := toks.getD (min k (toks.length - 1)) ⟨none, [], 0⟩
abbrev chk (i : Nat) (t : TokD) : Prop := if i = 1 then t.txt ≠ [46, 46] else t.worth = none
def badF (toks : List TokD) (P : Nat) : Nat → Int
  | 0 => -1
  | i + 1 => if badF toks P i < 0 ∧ chk i (tokAt toks (P + i)) then ((tokAt toks (P + i)).pos : Int) else badF toks P i
theorem badF_lo (toks : List TokD) (P : Nat) : ∀ i, -1 ≤ badF toks P i
  | 0 => by simp [badF]
  | i + 1 => by
    have := badF_lo toks P i
    unfold badF
    split <;> omega
theorem tokAt_drop {toks r : List TokD} {t : TokD} {P : Nat} (h : toks.drop P = t :: r) : tokAt toks P = t := by
  have hl : P < toks.length := by
    have := congrArg List.length h
    rw [List.length_drop, List.length_cons] at this
    omega
  unfold tokAt
  rw [show min P (toks.length - 1) = P by omega, List.getD_eq_getElem?_getD, ← Nat.add_zero P, ← List.getElem?_drop, h]
  rfl
theorem drop_succ {toks r : List TokD} {t : TokD} {P : Nat} (h : toks.drop P = t :: r) : toks.drop (P + 1) = r := by
  rw [← List.drop_drop, h]
  rfl
theorem tokAt_get {toks : List TokD} {tok : TokD} {k : Nat} {j : Int} (h : toks[j.toNat]? = some tok) (e : j = min (k : Int) ((toks.length : Int) - 1)) (hl : toks ≠ []) : tok = tokAt toks k := by
  have hl' := List.length_pos_iff.mpr hl
  unfold tokAt
  have e2 : j.toNat = min k (toks.length - 1) := by
    rw [e]
    rcases Nat.le_total k (toks.length - 1) with h | h
    · rw [Nat.min_eq_left h, Int.min_eq_left (by omega), Int.toNat_natCast]
    · rw [Nat.min_eq_right h, Int.min_eq_right (by omega)]
      omega
  rw [← e2, List.getD_eq_getElem?_getD, h]
  rfl
/-- three tokens looked at -/
theorem bad3 {toks r : List TokD} {q : TokD} {P : Nat} (hd : toks.drop P = q :: r) (hT : TokL (q :: r)) :
    (∃ pb : Nat, badF toks P 3 = (pb : Int) ∧ ∀ last, StrR last (q :: r) (.error pb)) ∨
    (badF toks P 3 = -1 ∧ ∃ lo hi t1 t2 t3 r', r = t1 :: t2 :: t3 :: r' ∧ q.worth = some lo ∧ IsS t1 (Str.ofString "..") ∧ t2.worth = some hi ∧ TokL (t3 :: r')) := by
  have a0 := tokAt_drop hd
  have b1 : badF toks P 1 = if chk 0 q then (q.pos : Int) else -1 := by
    show (if badF toks P 0 < 0 ∧ chk 0 (tokAt toks (P + 0)) then ((tokAt toks (P + 0)).pos : Int) else badF toks P 0) = _
    rw [Nat.add_zero, a0]
    simp [badF]
  have keep : ∀ i, 0 ≤ badF toks P i → badF toks P (i + 1) = badF toks P i := by
    intro i h
    show (if badF toks P i < 0 ∧ chk i (tokAt toks (P + i)) then ((tokAt toks (P + i)).pos : Int) else badF toks P i) = _
    rw [if_neg (fun z => by omega)]
  have step : ∀ i, badF toks P i = -1 → badF toks P (i + 1) = if chk i (tokAt toks (P + i)) then ((tokAt toks (P + i)).pos : Int) else -1 := by
    intro i h
    show (if badF toks P i < 0 ∧ chk i (tokAt toks (P + i)) then ((tokAt toks (P + i)).pos : Int) else badF toks P i) = _
    rw [h]
    simp
  cases hw : q.worth with
  | none =>
    left
    have e1 : badF toks P 1 = (q.pos : Int) := by rw [b1, if_pos (by simpa [chk] using hw)]
    exact ⟨q.pos, by rw [keep 2 (by rw [keep 1 (by omega), e1]; omega), keep 1 (by omega), e1], fun last => .noLow hw⟩
  | some lo =>
    obtain ⟨hT1, t1, r1, rfl⟩ := hT.num hw
    have d1 := drop_succ hd
    have a1 := tokAt_drop d1
    have e1 : badF toks P 1 = -1 := by rw [b1, if_neg (by simp [chk, hw])]
    have b2 := step 1 e1
    rw [a1] at b2
    by_cases hs : IsS t1 (Str.ofString "..")
    · obtain ⟨hT2, t2, r2, rfl⟩ := hT1.sign hs (by decide +kernel)
      have d2 := drop_succ d1
      have a2 := tokAt_drop d2
      have e2 : badF toks P 2 = -1 := by
        rw [b2, if_neg]
        have := hs.2
        rw [cps_dd] at this
        simp [chk, this]
      have b3 := step 2 e2
      rw [show P + 2 = P + 1 + 1 from rfl, a2] at b3
      cases hw2 : t2.worth with
      | none =>
        left
        exact ⟨t2.pos, by rw [b3, if_pos (by simpa [chk] using hw2)], fun last => .noHigh hw hs hw2⟩
      | some hi =>
        right
        obtain ⟨hT3, t3, r3, rfl⟩ := hT2.num hw2
        exact ⟨by rw [b3, if_neg (by simp [chk, hw2])], lo, hi, t1, t2, t3, r3, rfl, rfl, hs, hw2, hT3⟩
    · left
      have hx := tok_txt hT1 (S := Str.ofString "..") (by decide +kernel) hs
      rw [cps_dd] at hx
      have e2 : badF toks P 2 = (t1.pos : Int) := by rw [b2, if_pos (by simpa [chk] using hx)]
      exact ⟨t1.pos, by rw [keep 2 (by omega), e2], fun last => .noDots hw hs⟩
structure LrI (toks : List TokD) (P : Nat) (fl l' a0 : Addr) (many : Bool) (nx0 : List (Addr × Obj)) (i : Nat) (m : Str → Option Value) (nx : List (Addr × Obj)) : Prop where
  out : ∃ (tP tb : Tok), nx = nx0 ∧ m (Str.ofString "tokens") = some (.ref fl) ∧ m (Str.ofString "place") = some (.int (P : Int) tP) ∧ m (Str.ofString "found") = some (.ref l') ∧ m (Str.ofString "is_many") = some (.bool many) ∧ m (Str.ofString "low") = some (.ref a0) ∧ m (Str.ofString "bad") = some (.int (badF toks P i) tb)
theorem dummy_lr : True := trivial
theorem badF_go {toks : List TokD} {P i : Nat} (h : badF toks P i < 0) (hc : chk i (tokAt toks (P + i))) : badF toks P (i + 1) = ((tokAt toks (P + i)).pos : Int) := by
  show (if badF toks P i < 0 ∧ chk i (tokAt toks (P + i)) then ((tokAt toks (P + i)).pos : Int) else badF toks P i) = _
  rw [if_pos ⟨h, hc⟩]
theorem badF_stay {toks : List TokD} {P i : Nat} (h : ¬ badF toks P i < 0 ∨ ¬ chk i (tokAt toks (P + i))) : badF toks P (i + 1) = badF toks P i := by
  show (if badF toks P i < 0 ∧ chk i (tokAt toks (P + i)) then ((tokAt toks (P + i)).pos : Int) else badF toks P i) = _
  rw [if_neg (fun z => h.elim (fun y => y z.1) fun y => y z.2)]
theorem chk_1 {i : Nat} {t : TokD} (h : (i : Int) = 1) (hx : ¬ t.txt = (Str.ofString "..").cps.toList) : chk i t := by
  rw [cps_dd] at hx
  unfold chk
  rw [if_pos (by omega)]
  exact hx
theorem chk_n {i : Nat} {t : TokD} (h : (i : Int) ≠ 1) (hw : t.worth = none) : chk i t := by
  unfold chk
  rw [if_neg (by omega)]
  exact hw
theorem nchk_1 {i : Nat} {t : TokD} (h : (i : Int) = 1) (hx : t.txt = (Str.ofString "..").cps.toList) : ¬ chk i t := by
  rw [cps_dd] at hx
  unfold chk
  rw [if_pos (by omega)]
  exact fun z => z hx
theorem nchk_n {i : Nat} {t : TokD} {n : Int} (h : (i : Int) ≠ 1) (hw : t.worth = some n) : ¬ chk i t := by
  unfold chk
  rw [if_neg (by omega), hw]
  exact fun z => nomatch z
theorem lri_go {toks : List TokD} {P i : Nat} {tok : TokD} {j : Int} (hg : toks[j.toNat]? = some tok) (e : j = min ((P + i : Nat) : Int) ((toks.length : Int) - 1)) (hl : toks ≠ []) (h : badF toks P i < 0) (hc : chk i tok) : (tok.pos : Int) = badF toks P (i + 1) := by
  have ht := tokAt_get hg e hl
  subst ht
  exact (badF_go h hc).symm
theorem lri_stay {toks : List TokD} {P i : Nat} {tok : TokD} {j : Int} (hg : toks[j.toNat]? = some tok) (e : j = min ((P + i : Nat) : Int) ((toks.length : Int) - 1)) (hl : toks ≠ []) (hc : ¬ chk i tok) : badF toks P i = badF toks P (i + 1) := by
  have ht := tokAt_get hg e hl
  subst ht
  exact (badF_stay (.inr hc)).symm
theorem lri_end {toks : List TokD} {P i : Nat} {fl l' a0 : Addr} {many : Bool} {nx own news' : List (Addr × Obj)} {g h' : Heap} {L tk : Nat} {m' : Str → Option Value} {s₁ : Shared} {tP tb : Tok} {z : Int} (F : Fr g L h' m') (N : News g L h' news') (ho : OwnOff own (nx.map (·.1))) (hs : ∀ q ∈ nx, q ∈ news') (hw : ∀ q ∈ own, q ∈ news')
    (e1 : m' (Str.ofString "tokens") = some (.ref fl)) (e2 : m' (Str.ofString "place") = some (.int (P : Int) tP)) (e3 : m' (Str.ofString "found") = some (.ref l')) (e4 : m' (Str.ofString "is_many") = some (.bool many)) (e5 : m' (Str.ofString "low") = some (.ref a0)) (e6 : m' (Str.ofString "bad") = some (.int z tb)) (hz : z = badF toks P (i + 1)) :
    InvEndG g L (LrI toks P fl l' a0 many nx (i + 1)) own s₁ { s₁ with heap := h', toks := tk } := by
  subst hz
  exact InvEndG.intro F N ⟨_, _, rfl, e1, e2, e3, e4, e5, e6⟩ ho hs hw
theorem tok_is {t : TokD} {r : List TokD} {S : Str} (h : TokL (t :: r)) (hS : S.cps.toList ∈ lateL) (he : t.txt = S.cps.toList) : IsS t S := by
  by_cases hn : IsS t S
  · exact hn
  · exact absurd he (tok_txt h hS hn)
theorem not_is {t : TokD} {S : Str} (he : ¬ t.txt = S.cps.toList) : ¬ IsS t S := fun z => he z.2
theorem good_nil {lo hi : Int} (h : ¬ hi < lo) : ¬ (hi < lo ∨ ∃ l, lastOf [] = some l ∧ lo ≤ l + 1) := by
  rintro (h1 | ⟨l, h1, _⟩)
  · exact h h1
  · cases h1
theorem good_snoc {lo hi : Int} {f : List (Int × Int)} {l h : Int} (h1 : ¬ hi < lo) (h2 : ¬ lo < h + 2) : ¬ (hi < lo ∨ ∃ x, lastOf (f ++ [(l, h)]) = some x ∧ lo ≤ x + 1) := by
  rintro (h3 | ⟨x, h3, h4⟩)
  · exact h1 h3
  · rw [lastOf_snoc] at h3
    cases h3
    omega
theorem bad_snoc {lo hi : Int} {f : List (Int × Int)} {l h : Int} (h2 : lo < h + 2) : hi < lo ∨ ∃ x, lastOf (f ++ [(l, h)]) = some x ∧ lo ≤ x + 1 := .inr ⟨h, lastOf_snoc, by omega⟩
theorem next_bad {fs : List (Int × Int)} {lo hi : Int} {t3 : TokD} {r : List TokD} {p : Nat} (h1 : ¬ IsS t3 (Str.ofString "}")) (h2 : IsS t3 (Str.ofString ",")) (h : StrR (lastOf (fs ++ [(lo, hi)])) r (.error p)) : LoopR (fs ++ [(lo, hi)]) (t3 :: r) (.error p) := by
  rw [lastOf_snoc] at h
  exact .nextBad h1 h2 h
theorem next_ok {fs : List (Int × Int)} {lo hi lo2 hi2 : Int} {t3 : TokD} {r r2 : List TokD} {res} (h1 : ¬ IsS t3 (Str.ofString "}")) (h2 : IsS t3 (Str.ofString ",")) (h : StrR (lastOf (fs ++ [(lo, hi)])) r (.ok (lo2, hi2, r2))) (k : LoopR (fs ++ [(lo, hi)] ++ [(lo2, hi2)]) r2 res) : LoopR (fs ++ [(lo, hi)]) (t3 :: r) res := by
  rw [lastOf_snoc] at h
  exact .next h1 h2 h k
theorem not_both {t : TokD} (h : IsS t (Str.ofString ",")) : ¬ IsS t (Str.ofString "}") := fun k => by
  have := h.2.symm.trans k.2
  rw [cps_cm, cps_close] at this
  exact absurd this (by decide)
theorem WhileStep2.intro {h₀ h' : Heap} {L : Addr} {zh : Heap} {zg : Array GenState} {zd : Drawn} {zt : Nat} {zo : OsState} {J : Nat → (Str → Option Value) → List (Addr × Obj) → Prop} {Q : Flow → Shared → Prop} {n n' tk : Nat} {m₂ : Str → Option Value} {news₂ : List (Addr × Obj)}
    (F : Fr h₀ L h' m₂) (N : News h₀ L h' news₂) (hn : n' < n) (hJ : J n' m₂ news₂) : WhileStep2 h₀ L ⟨zh, zg, zd, zt, zo⟩ J Q n .next ⟨h', zg, zd, tk, zo⟩ := ⟨h', tk, m₂, news₂, n', rfl, F, N, hn, hJ⟩
theorem first_of {lo hi : Int} {fs : List (Int × Int)} (h : hi < lo ∨ ∃ x, lastOf fs = some x ∧ lo ≤ x + 1) : hi < lo ∨ ∃ x, lastOf fs = some x ∧ lo ≤ x + 1 := h
theorem worth_int {v : Value} {w : Option Int} {n : Int} (h : worthIs v w) (e : w = some n) : ∃ t, v = .int n t := by
  rcases h with ⟨_, e2⟩ | ⟨k, t, rfl, e2⟩
  · rw [e] at e2; cases e2
  · rw [e] at e2; cases e2; exact ⟨t, rfl⟩
end Mine
theorem Mine.rw_P44_lr : True := by
  k_with_none
  (k_with "subscriptTail" => (k_here; (fail_if_success fail_if_success with_reducible show wpAny _ _ (subscriptTail _ _ (Value.ref _) (Value.str _ _)) _ _ _); k_dflt (refine' Mine.d_get ?zzN ?zzm ?zzo ?zzf ?_; (case zzN => k_asm); (case zzm => k_mem); (case zzo => with_reducible assumption); (case zzf => exact rfl); k_whole)))
  (k_with "setItem ref str" => (k_here; (fail_if_success fail_if_success with_reducible show wpAny _ _ (setItem (Value.ref _) (Value.str _ _) _) _ _ _); k_dflt (refine' Mine.d_set ?zzF ?zzN ?zzU ?zzo ?_ ?zzz; (case zzF => k_asm); (case zzN => k_asm); (case zzU => k_updF); (case zzo => with_reducible assumption); (case zzz => exact Nat.le_of_ble_eq_true rfl)); intro _ _ _ _ _; (try k_sweep)))
  (k_with "call builtin:len" => (k_here; (fail_if_success fail_if_success with_reducible show wpAny _ _ (call (Value.builtin "len") [Value.ref _]) _ _ _); k_dflt (refine' Mine.len_L ?zzN ?zzm ?zzb ?_; (case zzN => k_asm); (case zzm => k_mem); (case zzb => omega); k_whole)))
  (k_with "subscriptTail" => (k_here; (fail_if_success fail_if_success with_reducible show wpAny _ _ (subscriptTail _ _ (Value.ref _) (Value.int _ _)) _ _ _); k_dflt (refine' Mine.item_L ?zzN ?zzm ?zza ?zzb ?zzc ?_; (case zzN => k_asm); (case zzm => k_mem); (case zza => omega); (case zzb => omega); (case zzc => omega); k_whole); intro _ _))
  (k_with "subscriptTail" => (k_here; (fail_if_success fail_if_success with_reducible show wpAny _ _ (subscriptTail _ _ (Value.ref _) (Value.int _ _)) _ _ _); k_dflt (refine' Mine.item_LI ?zzN ?zzm ?zzi ?zza ?zzb ?zzc ?_; (case zzN => k_asm); (case zzm => k_mem); (case zzi => with_reducible assumption); (case zza => omega); (case zzb => omega); (case zzc => omega); k_whole); intro _ _))
  (k_with "ite" => first | with_reducible refine PyProof.Rows.ite_tt ?_ | with_reducible refine PyProof.Rows.ite_ff ?_)
  (k_with "execs cons" => (k_here; (try k_gentoks); (with_reducible refine wpAny_execs_cons ?_); (try dsimp only); k_fold))
  (k_with "eval Constant int" => (with_reducible refine Mine.constI ?_))
  (k_with "eval Constant str" => (with_reducible refine Mine.constS ?_))
  (k_with "binaryOp Add int int" => (with_reducible refine Mine.addI ?_))
  (k_with "subscriptTail" => (k_here; (fail_if_success fail_if_success with_reducible show wpAny _ _ (subscriptTail _ (Expr.Slice (some _) (some _) none _) (Value.str _ _) (Value.ref _)) _ _ _); k_dflt (refine' Mine.str_slice (s := ⟨_, _, _, _, _⟩) ?zzF ?zzN ?zza ?zzb ?zzc ?zzd ?_ ?zzs ?zzt; (case zzF => k_asm); (case zzN => k_asm); (case zza => omega); (case zzb => omega); (case zzc => omega); (case zzd => omega); (case zzs => with_unfolding_all rfl); (case zzt => kmk_pure)); intro _ _ _ _ _ _ _; (try k_sweep)))
  (k_with "subscriptTail" => (k_here; (fail_if_success fail_if_success with_reducible show wpAny _ _ (subscriptTail _ _ (Value.str _ _) (Value.int _ _)) _ _ _); k_dflt (refine' Mine.str_item ?zza ?zzb ?zzc ?_; (case zza => omega); (case zzb => omega); (case zzc => omega)); intro _ _ _ _))
  (k_with "compareOp In str str" => (k_here; (fail_if_success fail_if_success with_reducible show wpAny _ _ (compareOp CmpOp.In (Value.str _ _) (Value.str _ _)) _ _ _); (refine Mine.str_in (by with_reducible assumption) ?_); intro _ _))
  (k_with "exec While Compare cons nil" => (refine Mine.stop_intro ?_))
  (k_with "exec While BoolOp cons nil" => (refine Mine.stop_intro ?_))
  (k_with "exec While UnaryOp cons nil" => (refine Mine.stop_intro ?_))
  (k_with "exec While Constant cons nil" => (refine Mine.stop_intro ?_))
  (k_with "exec While" => (refine Mine.stop_intro ?_))
  (k_with "call" => ((fail_if_success fail_if_success with_reducible show wpAny _ _ (call (Prod.fst _) _) _ _ _); dsimp only [List.cons_append, List.nil_append, List.append_nil]))
  (k_with "pyIter ref" => (refine Mine.stop_intro ?_))
  (k_with "exec For Name Call cons nil" => (k_here; (rename Fr _ _ _ _ => lF'); (with_unfolding_all refine' For_invVF lF' ?zzk1 ?zzk2 ?_; (case zzk1 => exact rfl); (case zzk2 => exact rfl); k_whole)))
  (k_with "call type:range" => (k_here; (fail_if_success fail_if_success with_reducible show wpAny _ _ (call _ [Value.int _ _]) _ _ _); k_dflt (refine' Mine.range_1 ?zzF ?zzN ?_; (case zzF => k_asm); (case zzN => k_asm)); intro _ _ _ _ _ _ _ _; (try k_sweep)))
  (k_with "subscriptTail" => (k_here; (fail_if_success fail_if_success with_reducible show wpAny _ _ (subscriptTail _ _ (Value.ref _) (Value.int _ _)) _ _ _); k_dflt (refine' Mine.tok_item_two ?zzN ?zzm ?zzV ?zza ?zzb ?zzc ?_ ?_; (case zzN => k_asm); (case zzm => k_mem); (case zzV => with_reducible assumption); (case zza => omega); (case zzb => omega); (case zzc => omega)); intro _ _ _ _ _ _ _ _ _; rotate_left; intro _ _ _ _ _ _ _ _ _ _ _))
  (k_with "subscriptTail" => (k_here; (fail_if_success fail_if_success with_reducible show wpAny _ _ (subscriptTail _ _ (Value.ref _) (Value.int _ _)) _ _ _); k_dflt (refine' Mine.tok_item ?zzN ?zzm ?zzV ?zzg ?zza ?zzc ?_; (case zzN => k_asm); (case zzm => k_mem); (case zzV => with_reducible assumption); (case zzg => first | exact Mine.at_0 (by with_reducible assumption) (by omega) | exact Mine.at_1 (by with_reducible assumption) (by omega) | exact Mine.at_2 (by with_reducible assumption) (by omega) | exact Mine.at_3 (by with_reducible assumption) (by omega)); (case zza => omega); (case zzc => omega)); intro _ _ _ _ _ _ _ _))
  (k_with "subscriptTail" => (k_here; (fail_if_success fail_if_success with_reducible show wpAny _ _ (subscriptTail _ _ (Value.ref _) (Value.int _ _)) _ _ _); k_dflt (refine' Mine.tok_item_non ?zzN ?zzm ?zzV ?zzg ?zza ?zzc ?zzhw ?_; (case zzN => k_asm); (case zzm => k_mem); (case zzV => with_reducible assumption); (case zzg => first | exact Mine.at_0 (by with_reducible assumption) (by omega) | exact Mine.at_1 (by with_reducible assumption) (by omega) | exact Mine.at_2 (by with_reducible assumption) (by omega) | exact Mine.at_3 (by with_reducible assumption) (by omega)); (case zza => omega); (case zzc => omega); (case zzhw => with_reducible assumption)); intro _ _ _ _ _ _))
  (k_with "subscriptTail" => (k_here; (fail_if_success fail_if_success with_reducible show wpAny _ _ (subscriptTail _ _ (Value.ref _) (Value.int _ _)) _ _ _); k_dflt (refine' Mine.tok_item_num ?zzN ?zzm ?zzV ?zzg ?zza ?zzc ?zzhw ?_; (case zzN => k_asm); (case zzm => k_mem); (case zzV => with_reducible assumption); (case zzg => first | exact Mine.at_0 (by with_reducible assumption) (by omega) | exact Mine.at_1 (by with_reducible assumption) (by omega) | exact Mine.at_2 (by with_reducible assumption) (by omega) | exact Mine.at_3 (by with_reducible assumption) (by omega)); (case zza => omega); (case zzc => omega); (case zzhw => with_reducible assumption)); intro _ _ _ _ _ _ _))
  (k_with "compareOp Eq str str" => (k_here; (fail_if_success fail_if_success with_reducible show wpAny _ _ (compareOp CmpOp.Eq (Value.str _ _) (Value.str _ _)) _ _ _); first | (refine' Mine.str_eq_t ?zzhy ?zzhz ?_; (case zzhy => with_reducible assumption); (case zzhz => with_reducible assumption)) | (refine' Mine.str_eq_f ?zzhy ?zzhz ?_; (case zzhy => with_reducible assumption); (case zzhz => with_reducible assumption)) | (refine' Mine.str_eq_d ?zzhy ?_; (case zzhy => with_reducible assumption))))
  (k_with "compareOp NotEq str str" => (k_here; (fail_if_success fail_if_success with_reducible show wpAny _ _ (compareOp CmpOp.NotEq (Value.str _ _) (Value.str _ _)) _ _ _); first | (refine' Mine.str_ne_t ?zzhy ?zzhz ?_; (case zzhy => with_reducible assumption); (case zzhz => with_reducible assumption)) | (refine' Mine.str_ne_f ?zzhy ?zzhz ?_; (case zzhy => with_reducible assumption); (case zzhz => with_reducible assumption)) | (refine' Mine.str_ne_d ?zzhy ?_; (case zzhy => with_reducible assumption))))
  (k_with "call builtin:list.append" => (k_here; (fail_if_success fail_if_success with_reducible show wpAny _ _ (call (Value.builtin _) [Value.ref _, _]) _ _ _); k_dflt (refine' Mine.append_V ?zzF ?zzN ?zzU ?zzz ?_; (case zzF => k_asm); (case zzN => k_asm); (case zzU => k_updF); (case zzz => first | omega | (simp only [List.length_append, List.length_cons, List.length_nil]; omega))); intro _ _ N'; (try dsimp only at N'); (try k_sweep)))
  (k_with "call type:tuple" => (k_here; (fail_if_success fail_if_success with_reducible show wpAny _ _ (call (Value.type _) [Value.ref _]) _ _ _); k_dflt (refine' Mine.tuple_V ?zzF ?zzN ?zzm ?zzz ?_; (case zzF => k_asm); (case zzN => k_asm); (case zzm => k_mem); (case zzz => first | omega | (simp only [List.length_append, List.length_cons, List.length_nil]; omega))); intro _ _ _ _ l1; (try k_lt l1); (try k_sweep)))
  (k_with "compareOp NotEq ref ref" => (k_here; (fail_if_success fail_if_success with_reducible show wpAny _ _ (compareOp CmpOp.NotEq (Value.ref _) (Value.ref _)) _ _ _); k_dflt (first | (refine' Mine.ne_L0 ?zzN ?zzma ?zzmb ?zzhv ?zzu ?_; (case zzN => k_asm); (case zzma => k_mem); (case zzmb => k_mem); (case zzhv => exact Mine.PairsV.mono (by with_reducible assumption) (fun q hq => by k_mem)); (case zzu => ktr_units)) | (refine' Mine.ne_L1 ?zzN ?zzma ?zzmb ?zzhv ?zzu ?_; (case zzN => k_asm); (case zzma => k_mem); (case zzmb => k_mem); (case zzhv => exact Mine.PairsV.mono (by with_reducible assumption) (fun q hq => by k_mem)); (case zzu => ktr_units)))))
  (k_with "WhileStep2" => ((with_reducible show PyProof.Rows.WhileStep2 _ _ _ _ _ _ (PySem.Flow.ret _) _); dsimp only [PyProof.Rows.WhileStep2]))
  (k_with "subscriptTail Name UnaryOp ref int" => (k_here; (fail_if_success fail_if_success with_reducible show wpAny _ _ (subscriptTail _ _ (Value.ref _) (Value.int (-1) _)) _ _ _); k_dflt (refine' Mine.item_last ?zzN ?zzm ?zzz ?_; (case zzN => k_asm); (case zzm => k_mem); (case zzz => omega); k_whole)))
  (k_with "exec If Name" => (refine Mine.stop_intro ?_))
  (k_with "exec If BoolOp" => ((fail_if_success fail_if_success with_reducible show wpAny _ _ (exec (PySem.Stmt.If (PySem.Expr.BoolOp PySem.BoolOp.Or _ _) _ _ _) _) _ _ _); (refine Mine.stop_intro ?_)))
  trivial
namespace Mine
open PySem PySem.W PyProof.Rows PySem.Calls PyProof.V PySem.Spec PySem.NumText PyProof.Rows.LCg
/-- where the loop is about to begin -/
structure LrB (T0 toks : List TokD) (fl l' : Addr) (rest : List (Addr × Obj)) (g : Heap) (L : Addr) (s0 s' : Shared) : Prop where
  out : ∃ (b : Bool) (n : Nat) (m : Str → Option Value) (nx : List (Addr × Obj)) (h' : Heap) (tk' : Nat), s' = { s0 with heap := h', toks := tk' } ∧ LrJ T0 toks fl l' b rest n m nx ∧ Fr g L h' m ∧ News g L h' nx
theorem lrb_join {M : Model} {A : Around} {E : Value → Shared → Prop} {zh : Heap} {zg : Array GenState} {zd : Drawn} {zt : Nat} {zo : OsState} {s0 : Shared} {g hz : Heap} {L : Addr} {mz : Str → Option Value} {T0 toks : List TokD} {fl l' : Addr} {rest : List (Addr × Obj)} {t : Sem Flow} {Q : Flow → Shared → Prop}
    (F : Fr g L hz mz) (ex : mz (Str.ofString "found") = some (.ref l')) (h : wpAny M A t (fun f s' => match f with | .next => LrB T0 toks fl l' rest g L s0 s' | f => Q f s') E ⟨zh, zg, zd, zt, zo⟩)
    (k : ∀ b n m nx h' tk', LrJ T0 toks fl l' b rest n m nx → Fr g L h' m → News g L h' nx → Q .next { s0 with heap := h', toks := tk' }) : wpAny M A t Q E ⟨zh, zg, zd, zt, zo⟩ :=
  joinN _ h fun s' hJ => by
    obtain ⟨b, n, m, nx, h', tk', rfl, a1, a2, a3⟩ := hJ.out
    exact k b n m nx h' tk' a1 a2 a3
theorem lrb_end {g h' : Heap} {L : Addr} {T0 toks : List TokD} {fl l' : Addr} {rest : List (Addr × Obj)} {s0 : Shared} {b : Bool} {n : Nat} {m : Str → Option Value} {nx : List (Addr × Obj)} {tk' : Nat} (F : Fr g L h' m) (N : News g L h' nx) (hJ : LrJ T0 toks fl l' b rest n m nx) :
    LrB T0 toks fl l' rest g L s0 { s0 with heap := h', toks := tk' } := ⟨b, n, m, nx, h', tk', rfl, hJ, F, N⟩
theorem not_true {b : Bool} (h : (!b) = true) : b = false := by cases b <;> simp_all
theorem not_false' {b : Bool} (h : (!b) = false) : b = true := by cases b <;> simp_all
set_option maxHeartbeats 4000000 in
theorem lr_body {w : World} {mean : ExcName → Option Value} {mg mb : Str → Option Value} {dp un : Nat} {gd : Option (List Code)} {cn : Str} {cs : Scope} {a : Addr} {ccd : Value} {cl : List (Str × Addr)} {outer : List Env} {A₀ : Around} {base h₀ : Heap} {L : Addr} {m : Str → Option Value} {zh : Heap} {zg : Array GenState} {zd : Drawn} {zt : Nat} {zo : OsState} {Q E : Value → Shared → Prop} {news : List (Addr × Obj)} {fl : Addr} {fvs : List Value} {fnn : Nat} {toks : List TokD} {p : Nat} {tp : Tok} {q0 : TokD} {r : List TokD}
    (B : Below A₀ base outer h₀) (F : Fr h₀ L zh m) (X : (Mine.top.heap_1 w.params).In h₀) (T : Top Mine.V loose mean mg mb h₀) (hk : cs.kind = .function) (hdp : dp + 5 < recursionLimit) (hun : un + 150 < cLine)
    (N : News h₀ L zh news) (hm : (fl, listOf fvs.toArray fnn) ∈ news) (hv : ToksV news fvs toks) (hdr : toks.drop p = q0 :: r) (hT : TokL (q0 :: r)) (hl : toks.length ≤ 300)
    (hBad : ∀ pb, DomR (q0 :: r) (.error pb) → ∀ R (pi : Int) tl tA tB h' tk', (∀ q ∈ news, q ∈ tl) → (R, tupO [.none, .int pi tA, .int (pb : Int) tB]) ∈ tl → Fr h₀ L h' m → News h₀ L h' tl → Q (.ref R) ⟨h', zg, zd, tk', zo⟩)
    (hOk : ∀ rs r2, DomR (q0 :: r) (.ok (rs, r2)) → ∀ R Dt vs (p' : Nat) (pi : Int) tl tA tB h' tk', pi = (p' : Int) → toks.drop p' = r2 → PairsV tl vs rs → (∀ q ∈ news, q ∈ tl) → (Dt, tupO vs) ∈ tl → (R, tupO [.ref Dt, .int pi tA, .int (-1) tB]) ∈ tl → Fr h₀ L h' m → News h₀ L h' tl → Q (.ref R) ⟨h', zg, zd, tk', zo⟩) :
    wpAny (model prog w) (ktrTop dp un gd cn cs L a ccd cl outer) (call (.ref 490) [.ref fl, .int (p : Int) tp]) Q E ⟨zh, zg, zd, zt, zo⟩ := by
  have hvl := hv.length
  have hdl : p + (r.length + 1) = toks.length := by
    have := congrArg List.length hdr
    rw [List.length_drop, List.length_cons] at this
    omega
  refine wpAny_call ?_
  k_dflt (refine' code_def (binds := [(Str.ofString "tokens", .ref fl), (Str.ofString "place", .int (p : Int) tp)]) ?k1 ?k2 ?k3 ?k4 ?k5 ?kA ?kF ?kK ?k6 ?k7 ?k8 ?k9 ?kB ?_ ?c2 ?c3 ?c4 ?c5; (case kA => exact rfl); (case kF => exact rfl); (case kK => assumption); (case k1 => k_asm); (case k2 => k_asm); (case k3 => k_asm); (case k4 => k_asm); (case k5 => k_asm); (case k6 => k_is); (case k7 => k_is); (case k8 => ktr_room); (case k9 => exact BindsTo.of_eq rfl); (case c5 => decide); (case kB => exact locs rfl); (case c2 => exact rfl); (case c3 => exact rfl); (case c4 => exact rfl); k_whole; intro g' L' h' FG' F' N' B' X' T'; (try dsimp only); (try k_fold); (show let Ab : PySem.Around := ktrTop dp un gd cn cs L a ccd cl outer; let ev : PySem.Env := _; let Ac : PySem.Around := PySem.Around.deeper Ab ev; wpAny _ Ac (PySem.execs _ ev) _ _ _); intro Ab ev Ac; (replace hdp : PySem.Around.depth Ab + _ < _ := hdp); (replace hun : PySem.Around.units Ab + _ < _ := hun))
  k_steps
  refine Stop.mk ?_
  (with_reducible rename Fr _ _ _ _ => Fz)
  (with_reducible rename News _ _ _ _ => Nz)
  (with_reducible rename ∀ q ∈ news, q.1 < _ => l1)
  refine' lrb_join (T0 := q0 :: r) (toks := toks) (fl := fl) (rest := news) (s0 := ⟨zh, zg, zd, zt, zo⟩) Fz ?ef (wpAny_If ?hv) ?_
  case ef => exact rfl
  case hv =>
    by_cases hb0 : IsS q0 (Str.ofString "{")
    · obtain ⟨hT1, q1, r1, rfl⟩ := hT.sign hb0 (by decide +kernel)
      rw [decide_eq_true hb0.2] at Fz
      k_steps
      all_goals (
        (with_reducible rename Fr _ _ _ _ => Fz)
        (with_reducible rename News _ _ _ _ => Nz)
        first
          | (have hb1 := tok_is hT1 (S := Str.ofString "}") (by decide +kernel) (by assumption)
             refine' hOk _ _ (.curly hb0 (.done hb1)) _ _ [] (p + 2) _ _ _ _ _ _ ?hpi (drop_succ (drop_succ hdr)) .nil (fun q hq => ?sq) ?hD ?mq Fz Nz
             case mq => k_mem
             case hD => k_mem
             case sq => k_mem
             case hpi => omega)
          | (have hb1 := not_is (S := Str.ofString "}") (by assumption)
             refine' lrb_end Fz (newsSub Nz (sub_cons (x := (_, listOf ([] : List Value).toArray 0)) ?n1 fun q hq => ?n2)) ⟨p + 1, _, [], [], 0, news, q1, r1, rfl, rfl, drop_succ hdr, hT1, .nil, fun _ h => h, fun q hq => Nat.ne_of_lt (l1 q hq), fun _ => rfl, ?hl, fun pb h => .curly hb0 (.firstBad hb1 h), fun lo hi r2 h => ⟨?hn, fun _ res hl => .curly hb0 (.first hb1 h hl)⟩, rfl, rfl, rfl, rfl⟩
             case n1 => k_mem
             case n2 => k_mem
             case hl => (simp only [List.length_nil, List.length_cons] at hdl ⊢; omega)
             case hn => (intro z; exact nomatch z)))
    · rw [decide_eq_false (tok_txt hT (S := Str.ofString "{") (by decide +kernel) hb0)] at Fz
      k_steps
      (with_reducible rename Fr _ _ _ _ => Fz)
      (with_reducible rename News _ _ _ _ => Nz)
      refine' lrb_end Fz (newsSub Nz (sub_cons (x := (_, listOf ([] : List Value).toArray 0)) ?m1 fun q hq => ?m2)) ⟨p, tp, [], [], 0, news, q0, r, rfl, rfl, hdr, hT, .nil, fun _ h => h, fun q hq => Nat.ne_of_lt (l1 q hq), fun _ => rfl, ?hl, fun pb h => .plainBad hb0 h, fun lo hi r2 h => ⟨fun _ => .plain hb0 h, ?hn⟩, rfl, rfl, rfl, rfl⟩
      case m1 => k_mem
      case m2 => k_mem
      case hl => (simp only [List.length_nil]; omega)
      case hn => (intro z; exact nomatch z)
  intro b n0 m1 nx1 h1 tk1 hJ0 F1 N1
  clear Fz Nz l1
  (try dsimp only)
  k_steps
  refine Stop.mk ?_
  refine While_inv2 (L := L') (n₀ := n0) (LrJ (q0 :: r) toks fl _ b news) F1 N1 hJ0 ?turn
  intro n m₁ nx h tk3 F2 N2 hJ
  obtain ⟨P, tP, fs, vs, nn, tl, q, r2, rfl, rfl, d1, j1, j2, j3, j4, j5, j6, j7, j8, e1, e2, e3, e4⟩ := hJ.out
  have F3 := fr_put (fr_put (fr_put (fr_put F2 (Str.ofString "tokens") e1) (Str.ofString "place") e2) (Str.ofString "found") e3) (Str.ofString "is_many") e4
  have hv2 := hv.mono j3
  have hm2 := j3 _ hm
  have hd2 : P + (r2.length + 1) = toks.length := by
    have := congrArg List.length d1
    rw [List.length_drop, List.length_cons] at this
    omega
  have hfv := j2.length
  have hne : toks ≠ [] := by
    intro z
    rw [z] at hd2
    simp at hd2
  (try dsimp only)
  clear F2 hJ F1 N1 hJ0
  k_steps
  refine Stop.mk ?_
  (with_reducible rename IsRange _ _ _ _ _ _ _ _ => hR)
  (with_reducible rename worthIs _ q.worth => hwq)
  (with_reducible rename Fr _ _ _ _ => F1)
  (with_reducible rename News _ _ _ _ => N1)
  refine' range_Z (LrI toks P fl _ _ b ((_, listOf vs.toArray nn) :: tl)) rfl hR (by omega) (by omega) F1 (newsSub N1 (fun q hq => .tail _ hq)) ⟨_, _, rfl, rfl, rfl, rfl, rfl, rfl, rfl⟩ ?body ?fin
  case body =>
    clear hwq
    intro i ti m₂ nx h4 tk4 own hi hoffo hJi F4 N4
    obtain ⟨tP2, tb2, rfl, f1, f2, f3, f4, f5, f6⟩ := hJi.out
    have F5 := fr_put (fr_put (fr_put (fr_put (fr_put (fr_put F4 (Str.ofString "tokens") f1) (Str.ofString "place") f2) (Str.ofString "found") f3) (Str.ofString "is_many") f4) (Str.ofString "low") f5) (Str.ofString "bad") f6
    have N5 : News g' L' h4 ((_, listOf vs.toArray nn) :: (tl ++ own)) := N4
    have g1 : ∀ q ∈ tl, q ∈ tl ++ own := fun q hq => List.mem_append_left _ hq
    have g2 : ∀ q ∈ own, q ∈ tl ++ own := fun q hq => List.mem_append_right _ hq
    have hv3 := hv2.mono g1
    have hm3 := g1 _ hm2
    have hbl := badF_lo toks P i
    generalize tl ++ own = T at N5 g1 g2 hv3 hm3
    (try dsimp only)
    clear F4 N4 hJi hv2 F1 N1 hR
    k_steps
    all_goals (
      (with_reducible rename Fr _ _ _ _ => Fz)
      (with_reducible rename News _ _ _ _ => Nz)
      refine' lri_end Fz Nz hoffo (sub_cons ?s1 fun q hq => ?s2) (fun q hq => ?s3) ?e1 ?e2 ?e3 ?e4 ?e5 ?e6 ?hz
      case s1 => k_mem
      case s2 => (have := g1 q hq; k_mem)
      case s3 => (have := g2 q hq; k_mem)
      case e1 => exact rfl
      case e2 => exact rfl
      case e3 => exact rfl
      case e4 => exact rfl
      case e5 => exact rfl
      case e6 => exact rfl
      case hz => first
        | exact (badF_stay (.inl (by assumption))).symm
        | exact lri_stay (by assumption) (by split <;> omega) hne (nchk_1 (by assumption) (by assumption))
        | exact lri_stay (by assumption) (by split <;> omega) hne (nchk_n (by assumption) (by assumption))
        | exact lri_go (by assumption) (by split <;> omega) hne (by assumption) (chk_1 (by assumption) (by assumption))
        | exact lri_go (by assumption) (by split <;> omega) hne (by assumption) (chk_n (by assumption) (by assumption)))
  case fin =>
    intro m₂ nx h4 tk4 hJi F4 N4
    obtain ⟨tP2, tb2, rfl, f1, f2, f3, f4, f5, f6⟩ := hJi.out
    replace f6 : m₂ (Str.ofString "bad") = some (.int (badF toks P 3) tb2) := f6
    rcases bad3 d1 j1 with ⟨pb, hbp, hst⟩ | ⟨hbp, lo, hi, t1, t2, t3, r', rfl, hw0, hs1, hw2, hT3⟩
    · rw [hbp] at f6
      have hres := j7 _ (hst _)
      have F5 := fr_put (fr_put (fr_put (fr_put (fr_put (fr_put F4 (Str.ofString "tokens") f1) (Str.ofString "place") f2) (Str.ofString "found") f3) (Str.ofString "is_many") f4) (Str.ofString "low") f5) (Str.ofString "bad") f6
      (try dsimp only)
      clear F4 hJi F1 N1 hR
      k_steps
      all_goals (
        (with_reducible rename Fr _ _ _ _ => Fz)
        (with_reducible rename News _ _ _ _ => Nz)
        refine' hBad _ (hres) _ _ _ _ _ _ _ (fun q hq => ?sq) ?mq Fz Nz
        case sq => (have := j3 q hq; k_mem)
        case mq => k_mem)
    · rw [hbp] at f6
      obtain ⟨tlo, rfl⟩ := worth_int hwq hw0
      have F5 := fr_put (fr_put (fr_put (fr_put (fr_put (fr_put F4 (Str.ofString "tokens") f1) (Str.ofString "place") f2) (Str.ofString "found") f3) (Str.ofString "is_many") f4) (Str.ofString "low") f5) (Str.ofString "bad") f6
      (try dsimp only)
      clear F4 hJi F1 N1 hR
      k_steps
      refine Stop.mk ?_
      (with_reducible rename Fr _ _ _ _ => Fz)
      (with_reducible rename News _ _ _ _ => Nz)
      refine wpAny_If (keep_join (s0 := ⟨zh, zg, zd, zt, zo⟩) (fun c : Bool => (c = true → (hi < lo ∨ ∃ x, lastOf fs = some x ∧ lo ≤ x + 1)) ∧ (c = false → ¬ (hi < lo ∨ ∃ x, lastOf fs = some x ∧ lo ≤ x + 1))) Fz Nz ?_ ?_)
      · rcases List.eq_nil_or_concat fs with rfl | ⟨f, ⟨l, hh⟩, rfl⟩
        · obtain rfl : vs = [] := List.eq_nil_of_length_eq_zero hfv
          k_steps
          all_goals (
            (with_reducible rename Fr _ _ _ _ => Fy)
            (with_reducible rename News _ _ _ _ => Ny)
            refine keep_end Fy Ny (by first | exact fun _ h => h | exact fun _ h => .tail _ h | exact fun _ h => .tail _ (.tail _ h)) ?_
            first
              | exact ⟨fun _ => .inl (by assumption), fun z => (nomatch z)⟩
              | exact ⟨fun z => (nomatch z), fun _ => good_nil (by assumption)⟩)
        · rw [List.concat_eq_append] at j2 j6 hfv ⊢
          have b2 : f.length + 1 + (t1 :: t2 :: t3 :: r').length ≤ 400 := by simpa using j6
          obtain ⟨us, av, tv, uv, rfl, hul, hup, hum⟩ := j2.snoc
          dsimp only at hum
          k_steps
          all_goals (
            (with_reducible rename Fr _ _ _ _ => Fy)
            (with_reducible rename News _ _ _ _ => Ny)
            refine keep_end Fy Ny (by first | exact fun _ h => h | exact fun _ h => .tail _ h | exact fun _ h => .tail _ (.tail _ h)) ?_
            first
              | exact ⟨fun _ => .inl (by assumption), fun z => (nomatch z)⟩
              | exact ⟨fun _ => bad_snoc (by assumption), fun z => (nomatch z)⟩
              | exact ⟨fun z => (nomatch z), fun _ => good_snoc (by assumption) (by assumption)⟩
              | exact ⟨fun z => bad_snoc (of_decide_eq_true z), fun z => good_snoc (by assumption) (of_decide_eq_false z)⟩)
      rintro c h5 tk5 ⟨hc1, hc2⟩ F6 N6
      clear Fz Nz F5
      cases c
      · have hgood := hc2 rfl
        clear hc1 hc2
        (try dsimp only)
        k_steps
        all_goals (
          (with_reducible rename Fr _ _ _ _ => Fz)
          (with_reducible rename News _ _ _ _ => Nz)
          first
            | (have hbf : b = false := by first | assumption | exact not_true (by assumption)
               obtain rfl : fs = [] := j5 hbf
               obtain rfl : vs = [] := List.eq_nil_of_length_eq_zero hfv
               (refine' hOk _ _ ((j8 lo hi _ (.good hw0 hs1 hw2 hgood)).1 hbf) _ _ _ (P + 3) _ _ _ _ _ _ ?hpi (drop_succ (drop_succ (drop_succ d1))) ?hpv (fun q hq => ?sq) ?hD ?mq Fz Nz
                case mq => k_mem
                case hD => k_mem
                case sq => (have := j3 q hq; k_mem)
                case hpi => omega
                case hpv => exact PairsV.app (j2.mono fun q hq => by k_mem) (.cons ⟨_, _, _, rfl, by k_mem⟩ .nil)))
            | (have hbt : b = true := by first | assumption | exact not_false' (by assumption) | exact Bool.eq_true_of_not_eq_false (by assumption)
               first
                 |
                  (refine' hOk _ _ ((j8 lo hi _ (.good hw0 hs1 hw2 hgood)).2 hbt _ (.done (tok_is hT3 (by decide +kernel) (by assumption)))) _ _ _ (P + 4) _ _ _ _ _ _ ?hpi (drop_succ (drop_succ (drop_succ (drop_succ d1)))) ?hpv (fun q hq => ?sq) ?hD ?mq Fz Nz
                   case mq => k_mem
                   case hD => k_mem
                   case sq => (have := j3 q hq; k_mem)
                   case hpi => omega
                   case hpv => exact PairsV.app (j2.mono fun q hq => by k_mem) (.cons ⟨_, _, _, rfl, by k_mem⟩ .nil))
                 | (refine' hBad _ ((j8 lo hi _ (.good hw0 hs1 hw2 hgood)).2 hbt _ (.noComma (not_is (by assumption)) snoc_ne (not_is (by assumption)))) _ _ _ _ _ _ _ (fun q hq => ?sq) ?mq Fz Nz
                    case sq => (have := j3 q hq; k_mem)
                    case mq => k_mem)
                 | (have hcm := tok_is hT3 (S := Str.ofString ",") (by decide +kernel) (by assumption)
                    have hres := (j8 lo hi _ (.good hw0 hs1 hw2 hgood)).2 hbt
                    obtain ⟨hT4, t4, r4, hr4⟩ := hT3.sign hcm (by decide +kernel)
                    subst hr4
                    refine' WhileStep2.intro (n' := r4.length) Fz (newsSub Nz (sub_cons (x := (_, listOf (vs ++ [Value.ref _]).toArray _)) ?qm1 (sub_cons (x := (_, tupO [.int lo _, .int hi _])) ?qm2 fun q hq => ?qm3))) ?qlt
                      ⟨P + 4, _, fs ++ [(lo, hi)], vs ++ [Value.ref _], _, (_, tupO [.int lo _, .int hi _]) :: tl, t4, r4, rfl, rfl, drop_succ (drop_succ (drop_succ (drop_succ d1))), hT4, ?qpv, fun x hx => .tail _ (j3 x hx), ?qo1, ?qnb, ?qb, (fun pb hp => hres _ (next_bad (not_both hcm) hcm hp)), (fun lo2 hi2 r3 hp => ⟨fun z => absurd (hbt.symm.trans z) (by decide), fun _ res hl => hres _ (next_ok (not_both hcm) hcm hp hl)⟩), ?qf1, ?qf2, ?qf3, ?qf4⟩
                    case qm1 => k_mem
                    case qm2 => k_mem
                    case qm3 => k_mem
                    case qlt => (simp only [List.length_cons]; omega)
                    case qpv => exact PairsV.app (j2.mono fun q hq => .tail _ hq) (.cons ⟨_, _, _, rfl, .head _⟩ .nil)
                    case qo1 => exact off_cons (by omega) j4
                    case qnb => (intro z; exact absurd (hbt.symm.trans z) (by decide))
                    case qb => (simp only [List.length_append, List.length_cons, List.length_nil] at j6 ⊢; omega)
                    case qf1 => exact rfl
                    case qf2 => (rw [show ((P + 4 : Nat) : Int) = (P : Int) + 3 + 1 by omega]; exact rfl)
                    case qf3 => exact rfl
                    case qf4 => exact rfl)))
      · have hres := j7 _ (.bad hw0 hs1 hw2 (hc1 rfl))
        clear hc1 hc2
        (try dsimp only)
        k_steps
        all_goals (
          (with_reducible rename Fr _ _ _ _ => Fz)
          (with_reducible rename News _ _ _ _ => Nz)
          refine' hBad _ (hres) _ _ _ _ _ _ _ (fun q hq => ?sq) ?mq Fz Nz
          case sq => (have := j3 q hq; k_mem)
          case mq => k_mem)
end Mine
namespace Mine
open PySem PySem.W PyProof.Rows PySem.Calls PyProof.V PySem.Spec
section
variable {pg : Program} {w : World} {A : Around} {E : Value → Shared → Prop} {zh : Heap} {zg : Array GenState} {zd : Drawn} {zt : Nat} {zo : OsState} {env : Env} {h₀ : Heap} {x : Str} {body : List Stmt} {Q : Flow → Shared → Prop}
/-- a for over range(n), the iterator in sight -/
theorem range_C {r : Addr} {b₀ : Int} {t₀ u₀ v₀ : Tok} {m₀ : Str → Option Value} {news : List (Addr × Obj)} (J : Nat → (Str → Option Value) → List (Addr × Obj) → Prop)
    (hh : A.handled = none) (hr : IsRange zh r 0 b₀ 1 t₀ u₀ v₀) (hb : 0 ≤ b₀) (hn : b₀ < 100000) (F : Fr h₀ env.locals zh m₀) (N : News h₀ env.locals zh news) (hj : J 0 m₀ news)
    (turn : ∀ i t m₁ nx h tk I oI, i < b₀.toNat → oI.cls = .type "range_iterator" → (∀ q ∈ nx, q.1 ≠ I) → J i m₁ nx → Fr h₀ env.locals h (fun y => if y = x then some (.int (i : Int) t) else m₁ y) → News h₀ env.locals h ((I, oI) :: nx) →
      wpAny (model pg w) A (execs body env) (InvPostG h₀ env.locals (J (i + 1)) [(I, oI)] ⟨h, zg, zd, tk, zo⟩ Q) E ⟨h, zg, zd, tk, zo⟩)
    (done : ∀ m₁ nx h tk, J b₀.toNat m₁ nx → Fr h₀ env.locals h m₁ → News h₀ env.locals h nx → Q .next ⟨h, zg, zd, tk, zo⟩) :
    wpAny (model pg w) A (pyIter (.ref r)) (fun it s₂ => LoopAtV pg w A h₀ env x body Q E it s₂) E ⟨zh, zg, zd, zt, zo⟩ := by
  obtain ⟨n, rfl⟩ := Int.eq_ofNat_of_zero_le hb
  have hsz : Builtin.Range.rangeSize 0 (n : Int) 1 = (n : Int) := by
    unfold Builtin.Range.rangeSize
    rw [if_pos (by decide)]
    by_cases h : (0 : Int) < (n : Int)
    · rw [if_pos h]; omega
    · rw [if_neg h]; omega
  have hf : ∀ k : Int, -5 ≤ k → k ≤ 200000 → Builtin.Range.rangeFitsLong k = true := by
    intro k h1 h2
    unfold Builtin.Range.rangeFitsLong
    simp
    omega
  have hsmall : Builtin.Range.small 0 (n : Int) 1 = true := by
    unfold Builtin.Range.small
    rw [hsz, hf 0 (by omega) (by omega), hf n (by omega) (by omega), hf 1 (by omega) (by omega), if_pos (by decide), hf _ (by omega) (by omega)]
    simp
  refine wpAny_pyIter_range hr hsmall ?_
  have W : Walks pg w A zh.objs.size [zh.objs.size] [zh.objs.size] n (fun i v => i < n ∧ ∃ t, v = .int ((0 : Int) + i * 1) t)
      (fun i h => IsRangeIter h zh.objs.size ((0 : Int) + (i : Nat) * 1) ((n : Int) - (i : Nat)) 1) := (Walks.range hh _ 0 1 n).bound
  refine ⟨zh.objs.size, [zh.objs.size], [zh.objs.size], n, _, _, m₀, news, J, rfl, W, ?_, ?_, ?_, (by show IsRangeIter _ _ _ _ _; rw [hsz]; simpa using Heap.get?_push_size _ rfl), (F.push _), (fun p hp => ⟨Heap.get?_push_of_some _ (N p hp).1, (N p hp).2⟩), hj, ?_, ?_⟩
  · intro hm
    exact absurd F.ns.lt ((List.mem_singleton.mp hm) ▸ Nat.lt_irrefl _)
  · intro b hb
    rw [List.mem_singleton.mp hb]
    exact next_is_new F
  · intro p hp hI
    exact absurd (Heap.lt_size (N p hp).1) ((List.mem_singleton.mp hI) ▸ Nat.lt_irrefl _)
  · rintro i v m₁ nx s₁ own ⟨hh', tk', rfl⟩ hin ⟨_, t, rfl⟩ hJ hoff hown hget hmem hst' F₁ N₁
    have e1 : (0 : Int) + (i : Int) * 1 = (i : Int) := by omega
    rw [e1] at F₁
    have hI0 : h₀.get? zh.objs.size = none := next_is_new F
    obtain ⟨oI, hst2, hcI⟩ : ∃ o, hh'.get? zh.objs.size = some o ∧ o.cls = .type "range_iterator" := ⟨_, hst', rfl⟩
    have hIown := hmem _ (List.mem_singleton.mpr rfl) hI0 _ hst2
    have hoI : ∀ q ∈ nx, q.1 ≠ zh.objs.size := fun q hq e => hoff q hq (List.mem_singleton.mpr e)
    refine wpAny_mono (turn i t m₁ nx hh' tk' zh.objs.size oI hin hcI hoI hJ F₁ fun p hp => N₁ p ?_) (fun f s₂ p => ?_) fun _ _ e => e
    · rcases List.mem_cons.mp hp with rfl | hp
      · exact List.mem_append_left _ hIown
      · exact List.mem_append_right _ hp
    have fin : InvEndG h₀ env.locals (J (i + 1)) [(zh.objs.size, oI)] ⟨hh', zg, zd, tk', zo⟩ s₂ → LoopStepU h₀ env.locals [zh.objs.size] own (J (i + 1)) ⟨hh', zg, zd, tk', zo⟩ .next s₂ := by
      rintro ⟨h', tk, m', news', nx', e, F', N', hn, ho, ha, hm⟩
      refine ⟨rfl, h', tk, m', nx', e, F', fun p hp => ?_, fun p hp hq => ?_, hm⟩
      · rcases List.mem_append.mp hp with hp | hp
        · have h1 := List.mem_singleton.mp (hown p hp)
          have h2 := hget p hp
          rw [h1] at h2
          have h3 : p = (zh.objs.size, oI) := Prod.ext h1 (Option.some.inj (h2.symm.trans hst2))
          rw [h3]
          exact N' _ (ho _ (.head _))
        · exact N' p (hn p hp)
      · exact ha _ (.head _) p.1 (List.mem_map.mpr ⟨p, hp, rfl⟩) (List.mem_singleton.mp hq).symm
    cases f with
    | ret v => exact .ret p
    | brk => exact .brk p
    | next => exact .next (fin p)
    | cont => exact .cont (fin p)
  · rintro h' tk m' news' F' N' _ hJ
    exact done m' news' h' tk hJ F' N'
end
/-- the ledger without an address -/
def dropA (I : Addr) (l : List (Addr × Obj)) : List (Addr × Obj) := l.filter fun q => decide (q.1 ≠ I)
theorem dropA_mem {I : Addr} {l : List (Addr × Obj)} {q : Addr × Obj} (h : q ∈ l) (hI : q.1 ≠ I) : q ∈ dropA I l := List.mem_filter.mpr ⟨h, decide_eq_true hI⟩
theorem dropA_sub {I : Addr} {l : List (Addr × Obj)} : ∀ q ∈ dropA I l, q ∈ l := fun _ h => (List.mem_filter.mp h).1
theorem dropA_off {I : Addr} {l : List (Addr × Obj)} : ∀ q ∈ dropA I l, q.1 ≠ I := fun _ h => of_decide_eq_true (List.mem_filter.mp h).2
theorem cls_off {h₀ h : Heap} {L I : Addr} {oI : Obj} {l : List (Addr × Obj)} (N : News h₀ L h l) (hI : (I, oI) ∈ l) (hc : oI.cls = .type "range_iterator") {q : Addr × Obj} (hq : q ∈ l) (hn : q.2.cls ≠ .type "range_iterator") : q.1 ≠ I := by
  intro e
  have h1 := (N q hq).1
  have h2 := (N _ hI).1
  rw [e, h2] at h1
  exact hn ((Option.some.inj h1) ▸ hc)
def TupS (l l' : List (Addr × Obj)) : Prop := ∀ q ∈ l, q.2.cls = .type "tuple" → q ∈ l'
theorem tupS_drop {h₀ h : Heap} {L I : Addr} {oI : Obj} {l : List (Addr × Obj)} (N : News h₀ L h l) (hI : (I, oI) ∈ l) (hc : oI.cls = .type "range_iterator") : TupS l (dropA I l) :=
  fun q hq ht => dropA_mem hq (cls_off N hI hc hq (by rw [ht]; decide))
theorem RowsIn.monoT {l l' : List (Addr × Obj)} {vs : List Value} (h : RowsIn l vs) (hs : TupS l l') : RowsIn l' vs := fun v hv => by
  obtain ⟨a, wv, x, t, e, hm, ok⟩ := h v hv
  exact ⟨a, wv, x, t, e, hs _ hm rfl, ok⟩
theorem ToksV.monoT {l l' : List (Addr × Obj)} {vs : List Value} {ks : List TokD} (h : ToksV l vs ks) (hs : TupS l l') : ToksV l' vs ks := by
  induction h with
  | nil => exact .nil
  | cons h _ ih =>
    obtain ⟨a, wv, x, t, t2, e, hm, r⟩ := h
    exact .cons ⟨a, wv, x, t, t2, e, hs _ hm rfl, r⟩ ih
theorem PairsV.monoT {l l' : List (Addr × Obj)} {vs : List Value} {ps : List (Int × Int)} (h : PairsV l vs ps) (hs : TupS l l') : PairsV l' vs ps := by
  induction h with
  | nil => exact .nil
  | cons h _ ih =>
    obtain ⟨a, t, u, e, hm⟩ := h
    exact .cons ⟨a, t, u, e, hs _ hm rfl⟩ ih
end Mine
namespace Mine
open PySem PySem.W PyProof.Rows PySem.Calls PyProof.V PySem.Spec PySem.NumText
theorem domain_C {w : World} {mean : ExcName → Option Value} {mg mb : Str → Option Value} {dp un : Nat} {gd : Option (List Code)} {cn : Str} {cs : Scope} {a : Addr} {ccd : Value} {cl : List (Str × Addr)} {outer : List Env} {A₀ : Around} {base h₀ : Heap} {L : Addr} {m : Str → Option Value} {zh : Heap} {zg : Array GenState} {zd : Drawn} {zt : Nat} {zo : OsState} {Q E : Value → Shared → Prop} {rd dr sc dxs ah : Addr} {eh : RdH} {o : Obj} {q0 : TokD} {r : List TokD} {h1 h2 : Int} {t1 t2 : Tok} {Tx : Str} {tT tks : Tok} {k : Nat} {rest : List (Addr × Obj)}
    (B : Below A₀ base outer h₀) (F : Fr h₀ L zh m) (X : (Mine.top.heap_1 w.params).In h₀) (T : Top Mine.V loose mean mg mb h₀) (hk : cs.kind = .function) (hdp : dp + 90 < recursionLimit) (hun : un + 900 < cLine)
    (N : News h₀ L zh ((dr, rdD eh sc ah) :: (dxs, scD h1 h2 t1 t2 Tx tT (k : Int) tks) :: rest)) (hrd : (rd, instObj 446 dr) ∈ rest) (hsc : (sc, instObj 285 dxs) ∈ rest) (hah : (ah, o) ∈ rest) (hoff1 : ∀ q ∈ rest, q.1 ≠ dr) (hoff2 : ∀ q ∈ rest, q.1 ≠ dxs) (hdd : @Ne Nat dr dxs)
    (ho : TokO q0 o) (hlen : r.length ≤ 1000)
    (hk1 : (k : Int) ≤ Tx.length) (hT : Tx.length ≤ 20000) (hR : RestIs Tx k r) (hTL : TokL (q0 :: r))
    (hE : ∀ p, DomR (q0 :: r) (.error p) → OnT h₀ L m base (envX cn cs L a ccd cl :: outer) (p : Int) E ⟨zh, zg, zd, zt, zo⟩)
    (hQ : ∀ rs q3 r', DomR (q0 :: r) (.ok (rs, q3 :: r')) → TokL (q3 :: r') → ∀ D vs tl td o' tk2 h' tk' (kf : Nat), TokO q3 o' → RestIs Tx kf r' → (kf : Int) ≤ Tx.length → PairsV tl vs rs → (∀ q ∈ rest, q ∈ tl) → (∀ q ∈ tl, q.1 ≠ dr) → (∀ q ∈ tl, q.1 ≠ dxs) → (D, tupO vs) ∈ tl → (td, o') ∈ tl → Fr h₀ L h' m → News h₀ L h' ((dr, rdD eh sc td) :: (dxs, scD h1 h2 t1 t2 Tx tT (kf : Int) tk2) :: tl) → Q (.ref D) ⟨h', zg, zd, tk', zo⟩) :
    wpAny (model prog w) (ktrTop dp un gd cn cs L a ccd cl outer) (call (.ref 396) [.ref rd]) Q E ⟨zh, zg, zd, zt, zo⟩ := by
  by_cases hb0 : IsS q0 (Str.ofString "{")
  · exact dom_curly B F X T hk hdp hun N hrd hsc hah hoff1 hoff2 hdd (hoff2 _ hsc) (hoff1 _ hsc) (hoff1 _ hrd) (hoff2 _ hrd) (hoff1 _ hah) (hoff2 _ hah) hk1 hT ho hR hTL hE hQ hb0 hlen
  · exact dom_plain B F X T hk hdp hun N hrd hsc hah hoff1 hoff2 hdd (hoff2 _ hsc) (hoff1 _ hsc) (hoff1 _ hrd) (hoff2 _ hrd) (hoff1 _ hah) (hoff2 _ hah) hk1 hT ho hR hTL hE hQ hb0
/-- the first loop: domains are built -/
structure LawJ (w : World) (d c rl : Addr) (cvs : List Value) (cn2 : Nat) (i : Nat) (m : Str → Option Value) (nx : List (Addr × Obj)) : Prop where
  out : ∃ (o' : Obj) (p' : Int) (t' : Tok) (vs : List Value) (nn : Nat) (tl : List (Addr × Obj)), nx = (d, o') :: (rl, listOf vs.toArray nn) :: tl ∧ FeedIs w o' c p' t' ∧ 0 ≤ p' ∧ p' ≤ 1 + 20 * (i : Int) ∧ vs.length ≤ 20 * i ∧ (1 ≤ i → 1 ≤ vs.length) ∧
    (c, listOf cvs.toArray cn2) ∈ tl ∧ (∀ q ∈ tl, q.1 ≠ d) ∧ (∀ q ∈ tl, q.1 ≠ rl) ∧ RowsIn tl vs ∧ m (Str.ofString "feed") = some (.ref d) ∧ m (Str.ofString "rows") = some (.ref rl)
theorem lawj_end {w : World} {d c rl : Addr} {cvs : List Value} {cn2 i nn : Nat} {g h' : Heap} {L I : Addr} {oI o' : Obj} {tk : Nat} {m' : Str → Option Value} {s₁ : Shared} {p' : Int} {t' : Tok} {vs : List Value} {tl : List (Addr × Obj)}
    (F : Fr g L h' m') (N : News g L h' ((d, o') :: (rl, listOf vs.toArray nn) :: tl)) (hI : (I, oI) ∈ tl) (hc : oI.cls = .type "range_iterator") (hdI : d ≠ I) (hrI : rl ≠ I) (hf : FeedIs w o' c p' t') (b0 : 0 ≤ p') (b1 : p' ≤ 1 + 20 * ((i + 1 : Nat) : Int)) (b2 : vs.length ≤ 20 * (i + 1)) (b3 : 1 ≤ vs.length)
    (hcm : (c, listOf cvs.toArray cn2) ∈ tl) (o1 : ∀ q ∈ tl, q.1 ≠ d) (o2 : ∀ q ∈ tl, q.1 ≠ rl) (hr : RowsIn tl vs) (e1 : m' (Str.ofString "feed") = some (.ref d)) (e2 : m' (Str.ofString "rows") = some (.ref rl)) :
    InvEndG g L (LawJ w d c rl cvs cn2 (i + 1)) [(I, oI)] s₁ { s₁ with heap := h', toks := tk } := by
  have Nt : News g L h' tl := newsSub N fun q hq => .tail _ (.tail _ hq)
  refine InvEndG.intro F N (nx := (d, o') :: (rl, listOf vs.toArray nn) :: dropA I tl) ⟨_, _, _, _, _, _, rfl, hf, b0, b1, b2, fun _ => b3, dropA_mem hcm (cls_off Nt hI hc hcm (by show Value.type "list" ≠ _; decide)), fun q hq => o1 q (dropA_sub q hq), fun q hq => o2 q (dropA_sub q hq), hr.monoT (tupS_drop Nt hI hc), e1, e2⟩ ?_ (fun q hq => ?_) (fun q hq => ?_)
  · intro p hp b hb e
    rw [List.mem_singleton.mp hp] at e
    obtain ⟨q, hq, rfl⟩ := List.mem_map.mp hb
    rcases List.mem_cons.mp hq with rfl | hq
    · exact hdI e.symm
    · rcases List.mem_cons.mp hq with rfl | hq
      · exact hrI e.symm
      · exact dropA_off q hq e.symm
  · rcases List.mem_cons.mp hq with rfl | hq
    · exact .head _
    · rcases List.mem_cons.mp hq with rfl | hq
      · exact .tail _ (.head _)
      · exact .tail _ (.tail _ (dropA_sub q hq))
  · rw [List.mem_singleton.mp hq]
    exact .tail _ (.tail _ hI)
/-- the second loop: domains are read -/
structure LawL (toks : List TokD) (fl : Addr) (fvs : List Value) (fnn : Nat) (rd dr sc dxs : Addr) (eh : RdH) (h1 h2 : Int) (t1 t2 : Tok) (X : Str) (tX : Tok) (i : Nat) (m : Str → Option Value) (nx : List (Addr × Obj)) : Prop where
  out : ∃ (ah : Addr) (o : Obj) (k : Nat) (tks : Tok) (P : Nat) (tP : Tok) (q : TokD) (r : List TokD) (tl : List (Addr × Obj)), nx = (dr, rdD eh sc ah) :: (dxs, scD h1 h2 t1 t2 X tX (k : Int) tks) :: tl ∧
    (rd, instObj 446 dr) ∈ tl ∧ (sc, instObj 285 dxs) ∈ tl ∧ (ah, o) ∈ tl ∧ TokO q o ∧ RestIs X k r ∧ TokL (q :: r) ∧ toks.drop P = q :: r ∧ (k : Int) ≤ X.length ∧ (fl, listOf fvs.toArray fnn) ∈ tl ∧ ToksV tl fvs toks ∧ (∀ x ∈ tl, x.1 ≠ dr) ∧ (∀ x ∈ tl, x.1 ≠ dxs) ∧ i + r.length + 1 ≤ toks.length ∧
    m (Str.ofString "tokens") = some (.ref fl) ∧ m (Str.ofString "reader") = some (.ref rd) ∧ m (Str.ofString "place") = some (.int (P : Int) tP)
theorem Sfx.ex {b : Bool} {t : List Nat} {off : Nat} {ks : List TokD} (h : Sfx b t off ks) : ∃ a r, ks = a :: r := by
  cases h <;> exact ⟨_, _, rfl⟩
def kp (dr dxs : Addr) (l : List (Addr × Obj)) : List (Addr × Obj) := keepOff [dr, dxs] [] l
theorem kp_in {dr dxs : Addr} {l : List (Addr × Obj)} {q : Addr × Obj} (h : q ∈ l) (h1 : @Ne Nat q.1 dr) (h2 : @Ne Nat q.1 dxs) : q ∈ kp dr dxs l := keepOff_mem h (off2 h1 h2) (fun _ h => absurd h List.not_mem_nil)
theorem kp_sub {dr dxs : Addr} {l : List (Addr × Obj)} : ∀ q ∈ kp dr dxs l, q ∈ l := fun _ h => keepOff_sub h
theorem kp_1 {dr dxs : Addr} {l : List (Addr × Obj)} : ∀ q ∈ kp dr dxs l, q.1 ≠ dr := keep_d
theorem kp_2 {dr dxs : Addr} {l : List (Addr × Obj)} : ∀ q ∈ kp dr dxs l, q.1 ≠ dxs := keep_rl
theorem cls_ne {h₀ h : Heap} {L d : Addr} {o : Obj} {l : List (Addr × Obj)} (N : News h₀ L h l) (hd : (d, o) ∈ l) {q : Addr × Obj} (hq : q ∈ l) (hn : q.2.cls ≠ o.cls) : @Ne Nat q.1 d := by
  intro e
  have h1 := (N q hq).1
  have h2 := (N _ hd).1
  rw [show q.1 = d from e, h2] at h1
  exact hn ((congrArg Obj.cls (Option.some.inj h1)).symm)
theorem tupS_kp {h₀ h : Heap} {L dr dxs : Addr} {o1 o2 : Obj} {l : List (Addr × Obj)} (N : News h₀ L h l) (h1 : (dr, o1) ∈ l) (h2 : (dxs, o2) ∈ l) (c1 : o1.cls = .type "dict") (c2 : o2.cls = .type "dict") : TupS l (kp dr dxs l) :=
  fun q hq ht => kp_in hq (cls_ne N h1 hq (by rw [ht, c1]; decide)) (cls_ne N h2 hq (by rw [ht, c2]; decide))
theorem tokO_cls {k : TokD} {o : Obj} (h : TokO k o) : o.cls = .type "tuple" := by
  obtain ⟨_, _, _, _, rfl, _⟩ := h
  rfl
theorem lawl_end {toks : List TokD} {fl : Addr} {fvs : List Value} {fnn i : Nat} {rd dr sc dxs ah : Addr} {eh : RdH} {h1 h2 : Int} {t1 t2 tX tks tP : Tok} {X : Str} {o : Obj} {k P : Nat} {q : TokD} {r : List TokD} {g h' : Heap} {L I : Addr} {oI : Obj} {tk : Nat} {m' : Str → Option Value} {s₁ : Shared} {all tl : List (Addr × Obj)}
    (F : Fr g L h' m') (N : News g L h' all) (hI : (I, oI) ∈ all) (hc : oI.cls = .type "range_iterator") (hdr : (dr, rdD eh sc ah) ∈ all) (hdx : (dxs, scD h1 h2 t1 t2 X tX (k : Int) tks) ∈ all) (hsub : ∀ x ∈ tl, x ∈ all) (hIt : (I, oI) ∈ tl)
    (hrd : (rd, instObj 446 dr) ∈ tl) (hsc : (sc, instObj 285 dxs) ∈ tl) (hah : (ah, o) ∈ tl) (ho : TokO q o) (hR : RestIs X k r) (hT : TokL (q :: r)) (hd : toks.drop P = q :: r) (hk : (k : Int) ≤ X.length) (hfl : (fl, listOf fvs.toArray fnn) ∈ tl) (hv : ToksV tl fvs toks) (o1 : ∀ x ∈ tl, x.1 ≠ dr) (o2 : ∀ x ∈ tl, x.1 ≠ dxs) (hb : i + 1 + r.length + 1 ≤ toks.length)
    (e1 : m' (Str.ofString "tokens") = some (.ref fl)) (e2 : m' (Str.ofString "reader") = some (.ref rd)) (e3 : m' (Str.ofString "place") = some (.int (P : Int) tP)) :
    InvEndG g L (LawL toks fl fvs fnn rd dr sc dxs eh h1 h2 t1 t2 X tX (i + 1)) [(I, oI)] s₁ { s₁ with heap := h', toks := tk } := by
  have Nt : News g L h' tl := newsSub N hsub
  have go : ∀ x ∈ tl, x.2.cls ≠ .type "range_iterator" → x ∈ dropA I tl := fun x hx hn => dropA_mem hx (cls_off Nt hIt hc hx hn)
  refine InvEndG.intro F N (nx := (dr, rdD eh sc ah) :: (dxs, scD h1 h2 t1 t2 X tX (k : Int) tks) :: dropA I tl) ⟨_, _, _, _, _, _, _, _, _, rfl, go _ hrd (by show Value.ref 446 ≠ _; decide), go _ hsc (by show Value.ref 285 ≠ _; decide), go _ hah (by rw [tokO_cls ho]; decide), ho, hR, hT, hd, hk, go _ hfl (by show Value.type "list" ≠ _; decide), hv.monoT (tupS_drop Nt hIt hc), fun x hx => o1 x (dropA_sub x hx), fun x hx => o2 x (dropA_sub x hx), hb, e1, e2, e3⟩ ?_ (fun x hx => ?_) (fun x hx => ?_)
  · intro p hp b hb e
    rw [List.mem_singleton.mp hp] at e
    obtain ⟨x, hx, rfl⟩ := List.mem_map.mp hb
    rcases List.mem_cons.mp hx with rfl | hx
    · exact cls_off N hI hc hdr (by show Value.type "dict" ≠ _; decide) e.symm
    · rcases List.mem_cons.mp hx with rfl | hx
      · exact cls_off N hI hc hdx (by show Value.type "dict" ≠ _; decide) e.symm
      · exact dropA_off x hx e.symm
  · rcases List.mem_cons.mp hx with rfl | hx
    · exact hdr
    · rcases List.mem_cons.mp hx with rfl | hx
      · exact hdx
      · exact hsub x (dropA_sub x hx)
  · rw [List.mem_singleton.mp hx]
    exact hI
theorem instE {h₀ h : Heap} {L e dx : Addr} {oe d : Obj} {news : List (Addr × Obj)} (N : News h₀ L h news) (hm : (e, oe) ∈ news) (hc : oe.cls = .ref 81) (hd : oe.dict = some dx) (hn : ∀ c, oe.data ≠ .cls c) (hx : (dx, d) ∈ news) : InstAt h e oe 81 (some d) := by
  refine ⟨(N _ hm).1, hc, ?_, ?_⟩
  · unfold notCls
    split
    · rename_i c z
      exact absurd z (hn c)
    · rfl
  · rw [hd]
    exact (N _ hx).1
end Mine
theorem Mine.rw_P47_spot : True := by
  k_with_none
  (k_with "subscriptTail" => (k_here; (fail_if_success fail_if_success with_reducible show wpAny _ _ (subscriptTail _ _ (Value.ref _) (Value.str _ _)) _ _ _); k_dflt (refine' Mine.d_get ?zzN ?zzm ?zzo ?zzf ?_; (case zzN => k_asm); (case zzm => k_mem); (case zzo => with_reducible assumption); (case zzf => exact rfl); k_whole)))
  (k_with "setItem ref str" => (k_here; (fail_if_success fail_if_success with_reducible show wpAny _ _ (setItem (Value.ref _) (Value.str _ _) _) _ _ _); k_dflt (refine' Mine.d_set ?zzF ?zzN ?zzU ?zzo ?_ ?zzz; (case zzF => k_asm); (case zzN => k_asm); (case zzU => k_updF); (case zzo => with_reducible assumption); (case zzz => exact Nat.le_of_ble_eq_true rfl)); intro _ _ _ _ _; (try k_sweep)))
  (k_with "call builtin:len" => (k_here; (fail_if_success fail_if_success with_reducible show wpAny _ _ (call (Value.builtin "len") [Value.ref _]) _ _ _); k_dflt (refine' Mine.len_L ?zzN ?zzm ?zzb ?_; (case zzN => k_asm); (case zzm => k_mem); (case zzb => omega); k_whole)))
  (k_with "subscriptTail" => (k_here; (fail_if_success fail_if_success with_reducible show wpAny _ _ (subscriptTail _ _ (Value.ref _) (Value.int _ _)) _ _ _); k_dflt (refine' Mine.item_L ?zzN ?zzm ?zza ?zzb ?zzc ?_; (case zzN => k_asm); (case zzm => k_mem); (case zza => omega); (case zzb => omega); (case zzc => omega); k_whole); intro _ _))
  (k_with "subscriptTail" => (k_here; (fail_if_success fail_if_success with_reducible show wpAny _ _ (subscriptTail _ _ (Value.ref _) (Value.int _ _)) _ _ _); k_dflt (refine' Mine.item_LI ?zzN ?zzm ?zzi ?zza ?zzb ?zzc ?_; (case zzN => k_asm); (case zzm => k_mem); (case zzi => with_reducible assumption); (case zza => omega); (case zzb => omega); (case zzc => omega); k_whole); intro _ _))
  (k_with "ite" => first | with_reducible refine PyProof.Rows.ite_tt ?_ | with_reducible refine PyProof.Rows.ite_ff ?_)
  (k_with "execs cons" => (k_here; (try k_gentoks); (with_reducible refine wpAny_execs_cons ?_); (try dsimp only); k_fold))
  (k_with "eval Constant int" => (with_reducible refine Mine.constI ?_))
  (k_with "eval Constant str" => (with_reducible refine Mine.constS ?_))
  (k_with "binaryOp Add int int" => (with_reducible refine Mine.addI ?_))
  trivial
namespace Mine
open PySem PySem.W PyProof.Rows PySem.Calls PyProof.V PySem.Spec PySem.NumText
set_option maxHeartbeats 1000000 in
theorem get_spot {w : World} {A : Around} {E : Value → Shared → Prop} {s : Shared} {h₀ : Heap} {L : Addr} {m : Str → Option Value} {news : List (Addr × Obj)} {e dx : Addr} {oe : Obj} {gh1 gh2 sp : Int} {t1 t2 t3 : Tok} {v : Value} {ex : Bool} {Q : Value → Shared → Prop}
    (F : Fr h₀ L s.heap m) (X : (Mine.top.heap_1 w.params).In h₀) (N : News h₀ L s.heap news) (hm : (e, oe) ∈ news) (hc : oe.cls = .ref 81) (hd' : oe.dict = some dx) (hn : ∀ c, oe.data ≠ .cls c) (hx : (dx, dictOf [⟨gh1, .str (Str.ofString "what") t1, v⟩, ⟨gh2, .str (Str.ofString "spot") t2, .int sp t3⟩] 2) ∈ news)
    (h : Q (.int sp t3) { s with toks := s.toks + 1 }) : wpAny (model prog w) A (getAttr (.ref e) (Str.ofString "spot") ex) Q E s := by
  obtain ⟨nmC, qC, NC, bsC, bmC, hdC, snC, subC, abC, colC, ddC, k0C, k1C, k2C, k3C, k5C, hCC, _, _, _, hCB⟩ := tf_cls w
  have I := instE N hm hc hd' hn hx
  have Xs : (Mine.top.heap_1 w.params).In s.heap := X.keeps F.keep
  have FB := PySem.F.attr_Exception
  have hga : findIn (Mine.top.heap_1 w.params) (.ref 81) "__getattribute__" = some (some (.builtin "BaseException.__getattribute__")) := by k_is
  have hgn : findIn (Mine.top.heap_1 w.params) (.ref 81) "__getattr__" = some none := by k_is
  have hhd : hasDictIn (Mine.top.heap_1 w.params) 81 = true := by k_is
  have hat : findIn (Mine.top.heap_1 w.params) (.ref 81) (Str.ofString "spot") = some none := by k_is
  have hf : findObj (Mine.top.heap_1 w.params) 81 (some (dictOf [⟨gh1, .str (Str.ofString "what") t1, v⟩, ⟨gh2, .str (Str.ofString "spot") t2, .int sp t3⟩] 2)) (Str.ofString "spot") = some (.value (.int sp t3)) := findObj_own (v := .int sp t3) hhd hat rfl rfl
  have hx0 : e ∈ news.map (·.1) := List.mem_map.mpr ⟨_, hm, rfl⟩
  have hoe := (N _ hm).1
  obtain ⟨hh, g, d, t, os⟩ := s
  have hC : hh.get? 81 = _ := Xs _ _ hCC
  have L0 := I.type (M := model prog w)
  have L1 := looks_findIn (M := model prog w) Xs hga
  have L2 := looks_findIn (M := model prog w) Xs hgn
  have L3 := looks_find (M := model prog w) Xs I hf
  have hx1 : (ex && onTheHeap (Value.builtin "BaseException.__getattribute__")) = false := by cases ex <;> rfl
  have hcB : (Value.ref 81 :: bmC).contains (.type "BaseException") = true := by rw [List.contains_cons, hCB, Bool.or_true]
  unfold getAttr getAttrBy
  refine wpAny_bind (wpAny_mkText (wpAny_holding (wpAny_bind (L0.at (wpAny_bind (L1.at ?_))))))
  show wpAny _ _ (getAttrByItsOwn (.ref e) (.str (Str.ofString "spot") t) (.ref 81) (.builtin "BaseException.__getattribute__") true ex) _ _ _
  unfold getAttrByItsOwn hookBefore callGetattribute boundAndCalled
  refine wpAny_bind (m := typeLookup (.ref 81) "__getattr__") (L2.at ?_)
  refine wpAny_bind (wpAny_attempt (wpAny_holding ?_))
  rw [if_neg (by rw [hx1]; decide)]
  refine wpAny_bind (wpAny_of_eq (FB.ga.bind _) ?_)
  refine wpAny_mono (Q := fun v s' => v = .int sp t3 ∧ s' = ⟨hh, g, d, t + 1, os⟩) (E := fun _ _ => False) ?call (fun v s' hv => ?post) (fun _ _ z => z.elim)
  case post =>
    obtain ⟨rfl, rfl⟩ := hv
    show wpAny _ _ (handedOut (.int sp t3)) _ _ _
    rw [handedOut_of rfl]
    exact wpAny_pure h
  case call =>
    refine wpAny_call (codeAny_call_builtin FB.ga.plain PySem.F.entry_bexc_ga ?_)
    have hk : builtinKind "BaseException.__getattribute__" = some .slot := by decide +kernel
    have hsplit : splitId "BaseException.__getattribute__" = some ("BaseException", "__getattribute__") := by decide +kernel
    have ha := PySem.F.args_bexc_ga (.ref e) (.str (Str.ofString "spot") t)
    have ho : mroIn (Mine.top.heap_1 w.params) 81 (.type "BaseException") = some true := by k_is
    have sub : Looks (model prog w) hh (isInstance (.ref e) (.type "BaseException")) true := L0.andThen (looks_mroIn Xs ho)
    refine @check_slot (model prog w) _ _ ⟨hh, g, d, t + 1, os⟩ "BaseException.__getattribute__" "BaseException" "__getattribute__" (.ref e) [.str (Str.ofString "spot") t] [] _ hk hsplit sub ha ?_
    unfold Builtin.«object.__getattribute__»
    refine wpAny_bind (wpAny_pure ?_)
    refine wpAny_bind (wpAny_pure ?_)
    refine wpAny_bind (L0.at (wpAny_bind (L3.at ?_)))
    exact wpAny_pure ⟨rfl, rfl⟩
theorem LoopR.len3 {f : List (Int × Int)} {ks : List TokD} {x : Except Nat (List (Int × Int) × List TokD)} (h : LoopR f ks x) : ∀ {rs r}, x = .ok (rs, r) → TokL ks → 3 * rs.length ≤ 3 * f.length + ks.length := by
  induction h with
  | done a =>
    intro rs r e _
    cases e
    omega
  | noComma => intro rs r e; cases e
  | firstBad => intro rs r e; cases e
  | first a b _ ih =>
    intro rs r e hT
    obtain ⟨_, _, h3, h4⟩ := b.facts hT
    have := ih e h3
    simp only [List.length_cons, List.length_nil] at this h4 ⊢
    omega
  | nextBad => intro rs r e; cases e
  | next a b c _ ih =>
    intro rs r e hT
    have hT2 := (hT.sign b (by decide +kernel)).1
    obtain ⟨_, _, h3, h4⟩ := c.facts hT2
    have := ih e h3
    simp only [List.length_append, List.length_cons, List.length_nil] at this h4 ⊢
    omega
theorem DomR.len3 {ks : List TokD} {rs : List (Int × Int)} {r : List TokD} (h : DomR ks (.ok (rs, r))) (hT : TokL ks) : 3 * rs.length ≤ ks.length := by
  cases h with
  | plain a b =>
    obtain ⟨_, _, _, h4⟩ := b.facts hT
    simp only [List.length_cons, List.length_nil] at h4 ⊢
    omega
  | curly a b =>
    have := b.len3 rfl (hT.sign a (by decide +kernel)).1
    simp only [List.length_cons, List.length_nil] at this ⊢
    omega
end Mine
section
local macro_rules | `(tactic| k_inst) => `(tactic| exact Mine.instE (by k_asm) (by k_mem) (by with_reducible assumption) (by with_reducible assumption) (by with_reducible assumption) (by k_mem))
theorem Mine.rw_P50_law : True := by
  k_with_none
  (k_with "subscriptTail" => (k_here; (fail_if_success fail_if_success with_reducible show wpAny _ _ (subscriptTail _ _ (Value.ref _) (Value.str _ _)) _ _ _); k_dflt (refine' Mine.d_get ?zzN ?zzm ?zzo ?zzf ?_; (case zzN => k_asm); (case zzm => k_mem); (case zzo => with_reducible assumption); (case zzf => exact rfl); k_whole)))
  (k_with "setItem ref str" => (k_here; (fail_if_success fail_if_success with_reducible show wpAny _ _ (setItem (Value.ref _) (Value.str _ _) _) _ _ _); k_dflt (refine' Mine.d_set ?zzF ?zzN ?zzU ?zzo ?_ ?zzz; (case zzF => k_asm); (case zzN => k_asm); (case zzU => k_updF); (case zzo => with_reducible assumption); (case zzz => exact Nat.le_of_ble_eq_true rfl)); intro _ _ _ _ _; (try k_sweep)))
  (k_with "call builtin:len" => (k_here; (fail_if_success fail_if_success with_reducible show wpAny _ _ (call (Value.builtin "len") [Value.ref _]) _ _ _); k_dflt (refine' Mine.len_L ?zzN ?zzm ?zzb ?_; (case zzN => k_asm); (case zzm => k_mem); (case zzb => omega); k_whole)))
  (k_with "subscriptTail" => (k_here; (fail_if_success fail_if_success with_reducible show wpAny _ _ (subscriptTail _ _ (Value.ref _) (Value.int _ _)) _ _ _); k_dflt (refine' Mine.item_L ?zzN ?zzm ?zza ?zzb ?zzc ?_; (case zzN => k_asm); (case zzm => k_mem); (case zza => omega); (case zzb => omega); (case zzc => omega); k_whole); intro _ _))
  (k_with "subscriptTail" => (k_here; (fail_if_success fail_if_success with_reducible show wpAny _ _ (subscriptTail _ _ (Value.ref _) (Value.int _ _)) _ _ _); k_dflt (refine' Mine.item_LI ?zzN ?zzm ?zzi ?zza ?zzb ?zzc ?_; (case zzN => k_asm); (case zzm => k_mem); (case zzi => with_reducible assumption); (case zza => omega); (case zzb => omega); (case zzc => omega); k_whole); intro _ _))
  (k_with "ite" => first | with_reducible refine PyProof.Rows.ite_tt ?_ | with_reducible refine PyProof.Rows.ite_ff ?_)
  (k_with "execs cons" => (k_here; (try k_gentoks); (with_reducible refine wpAny_execs_cons ?_); (try dsimp only); k_fold))
  (k_with "eval Constant int" => (with_reducible refine Mine.constI ?_))
  (k_with "eval Constant str" => (with_reducible refine Mine.constS ?_))
  (k_with "binaryOp Add int int" => (with_reducible refine Mine.addI ?_))
  (k_with "call ref" => (k_here; (fail_if_success fail_if_success with_reducible show wpAny _ _ (call (Value.ref 455) [Value.ref _, Value.int _ _]) _ _ _); k_dflt (refine' Mine.dip_K ?zzB ?zzF ?zzX ?zzT ?zzhk ?zzhd ?zzhu ?zzN ?zzU ?zzfd ?zzc ?zzcd ?zzhI ?zzl ?zzp0 ?zzp1 ?zzm0 ?zzm1 ?_; (case zzB => k_asm); (case zzF => k_asm); (case zzX => k_asm); (case zzT => k_asm); (case zzhk => first | exact rfl | assumption); (case zzN => k_asm); (case zzU => k_updF); (case zzfd => with_reducible assumption); (case zzc => k_mem); (case zzcd => omega); (case zzhI => with_reducible assumption); (case zzhd => ktr_room); (case zzhu => ktr_units); (case zzl => omega); (case zzp0 => omega); (case zzp1 => omega); (case zzm0 => omega); (case zzm1 => omega)); intro _ _ _ _ _ _ _ _ _ _ _; (try dsimp only); (try k_fold); (try k_sweep)))
  (k_with "pyIter ref" => (refine Mine.stop_intro ?_))
  (k_with "exec For Name Call cons nil" => (k_here; (rename Fr _ _ _ _ => lF'); (with_unfolding_all refine' For_invVF lF' ?zzk1 ?zzk2 ?_; (case zzk1 => exact rfl); (case zzk2 => exact rfl); k_whole)))
  (k_with "call type:range" => (k_here; (fail_if_success fail_if_success with_reducible show wpAny _ _ (call _ [Value.int _ _]) _ _ _); k_dflt (refine' Mine.range_1 ?zzF ?zzN ?_; (case zzF => k_asm); (case zzN => k_asm)); intro _ _ _ _ _ _ _ _; (try k_sweep)))
  (k_with "call ref" => first | ((fail_if_success fail_if_success with_reducible show wpAny _ _ (call (Value.ref 469) _) _ _ _); refine Mine.stop_intro ?_) | ((fail_if_success fail_if_success with_reducible show wpAny _ _ (call (Value.ref 476) _) _ _ _); refine Mine.stop_intro ?_) | ((fail_if_success fail_if_success with_reducible show wpAny _ _ (call (Value.ref 483) _) _ _ _); refine Mine.stop_intro ?_) | ((fail_if_success fail_if_success with_reducible show wpAny _ _ (call (Value.ref 446) _) _ _ _); refine Mine.stop_intro ?_) | ((fail_if_success fail_if_success with_reducible show wpAny _ _ (call (Value.ref 490) _) _ _ _); refine Mine.stop_intro ?_) | ((fail_if_success fail_if_success with_reducible show wpAny _ _ (call (Value.ref 396) _) _ _ _); refine Mine.stop_intro ?_) | ((fail_if_success fail_if_success with_reducible show wpAny _ _ (call (Value.ref 455) _) _ _ _); refine Mine.stop_intro ?_) | ((fail_if_success fail_if_success with_reducible show wpAny _ _ (call (Value.ref 226) _) _ _ _); refine Mine.stop_intro ?_))
  (k_with "exec Try cons cons nil nil" => (refine Mine.stop_intro ?_))
  (k_with "getAttr ref" => (k_here; (fail_if_success fail_if_success with_reducible show wpAny _ _ (getAttr (Value.ref _) _ _) _ _ _); k_dflt (refine' Mine.get_spot ?zzF ?zzX ?zzN ?zzm ?zzc ?zzd ?zzn ?zzx ?_; (case zzF => k_asm); (case zzX => k_asm); (case zzN => k_asm); (case zzx => k_mem); (case zzm => k_mem); (case zzc => with_reducible assumption); (case zzd => with_reducible assumption); (case zzn => with_reducible assumption))))
  (k_with "compareOp NotEq ref ref" => (k_here; (fail_if_success fail_if_success with_reducible show wpAny _ _ (compareOp CmpOp.NotEq (Value.ref _) (Value.ref _)) _ _ _); k_dflt (refine' Mine.ne_same ?zzN ?zzma ?zzmb ?zzhv ?zzu ?zzux ?_; (case zzN => k_asm); (case zzma => k_mem); (case zzmb => k_mem); (case zzhv => exact Mine.PairsV.mono (by with_reducible assumption) (fun q hq => by k_mem)); (case zzu => exact Mine.PairsV.mono (by with_reducible assumption) (fun q hq => by k_mem)); (case zzux => ktr_units))))
  trivial
open PySem PySem.W PyProof.Rows PySem.Calls PyProof.V PySem.Spec PySem.NumText Mine
set_option Elab.async true in
set_option maxHeartbeats 8000000 in
theorem Mine.fin : PySem.Challenge.rw_qd0022_01.Holds := by
  (w_on; o_law; k_head; (case hw => w_witness2))
  show WalkO Mine.V _ (XL Mine.V _) (Hook.says (kHook Mine.top.heap_1 _ _)) _ _ _ _
  k_go0
  all_goals try k_fold
  rename_i hlen hcond K0 hD h₁ F0 N0
  clear hD
  rename PySem.World => w
  k_steps
  refine Mine.Stop.mk ?_
  rename_i d z1 o1 lo hd1 l1a D2 ws z2 hws hC hL2 l1b D1 c1 z3 l1c z4 o2 hd2 rl z5 l1d D' z6 l1e z7 z8 z9 N1
  have hwl := hws.length
  have hfd : Mine.FeedIs _ o2 D1 0 _ := hd2
  k_dflt (refine' Mine.dip_K ?yyB ?yyF ?yyX ?yyT ?yyhk ?yyhd ?yyhu ?yyN ?yyU ?yyfd ?yyc ?yycd ?yyhI ?yyl ?yyp0 ?yyp1 ?yym0 ?yym1 ?_; (case yyB => k_asm); (case yyF => k_asm); (case yyX => k_asm); (case yyT => k_asm); (case yyhk => first | exact rfl | assumption); (case yyN => k_asm); (case yyU => k_updF); (case yyfd => with_reducible assumption); (case yyc => k_mem); (case yycd => omega); (case yyhI => with_reducible assumption); (case yyhd => ktr_room); (case yyhu => ktr_units); (case yyl => omega); (case yyp0 => omega); (case yyp1 => omega); (case yym0 => omega); (case yym1 => omega))
  intro v9 t91 t92 o9 h9 tk9 hv0 hv1 I9 F9 N9
  (try dsimp only)
  (try k_fold)
  (try k_sweep)
  k_steps
  refine Mine.Stop.mk ?_
  rename_i y1 y2 u1 u2 u3 hR F2 N2
  have nD : @Ne Nat D1 d := by omega
  have nR : @Ne Nat D1 rl := by omega
  have dR : @Ne Nat d rl := by omega
  refine' range_C (LawJ _ d D1 rl ws c1) rfl hR (by omega) (by omega) F2 (newsSub N2 (sub_cons (x := (d, o9)) ?yya1 (sub_cons (x := (rl, PySem.W.listOf ([] : List Value).toArray 0)) ?yya2 (sub_cons (x := (D1, PySem.W.listOf ws.toArray c1)) ?yya3 (fun _ h => absurd h List.not_mem_nil))))) ⟨o9, _, _, [], 0, [(D1, PySem.W.listOf ws.toArray c1)], rfl, I9, by omega, by omega, by simp, by omega, .head _, off_cons nD (fun _ h => absurd h List.not_mem_nil), off_cons nR (fun _ h => absurd h List.not_mem_nil), RowsIn.nil, rfl, rfl⟩ ?yyturn1 ?yydone1
  case yya1 => k_mem
  case yya2 => k_mem
  case yya3 => k_mem
  case yyturn1 =>
    intro i t m₁ nx h tk I oI hi hcI hoI hJ F3 N3
    obtain ⟨o', p', t', vs, nn, tl, rfl, f1, f2, f3, f4, f5, f6, f7, f8, f9, e1, e2⟩ := hJ.out
    have F4 := fr_put (fr_put F3 (Str.ofString "feed") e1) (Str.ofString "rows") e2
    have hdI : @Ne Nat d I := hoI _ (.head _)
    have hrI : @Ne Nat rl I := hoI _ (.tail _ (.head _))
    (try dsimp only)
    clear F3 hJ
    k_steps
    refine Mine.Stop.mk ?_
    (with_reducible rename Fr _ _ _ _ => Fz)
    (with_reducible rename News _ _ _ _ => Nz)
    refine' domain_body (tm := t) (c := D1) (d := d) (rl := rl) (rest := (I, oI) :: tl) ?yyB ?yyF ?yyX ?yyT ?yyhk ?yyhd ?yyhu (newsSub Nz (two_sub ?yyg1 ?yyg2 (sub_cons ?yyg3 fun q hq => ?yyg4))) f1 (.tail _ f6) (off_cons (Ne.symm hdI) f7) (off_cons (Ne.symm hrI) f8) nD nR dR hws (by omega) f2 (by omega) (f9.mono fun q hq => .tail _ hq) (by omega) ?yyq
    case yyB => k_asm
    case yyF => k_asm
    case yyX => k_asm
    case yyT => k_asm
    case yyhk => exact rfl
    case yyhd => ktr_room
    case yyhu => ktr_units
    case yyg1 => k_mem
    case yyg2 => k_mem
    case yyg3 => k_mem
    case yyg4 => k_mem
    case yyq =>
      intro o5 p5 t5 vs5 nn5 tl5 h5 tk5 j1 j2 j3 j4 j5 j6 j7 j8 j9 F5 N5
      k_steps
      exact lawj_end F5 N5 (j6 _ (.head _)) hcI hdI hrI j1 (by omega) (by omega) (by omega) j5 (j6 _ (.tail _ f6)) j7 j8 j9 rfl rfl
  case yydone1 =>
    intro m₁ nx h tk hJ F3 N3
    obtain ⟨o', p', t', vs, nn, tl, rfl, f1, f2, f3, f4, f5, f6, f7, f8, f9, e1, e2⟩ := hJ.out
    have F4 := fr_put (fr_put F3 (Str.ofString "feed") e1) (Str.ofString "rows") e2
    have hvs : 1 ≤ vs.length := f5 (by omega)
    have hvs2 : vs.length ≤ 60 := by omega
    have hp2 : p' ≤ 61 := by omega
    (try dsimp only)
    clear F3 hJ N2 F2 hR
    k_steps
    refine Mine.Stop.mk ?_
    (with_reducible rename Fr _ _ _ _ => Fz)
    (with_reducible rename News _ _ _ _ => Nz)
    refine' bent_body (tm := t') (c := D1) (d := d) (rl := rl) (rest := (rl, PySem.W.listOf vs.toArray nn) :: tl) ?yyB ?yyF ?yyX ?yyT ?yyhk ?yyhd ?yyhu (newsSub Nz (two_sub ?yyg1 ?yyg2 fun q hq => ?yyg3)) f1 (.tail _ f6) (.head _) (off_cons (Ne.symm dR) f7) nD dR hws (by omega) f2 (by omega) (f9.mono fun q hq => .tail _ hq) (by omega) hvs ?yyq
    case yyB => k_asm
    case yyF => k_asm
    case yyX => k_asm
    case yyT => k_asm
    case yyhk => exact rfl
    case yyhd => ktr_room
    case yyhu => ktr_units
    case yyg1 => k_mem
    case yyg2 => k_mem
    case yyg3 => k_mem
    case yyq =>
      intro rw6 o6 p6 t6 ws6 nn6 tl6 h6 tk6 j1 j2 j3 j4 j5 j6 j7 j8 F6 N6
      have hc6 := j5 _ (.tail _ f6)
      have hdr6 : @Ne Nat d rw6 := Ne.symm (j6 _ j8)
      clear f6 f7 f8 f9 f1
      k_steps
      refine Mine.Stop.mk ?_
      (with_reducible rename Fr _ _ _ _ => Fz)
      (with_reducible rename News _ _ _ _ => Nz)
      refine' laid_body (tm := t') (c := D1) (d := d) (rl := rw6) (rest := tl6) ?yyB ?yyF ?yyX ?yyT ?yyhk ?yyhd ?yyhu Nz j1 hc6 j8 j6 nD hdr6 hws (by omega) (by omega) (by omega) j7 (by omega) ?yyq
      case yyB => k_asm
      case yyF => k_asm
      case yyX => k_asm
      case yyT => k_asm
      case yyhk => exact rfl
      case yyhd => ktr_room
      case yyhu => ktr_units
      case yyq =>
        intro R7 fl X7 tX fvs fnn rnn toks o7 p7 t7 tl7 h7 tk7 i1 i2 i3 i4 i5 i6 i7 i8 i9 F7 N7
        clear j1 j5 j6 j7 j8 hc6 i1 i6
        k_steps
        refine Mine.Stop.mk ?_
        obtain ⟨q0, ks0, rfl⟩ := i2.ex
        have hTL := i2.tokL
        (with_reducible rename Fr _ _ _ _ => Fz)
        (with_reducible rename News _ _ _ _ => Nz)
        refine' reader_new (b := true) (tk0 := q0) (ks := ks0) ?yyB ?yyF ?yyX ?yyT ?yyhk ?yyhd ?yyhu Nz i3 i2 ?yyq
        case yyB => k_asm
        case yyF => k_asm
        case yyX => k_asm
        case yyT => k_asm
        case yyhk => exact rfl
        case yyhd => ktr_room
        case yyhu => ktr_units
        case yyq =>
          intro rd dr eh sc dxs ah o8 ka kb ta tb tks8 h8 tk8 kf8 b1 b2 b3 b4 b5 b6 b7 b8 F8 N8
          clear Fz Nz i2
          have b5' : @LT.lt Nat _ dr rd := b5
          have b6' : @LT.lt Nat _ rd dxs := b6
          have b7' : @LT.lt Nat _ dxs sc := b7
          have b8' : @LT.lt Nat _ sc ah := b8
          have hvl := i5.length
          have p4 : ∀ q ∈ tl7, @LT.lt Nat _ q.1 dr := fun q hq => b4 q (.tail _ hq)
          clear b4 b5 b6 b7 b8
          k_steps
          refine Mine.Stop.mk ?_
          (with_reducible rename IsRange _ _ _ _ _ _ _ _ => hR8)
          (with_reducible rename Fr _ _ _ _ => Fz)
          (with_reducible rename News _ _ _ _ => Nz)
          rw [List.length_cons] at hvl i4
          have nd : @Ne Nat rd dr := by omega
          have ns : @Ne Nat sc dr := by omega
          have na : @Ne Nat ah dr := by omega
          have md : @Ne Nat rd dxs := by omega
          have ms : @Ne Nat sc dxs := by omega
          have ma : @Ne Nat ah dxs := by omega
          have ndx : @Ne Nat dr dxs := by omega
          have q1 : ∀ q ∈ tl7, q.1 ≠ dr := fun q hq => Nat.ne_of_lt (p4 q hq)
          have q2 : ∀ q ∈ tl7, q.1 ≠ dxs := fun q hq => Nat.ne_of_lt (Nat.lt_trans (p4 q hq) (Nat.lt_trans b5' b6'))
          refine' range_C (LawL (q0 :: ks0) fl fvs fnn rd dr sc dxs eh ka kb ta tb X7 tX) rfl hR8 (by omega) (by omega) Fz (newsSub Nz (two_sub (x := (dr, rdD eh sc ah)) (y := (dxs, scD ka kb ta tb X7 tX (kf8 : Int) tks8)) ?yyg1 ?yyg2 (sub_cons (x := (rd, instObj 446 dr)) ?yyg3 (sub_cons (x := (sc, instObj 285 dxs)) ?yyg4 (sub_cons (x := (ah, o8)) ?yyg5 fun q hq => ?yyg6)))))
            ⟨ah, o8, kf8, tks8, 0, _, q0, ks0, (rd, instObj 446 dr) :: (sc, instObj 285 dxs) :: (ah, o8) :: tl7, rfl, .head _, .tail _ (.head _), .tail _ (.tail _ (.head _)), b1, b2, hTL, rfl, b3, .tail _ (.tail _ (.tail _ i8)), i5.mono fun q hq => .tail _ (.tail _ (.tail _ hq)), off_cons nd (off_cons ns (off_cons na q1)), off_cons md (off_cons ms (off_cons ma q2)), (by simp only [List.length_cons]; omega), rfl, rfl, rfl⟩ ?yyturn2 ?yydone2
          case yyg1 => k_mem
          case yyg2 => k_mem
          case yyg3 => k_mem
          case yyg4 => k_mem
          case yyg5 => k_mem
          case yyg6 => k_mem
          case yydone2 =>
            intro m₁ nx h tk hJ F9 N9
            obtain ⟨_, _, _, _, _, _, q, r, _, rfl, _, _, _, _, _, _, _, _, _, _, _, _, hb, _⟩ := hJ.out
            exfalso
            simp only [List.length_cons] at hb
            omega
          case yyturn2 =>
            intro i t m₁ nx h tk I oI hi hcI hoI hJ F9 N9
            obtain ⟨ah9, o9', k9, tks9, P, tP, q, r, tl9, rfl, c1, c2, c3, c4, c5, c6, c7, c8, c9, c10, c11, c12, c13, e1, e2, e3⟩ := hJ.out
            have F10 := fr_put (fr_put (fr_put F9 (Str.ofString "tokens") e1) (Str.ofString "reader") e2) (Str.ofString "place") e3
            clear Fz Nz hR8 F9 hJ p4 q1 q2 i7 i8 i9 i5 b1 b2
            (try dsimp only)
            k_steps
            refine Mine.Stop.mk ?_
            (with_reducible rename Fr _ _ _ _ => Fz)
            (with_reducible rename News _ _ _ _ => Nz)
            refine' lr_body ?yyB ?yyF ?yyX ?yyT ?yyhk ?yyhd ?yyhu Nz (.tail _ (.tail _ (.tail _ c9))) (c10.mono fun q hq => .tail _ (.tail _ (.tail _ hq))) c7 c6 (by rw [List.length_cons]; omega) ?yyqb ?yyqo
            case yyB => k_asm
            case yyF => k_asm
            case yyX => k_asm
            case yyT => k_asm
            case yyhk => exact rfl
            case yyhd => ktr_room
            case yyhu => ktr_units
            case yyqb =>
              intro pb hdom R pi tlA tA tB hA tkA s1 s2 FA NA
              have m0 := s1 _ (.tail _ (.head _))
              have m1 := s1 _ (.tail _ (.tail _ (.head _)))
              have s2' := tupS_kp NA m0 m1 rfl rfl _ s2 rfl
              have k1 : (rd, instObj 446 dr) ∈ kp dr dxs tlA := kp_in (s1 _ (.tail _ (.tail _ (.tail _ c1)))) nd md
              have k2 : (sc, instObj 285 dxs) ∈ kp dr dxs tlA := kp_in (s1 _ (.tail _ (.tail _ (.tail _ c2)))) ns ms
              have k3 : (ah9, o9') ∈ kp dr dxs tlA := kp_in (s1 _ (.tail _ (.tail _ (.tail _ c3)))) (c11 _ c3) (c12 _ c3)
              have NB := newsSub NA (two_sub m0 m1 (kp_sub (dr := dr) (dxs := dxs) (l := tlA)))
              have kk1 := kp_1 (dr := dr) (dxs := dxs) (l := tlA)
              have kk2 := kp_2 (dr := dr) (dxs := dxs) (l := tlA)
              generalize kp dr dxs tlA = U at s2' k1 k2 k3 NB kk1 kk2
              clear NA s1 s2 m0 m1 c1 c2 c3 c9 c10 c11 c12 Nz Fz
              k_steps
              refine Mine.Stop.mk ?_
              refine wpAny_Try_except ?_
              k_steps
              refine Mine.Stop.mk ?_
              (with_reducible rename Fr _ _ _ _ => Fz)
              (with_reducible rename News _ _ _ _ => Nz)
              (try dsimp only [List.append_nil, List.cons_append, List.nil_append])
              simp only [List.length_cons] at c13 i4
              refine' domain_C (rest := U) ?yyB ?yyF ?yyX ?yyT ?yyhk ?yyhd ?yyhu Nz k1 k2 k3 kk1 kk2 ndx c4 (by omega) c8 i3 c5 c6 ?yyhe ?yyhq
              case yyB => k_asm
              case yyF => k_asm
              case yyX => k_asm
              case yyT => k_asm
              case yyhk => exact rfl
              case yyhd => ktr_room
              case yyhu => ktr_units
              case yyhq =>
                intro rs q3 r' hd2
                cases hd2.uniq hdom
              case yyhe =>
                intro pe hpe
                cases hpe.uniq hdom
                intro gE eE hE tkE FE RE UE
                obtain ⟨nmC, qC, NC, bsC, bmC, hdC, snC, subC, abC, colC, ddC, k0C, k1C, k2C, k3C, k5C, hCC, _, _, _, hCB⟩ := tf_cls w
                refine' caught_T K0 FE UE RE ?yyeX (topRead_of ?yyeT) (tf_name w) hCC hCB ?yyek
                case yyeX => k_asm
                case yyeT => k_asm
                case yyek =>
                  intro hF dxF oeF dF tkF spF clF diF ncF FF NF
                  obtain ⟨gh1, gh2, gt1, gt2, gv, gt3, rfl⟩ := spF
                  k_steps
            case yyqo =>
              intro rs r2 hdom R Dt dvs P' pi tlA tA tB hA tkA s0 s1 s2 s3 s4 s5 FA NA
              subst s0
              have hfc := hdom.facts c6
              simp only [List.length_cons] at c13 i4
              have m0 := s3 _ (.tail _ (.head _))
              have m1 := s3 _ (.tail _ (.tail _ (.head _)))
              have hts := tupS_kp NA m0 m1 rfl rfl
              have k1 : (rd, instObj 446 dr) ∈ kp dr dxs tlA := kp_in (s3 _ (.tail _ (.tail _ (.tail _ c1)))) nd md
              have k2 : (sc, instObj 285 dxs) ∈ kp dr dxs tlA := kp_in (s3 _ (.tail _ (.tail _ (.tail _ c2)))) ns ms
              have k3 : (ah9, o9') ∈ kp dr dxs tlA := kp_in (s3 _ (.tail _ (.tail _ (.tail _ c3)))) (c11 _ c3) (c12 _ c3)
              have k4 : (I, oI) ∈ kp dr dxs tlA := kp_in (s3 _ (.head _)) (Ne.symm (hoI _ (.head _))) (Ne.symm (hoI _ (.tail _ (.head _))))
              have k5 : (fl, PySem.W.listOf fvs.toArray fnn) ∈ kp dr dxs tlA := kp_in (s3 _ (.tail _ (.tail _ (.tail _ c9)))) (c11 _ c9) (c12 _ c9)
              have k6 : ToksV (kp dr dxs tlA) fvs (q0 :: ks0) := (c10.mono fun q hq => s3 _ (.tail _ (.tail _ (.tail _ hq)))).monoT hts
              have k7 := hts _ s4 rfl
              have k8 := s2.monoT hts
              have k9' := hts _ s5 rfl
              have NB := newsSub NA (two_sub m0 m1 (kp_sub (dr := dr) (dxs := dxs) (l := tlA)))
              have kk1 := kp_1 (dr := dr) (dxs := dxs) (l := tlA)
              have kk2 := kp_2 (dr := dr) (dxs := dxs) (l := tlA)
              generalize kp dr dxs tlA = U at k1 k2 k3 k4 k5 k6 k7 k8 k9' NB kk1 kk2
              clear NA s2 s3 s4 s5 hts m0 m1 c1 c2 c3 c9 c10 c11 c12 Nz Fz
              k_steps
              refine Mine.Stop.mk ?_
              refine wpAny_Try_except ?_
              k_steps
              refine Mine.Stop.mk ?_
              (with_reducible rename Fr _ _ _ _ => Fz)
              (with_reducible rename News _ _ _ _ => Nz)
              (try dsimp only [List.append_nil, List.cons_append, List.nil_append])
              refine' domain_C (rest := U) ?yyB ?yyF ?yyX ?yyT ?yyhk ?yyhd ?yyhu Nz k1 k2 k3 kk1 kk2 ndx c4 (by omega) c8 i3 c5 c6 ?yyhe ?yyhq
              case yyB => k_asm
              case yyF => k_asm
              case yyX => k_asm
              case yyT => k_asm
              case yyhk => exact rfl
              case yyhd => ktr_room
              case yyhu => ktr_units
              case yyhe =>
                intro pe hpe
                cases hpe.uniq hdom
              case yyhq =>
                intro rs3 q3 r3 hd3 hT3 D3 vs3 tl3 td3 o3 tk3 h3 tk3' kf3 g1 g2 g3 g4 g5 g6 g7 g8 g9 F3 N3
                cases hd3.uniq hdom
                have u7 := g5 _ k7
                have u8 := k8.mono g5
                have hvl3 := g4.length
                have hrl3 := hdom.len3 c6
                simp only [List.length_cons] at hrl3
                clear k8 Fz Nz
                k_steps
                refine Mine.Stop.mk ?_
                (with_reducible rename Fr _ _ _ _ => Fz)
                (with_reducible rename News _ _ _ _ => Nz)
                refine' dtext_body (vs := vs3) (ps := rs) ?yyB ?yyF ?yyX ?yyT ?yyhk ?yyhd ?yyhu Nz (.tail _ (.tail _ g8)) (g4.mono fun q hq => .tail _ (.tail _ hq)) hfc.2.1 (by omega) ?yyq
                case yyB => k_asm
                case yyF => k_asm
                case yyX => k_asm
                case yyT => k_asm
                case yyhk => exact rfl
                case yyhd => ktr_room
                case yyhu => ktr_units
                case yyq =>
                  intro X5 tX5 xs5 h5 tk5 hxs5 hX5 F5 N5
                  obtain ⟨tk0, ks5, e5, hS5, hD5, hl5, hl6⟩ := text_reads hxs5 hfc.2.1 hfc.1 X5 hX5
                  have hX6 : X5.length ≤ 20000 := by omega
                  clear Fz Nz hX5 hxs5
                  k_steps
                  refine Mine.Stop.mk ?_
                  (with_reducible rename Fr _ _ _ _ => Fz)
                  (with_reducible rename News _ _ _ _ => Nz)
                  refine' reader_new (b := true) (tk0 := tk0) (ks := ks5) ?yyB ?yyF ?yyX ?yyT ?yyhk ?yyhd ?yyhu Nz hX6 hS5 ?yyq
                  case yyB => k_asm
                  case yyF => k_asm
                  case yyX => k_asm
                  case yyT => k_asm
                  case yyhk => exact rfl
                  case yyhd => ktr_room
                  case yyhu => ktr_units
                  case yyq =>
                    intro rd6 dr6 eh6 sc6 dxs6 ah6 o6' ka6 kb6 ta6 tb6 tks6 h6' tk6' kf6 b1 b2 b3 b4 b5 b6 b7 b8 F6 N6
                    clear Fz Nz
                    have b5' : @LT.lt Nat _ dr6 rd6 := b5
                    have b6' : @LT.lt Nat _ rd6 dxs6 := b6
                    have b7' : @LT.lt Nat _ dxs6 sc6 := b7
                    have b8' : @LT.lt Nat _ sc6 ah6 := b8
                    have hT6 := hS5.tokL
                    have v1 : ∀ q ∈ (dr, rdD eh sc td3) :: (dxs, scD ka kb ta tb X7 tX (kf3 : Int) tk3) :: tl3, q.1 ≠ dr6 := fun q hq => Nat.ne_of_lt (b4 q hq)
                    have v2 : ∀ q ∈ (dr, rdD eh sc td3) :: (dxs, scD ka kb ta tb X7 tX (kf3 : Int) tk3) :: tl3, q.1 ≠ dxs6 := fun q hq => Nat.ne_of_lt (Nat.lt_trans (b4 q hq) (Nat.lt_trans b5' b6'))
                    have w1 := off_cons (a := rd6) (o := instObj 446 dr6) (Nat.ne_of_gt b5') (off_cons (a := sc6) (o := instObj 285 dxs6) (show @Ne Nat sc6 dr6 by omega) (off_cons (a := ah6) (o := o6') (show @Ne Nat ah6 dr6 by omega) v1))
                    have w2 := off_cons (a := rd6) (o := instObj 446 dr6) (show @Ne Nat rd6 dxs6 by omega) (off_cons (a := sc6) (o := instObj 285 dxs6) (show @Ne Nat sc6 dxs6 by omega) (off_cons (a := ah6) (o := o6') (show @Ne Nat ah6 dxs6 by omega) v2))
                    have hdx6 : @Ne Nat dr6 dxs6 := by omega
                    clear b4 b5 b6 b7 b8
                    k_steps
                    refine Mine.Stop.mk ?_
                    (with_reducible rename Fr _ _ _ _ => Fz)
                    (with_reducible rename News _ _ _ _ => Nz)
                    (try dsimp only [List.append_nil, List.cons_append, List.nil_append])
                    refine' domain_C (rest := (rd6, instObj 446 dr6) :: (sc6, instObj 285 dxs6) :: (ah6, o6') :: (dr, rdD eh sc td3) :: (dxs, scD ka kb ta tb X7 tX (kf3 : Int) tk3) :: tl3) ?yyB ?yyF ?yyX ?yyT ?yyhk ?yyhd ?yyhu Nz (.head _) (.tail _ (.head _)) (.tail _ (.tail _ (.head _))) w1 w2 hdx6 b1 (by omega) b3 hX6 b2 hT6 ?yyhe ?yyhq
                    case yyB => k_asm
                    case yyF => k_asm
                    case yyX => k_asm
                    case yyT => k_asm
                    case yyhk => exact rfl
                    case yyhd => ktr_room
                    case yyhu => ktr_units
                    case yyhe =>
                      intro pe hpe
                      cases hpe.uniq hD5
                    case yyhq =>
                      intro rs8 q8 r8 hd8 hT8 D8 vs8 tl8 td8 o8' tk8 h8' tk8' kf8' i1 i2' i3' i4' i5' i6' i7' i8' i9' F8' N8'
                      cases hd8.uniq hD5
                      have x1 : ∀ x ∈ tl3, x ∈ tl8 := fun x hx => i5' x (.tail _ (.tail _ (.tail _ (.tail _ (.tail _ hx)))))
                      have x2 := i5' _ (.tail _ (.tail _ (.tail _ (.head _))))
                      have x3 := i5' _ (.tail _ (.tail _ (.tail _ (.tail _ (.head _)))))
                      have x4 := x1 _ u7
                      have x5 := u8.mono x1
                      clear u8 g4 Fz Nz
                      k_steps
                      (with_reducible rename Fr _ _ _ _ => Fz)
                      (with_reducible rename News _ _ _ _ => Nz)
                      have hlt := hfc.2.2.2
                      simp only [List.length_cons] at hlt
                      exact lawl_end Fz Nz (.tail _ (.tail _ (x1 _ (g5 _ k4)))) hcI (.tail _ (.tail _ x2)) (.tail _ (.tail _ x3)) (fun x hx => .tail _ (.tail _ (x1 x hx))) (g5 _ k4) (g5 _ k1) (g5 _ k2) g9 g1 g2 hT3 s1 g3 (g5 _ k5) (k6.mono g5) g6 g7 (by simp only [List.length_cons]; omega) rfl rfl rfl
theorem PySem.Challenge.cw_qd0022_01_holds : PySem.Challenge.rw_qd0022_01.Holds :=
  Mine.fin
end
