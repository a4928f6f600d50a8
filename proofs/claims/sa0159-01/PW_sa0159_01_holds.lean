import PyProof.Rows.All
import Wide.All
import OpenK.AllK
import Wide.FinOn
import PySem.Challenge.RW_sa0159_01
open PySem PySem.W PyProof.Rows
set_option Elab.async false
set_option maxRecDepth 100000
noncomputable def Mine.main.tw7439787175107056256 : Nat := 0
noncomputable def Mine.main.tw12608185968620612914 : Nat := 0
noncomputable def Mine.main.tw7221758910455160077 : Nat := 0
noncomputable def Mine.main.tw6907636171062424033 : Nat := 0
noncomputable def Mine.main.tw18165044119631177899 : Nat := 0
noncomputable def Mine.main.tw4226513329182823232 : Nat := 0
noncomputable def Mine.main.tw10450603732522932521 : Nat := 0
noncomputable def Mine.main.tw6511744376749373798 : Nat := 0
noncomputable def Mine.main.tw2406621943657119228 : Nat := 0
noncomputable def Mine.main.tw13972245371655741198 : Nat := 0
noncomputable def Mine.main.tw16102231251864390963 : Nat := 0
noncomputable def Mine.main.tw5378808338967829844 : Nat := 0
noncomputable def Mine.main.tw14027531716089632829 : Nat := 0
noncomputable def Mine.main.tw9268297945177815525 : Nat := 0
noncomputable def Mine.main.tw12748397558918655664 : Nat := 0
noncomputable def Mine.main.tw2895952525429962455 : Nat := 0
noncomputable def Mine.main.tw10896356407431480244 : Nat := 0
noncomputable def Mine.main.tw11785714552879321826 : Nat := 0
noncomputable def Mine.main.tw15387884906608193903 : Nat := 0
noncomputable def Mine.main.tw6967917439294357183 : Nat := 0
noncomputable def Mine.main.tw5781596087445459943 : Nat := 0
noncomputable def Mine.main.tw223528310411579522 : Nat := 0
noncomputable def Mine.main.tw15303317825217679618 : Nat := 0
noncomputable def Mine.main.tw5585478044538960755 : Nat := 0
noncomputable def Mine.main.tw15955573374722617477 : Nat := 0
noncomputable def Mine.main.tw11692516046256081784 : Nat := 0
noncomputable def Mine.main.tw10334261112615635914 : Nat := 0
noncomputable def Mine.main.tw7332552209862256014 : Nat := 0
noncomputable def Mine.main.tw2402762420636078793 : Nat := 0
noncomputable def Mine.main.tw15806524323241146399 : Nat := 0
noncomputable def Mine.main.tw11156056980113079860 : Nat := 0
noncomputable def Mine.main.tw2821470743931037460 : Nat := 0
noncomputable def Mine.main.tw16778611742570070204 : Nat := 0
noncomputable def Mine.main.tw11101190512080308003 : Nat := 0
noncomputable def Mine.main.tw4637267157515435788 : Nat := 0
noncomputable def Mine.main.tw11273777480241942364 : Nat := 0
noncomputable def Mine.main.tw6788530277367551627 : Nat := 0
noncomputable def Mine.main.tw1142173933681417890 : Nat := 0
noncomputable def Mine.main.tw16022572192331126682 : Nat := 0
noncomputable def Mine.main.tw1632041292262086317 : Nat := 0
noncomputable def Mine.main.tw11218778669853930896 : Nat := 0
noncomputable def Mine.main.tw13219505800766818778 : Nat := 0
noncomputable def Mine.main.tw9265829497004654079 : Nat := 0
noncomputable def Mine.main.tw10092017014551392330 : Nat := 0
noncomputable def Mine.main.tw451873465583785326 : Nat := 0
noncomputable def Mine.main.tw6801380410627298636 : Nat := 0
noncomputable def Mine.main.tw14539993770535171780 : Nat := 0
noncomputable def Mine.main.tw13110970153573199417 : Nat := 0
noncomputable def Mine.main.tw15485851114877660061 : Nat := 0
noncomputable def Mine.main.tw16046730324260685337 : Nat := 0
noncomputable def Mine.main.tw12450111651097656602 : Nat := 0
noncomputable def Mine.main.tw17297283025540448806 : Nat := 0
noncomputable def Mine.main.tw5084117380071580128 : Nat := 0
noncomputable def Mine.main.tw11409991511011244131 : Nat := 0
noncomputable def Mine.main.tw7093617532817203218 : Nat := 0
noncomputable def Mine.main.tw15852131098959596157 : Nat := 0
noncomputable def Mine.main.tw17644181745481072423 : Nat := 0
noncomputable def Mine.main.tw3394367416137920725 : Nat := 0
noncomputable def Mine.main.tw6655696309031964122 : Nat := 0
noncomputable def Mine.main.tw1150287232629052791 : Nat := 0
noncomputable def Mine.main.tw15580989882048331800 : Nat := 0
noncomputable def Mine.main.tw17052023290607921161 : Nat := 0
noncomputable def Mine.main.tw5571399437266216444 : Nat := 0
noncomputable def Mine.main.tw4365514962571936147 : Nat := 0
noncomputable def Mine.main.tw4330594992337426955 : Nat := 0
noncomputable def Mine.main.tw8046773169563483271 : Nat := 0
noncomputable def Mine.main.tw4261964983698606537 : Nat := 0
noncomputable def Mine.main.tw14457758005677747962 : Nat := 0
noncomputable def Mine.main.tw17561526911342447988 : Nat := 0
noncomputable def Mine.main.tw15984706205718930553 : Nat := 0
noncomputable def Mine.main.tw2852251193174398662 : Nat := 0
noncomputable def Mine.main.tw13989496423458381343 : Nat := 0
noncomputable def Mine.main.tw12653679108036650311 : Nat := 0
noncomputable def Mine.main.tw4156125974679941130 : Nat := 0
noncomputable def Mine.main.tw9730157408454304684 : Nat := 0
noncomputable def Mine.main.tw9512817274939609580 : Nat := 0
noncomputable def Mine.main.tw4638281056170512193 : Nat := 0
noncomputable def Mine.main.tw11239335112260394413 : Nat := 0
noncomputable def Mine.main.tw15438212644395081984 : Nat := 0
noncomputable def Mine.main.tw16806246253224384389 : Nat := 0
noncomputable def Mine.main.tw14218914174604095658 : Nat := 0
noncomputable def Mine.main.tw10924716458440934090 : Nat := 0
noncomputable def Mine.main.tw17403364634526059139 : Nat := 0
noncomputable def Mine.main.tw4139100593308808776 : Nat := 0
noncomputable def Mine.main.tw11712898817490728241 : Nat := 0
noncomputable def Mine.main.tw3537573805491383928 : Nat := 0
noncomputable def Mine.main.tw2287757881348798766 : Nat := 0
noncomputable def Mine.main.tw9302470337196694018 : Nat := 0
noncomputable def Mine.main.tw2724176850512262202 : Nat := 0
noncomputable def Mine.main.tw14562738103837258888 : Nat := 0
noncomputable def Mine.main.tw14864641218109852296 : Nat := 0
noncomputable def Mine.main.tw7698036289167662538 : Nat := 0
noncomputable def Mine.main.tw165853693477088600 : Nat := 0
noncomputable def Mine.main.tw4452170602077327944 : Nat := 0
noncomputable def Mine.main.tw5240779543111244032 : Nat := 0
noncomputable def Mine.main.tw12885385263037960081 : Nat := 0
noncomputable def Mine.main.tw11712081513822626495 : Nat := 0
noncomputable def Mine.main.tw6663778134991626487 : Nat := 0
noncomputable def Mine.main.tw1678875084529416142 : Nat := 0
noncomputable def Mine.main.tw10876375607700338302 : Nat := 0
noncomputable def Mine.main.tw11221353774195762014 : Nat := 0
noncomputable def Mine.main.tw9376575566392132001 : Nat := 0
noncomputable def Mine.main.tw3666031411492125599 : Nat := 0
noncomputable def Mine.main.tw13876859957761632879 : Nat := 0
noncomputable def Mine.main.tw2714283472998740243 : Nat := 0
noncomputable def Mine.main.tw9925469786538053656 : Nat := 0
noncomputable def Mine.main.tw18332899500509843999 : Nat := 0
noncomputable def Mine.main.tw10825838108423173272 : Nat := 0
noncomputable def Mine.main.tw16008252555379753968 : Nat := 0
noncomputable def Mine.main.tw5363903885879670357 : Nat := 0
noncomputable def Mine.main.tw2341703837736514645 : Nat := 0
noncomputable def Mine.main.tw16519101796099990279 : Nat := 0
noncomputable def Mine.main.tw4900431672193113347 : Nat := 0
noncomputable def Mine.main.tw9994787619460420439 : Nat := 0
noncomputable def Mine.main.tw9121559901702372667 : Nat := 0
noncomputable def Mine.main.tw13110577991587790113 : Nat := 0
noncomputable def Mine.main.tw10821422270917381399 : Nat := 0
noncomputable def Mine.main.tw12431561837914552411 : Nat := 0
noncomputable def Mine.main.tw6161133996638707016 : Nat := 0
noncomputable def Mine.main.tw7113585516715319716 : Nat := 0
noncomputable def Mine.main.tw10707853282979444102 : Nat := 0
noncomputable def Mine.main.tw4775608329324902142 : Nat := 0
noncomputable def Mine.main.tw15136431859952498927 : Nat := 0
noncomputable def Mine.main.tw16218864148678617972 : Nat := 0
noncomputable def Mine.main.tw1429040668314091153 : Nat := 0
noncomputable def Mine.main.tw11716418206903941319 : Nat := 0
noncomputable def Mine.main.tw1714950047550659301 : Nat := 0
noncomputable def Mine.main.tw12732289081945773324 : Nat := 0
noncomputable def Mine.main.tw16826212616301561204 : Nat := 0
noncomputable def Mine.main.tw13980345723018547825 : Nat := 0
noncomputable def Mine.main.tw1270039299266317192 : Nat := 0
noncomputable def Mine.main.tw13348322127785295214 : Nat := 0
noncomputable def Mine.main.tw4038153913678941442 : Nat := 0
noncomputable def Mine.main.tw17118054049896295152 : Nat := 0
noncomputable def Mine.main.tw12747388180105724736 : Nat := 0
noncomputable def Mine.main.tw17272174723667511238 : Nat := 0
noncomputable def Mine.main.tw4500915450034043215 : Nat := 0
noncomputable def Mine.main.tw14907226015203709474 : Nat := 0
noncomputable def Mine.main.tw16629339528299215175 : Nat := 0
noncomputable def Mine.main.tw1118068078248606362 : Nat := 0
noncomputable def Mine.main.tw8546124895413445307 : Nat := 0
noncomputable def Mine.main.tw14064073609400967072 : Nat := 0
noncomputable def Mine.main.tw17737603089517620647 : Nat := 0
noncomputable def Mine.main.tw892681787802806017 : Nat := 0
noncomputable def Mine.main.tw17147588175821073265 : Nat := 0
noncomputable def Mine.main.tw7943094425149488825 : Nat := 0
noncomputable def Mine.main.tw15062679425460387418 : Nat := 0
noncomputable def Mine.main.tw10204856939554784155 : Nat := 0
noncomputable def Mine.main.tw7514964652732493775 : Nat := 0
noncomputable def Mine.main.tw14364048958407549093 : Nat := 0
noncomputable def Mine.main.tw16669030903016767061 : Nat := 0
noncomputable def Mine.main.tw8809968196449919288 : Nat := 0
noncomputable def Mine.main.tw6886502059237256666 : Nat := 0
noncomputable def Mine.main.tw11857135199678951331 : Nat := 0
noncomputable def Mine.main.tw16923884221124529275 : Nat := 0
noncomputable def Mine.main.tw15467891735981029475 : Nat := 0
noncomputable def Mine.main.tw18302796317244248524 : Nat := 0
noncomputable def Mine.main.tw10455743928339290457 : Nat := 0
noncomputable def Mine.main.tw2496676261509829067 : Nat := 0
noncomputable def Mine.main.tw6519269512792494810 : Nat := 0
noncomputable def Mine.main.tw4324958949535026087 : Nat := 0
noncomputable def Mine.main.tw10123989817122485451 : Nat := 0
noncomputable def Mine.main.tw16641786646906312760 : Nat := 0
noncomputable def Mine.main.tw17898397415228311642 : Nat := 0
noncomputable def Mine.main.tw3583811862363856187 : Nat := 0
noncomputable def Mine.main.tw9369988214560726041 : Nat := 0
noncomputable def Mine.main.tw4749052000479324790 : Nat := 0
noncomputable def Mine.main.tw1454224541498743561 : Nat := 0
noncomputable def Mine.main.tw104360540948158410 : Nat := 0
noncomputable def Mine.main.tw18287795668848337631 : Nat := 0
noncomputable def Mine.main.tw6237627108579964202 : Nat := 0
noncomputable def Mine.main.tw1615956725737779560 : Nat := 0
noncomputable def Mine.main.tw2900998541784483753 : Nat := 0
noncomputable def Mine.main.tw17298425922696826006 : Nat := 0
noncomputable def Mine.main.tw6162249291895867263 : Nat := 0
noncomputable def Mine.main.tw1677766988990989824 : Nat := 0
noncomputable def Mine.main.tw7904437144335635152 : Nat := 0
noncomputable def Mine.main.tw8079908401900000222 : Nat := 0
noncomputable def Mine.main.tw12800608258095302798 : Nat := 0
noncomputable def Mine.main.tw9897820754763898449 : Nat := 0
noncomputable def Mine.main.tw12590340796369385619 : Nat := 0
noncomputable def Mine.main.tw15350898050860989542 : Nat := 0
noncomputable def Mine.main.tw17958375852430007124 : Nat := 0
noncomputable def Mine.main.tw4310270188432123100 : Nat := 0
noncomputable def Mine.main.tw8663697691656813868 : Nat := 0
noncomputable def Mine.main.tw11735423636902730196 : Nat := 0
noncomputable def Mine.main.tw15558288988949320067 : Nat := 0
noncomputable def Mine.main.tw10864377008497418100 : Nat := 0
noncomputable def Mine.main.tw7298748307773712898 : Nat := 0
noncomputable def Mine.main.tw12455012482086183272 : Nat := 0
noncomputable def Mine.main.tw11403851563620829512 : Nat := 0
noncomputable def Mine.main.tw12361340156312767134 : Nat := 0
noncomputable def Mine.main.tw10234815189450012239 : Nat := 0
noncomputable def Mine.main.tw15734660467963936456 : Nat := 0
noncomputable def Mine.main.tw7264962496230821589 : Nat := 0
noncomputable def Mine.main.tw18134284020713443437 : Nat := 0
noncomputable def Mine.main.tw3464709057266567092 : Nat := 0
noncomputable def Mine.main.tw2906824675625879941 : Nat := 0
noncomputable def Mine.main.tw13724616953566380437 : Nat := 0
noncomputable def Mine.main.tw17091655785135471103 : Nat := 0
noncomputable def Mine.main.tw8478376212529829071 : Nat := 0
noncomputable def Mine.main.tw11086099901593105684 : Nat := 0
noncomputable def Mine.main.tw11476092923266045095 : Nat := 0
noncomputable def Mine.main.tw17353955331779342651 : Nat := 0
noncomputable def Mine.main.tw6541472054586571296 : Nat := 0
noncomputable def Mine.main.tw5102693214775723256 : Nat := 0
noncomputable def Mine.main.tw16572128252103988241 : Nat := 0
noncomputable def Mine.main.tw9840939614602229412 : Nat := 0
noncomputable def Mine.main.tw5797031442667253490 : Nat := 0
noncomputable def Mine.main.tw16135426469972691074 : Nat := 0
noncomputable def Mine.main.tw3829396358689915599 : Nat := 0
noncomputable def Mine.main.tw18190005008629794160 : Nat := 0
noncomputable def Mine.main.tw3314904115985164895 : Nat := 0
noncomputable def Mine.main.tw9155575984036265788 : Nat := 0
noncomputable def Mine.main.tw14859100970857779836 : Nat := 0
noncomputable def Mine.main.tw7590696779544312186 : Nat := 0
noncomputable def Mine.main.tw15270170921892066516 : Nat := 0
noncomputable def Mine.main.tw17057053908230417247 : Nat := 0
noncomputable def Mine.main.tw15595112118272840620 : Nat := 0
noncomputable def Mine.main.tw65644731488775911 : Nat := 0
noncomputable def Mine.main.tw5995161000843957690 : Nat := 0
noncomputable def Mine.main.tw10642606787283503386 : Nat := 0
noncomputable def Mine.main.tw4126091431370883743 : Nat := 0
noncomputable def Mine.main.tw17268439761433841065 : Nat := 0
noncomputable def Mine.main.tw9903775340124721222 : Nat := 0
noncomputable def Mine.main.tw18063282731904131703 : Nat := 0
noncomputable def Mine.main.tw16320729459185622934 : Nat := 0
noncomputable def Mine.main.tw7308723440029596264 : Nat := 0
noncomputable def Mine.main.tw14759895335926876869 : Nat := 0
noncomputable def Mine.main.tw3706830351922483016 : Nat := 0
noncomputable def Mine.main.tw14080665800827857628 : Nat := 0
noncomputable def Mine.main.tw17871620999419790863 : Nat := 0
noncomputable def Mine.main.tw6696893160125735727 : Nat := 0
noncomputable def Mine.main.tw4026956272090484662 : Nat := 0
noncomputable def Mine.main.tw11544348965984651327 : Nat := 0
noncomputable def Mine.main.tw17695171507069755227 : Nat := 0
noncomputable def Mine.main.tw14161005256144132680 : Nat := 0
noncomputable def Mine.main.tw365850788961202214 : Nat := 0
noncomputable def Mine.main.tw16136984950599521427 : Nat := 0
noncomputable def Mine.main.tw3748114642381145586 : Nat := 0
noncomputable def Mine.main.tw1587290215689348708 : Nat := 0
noncomputable def Mine.main.tw11020365191643786025 : Nat := 0
noncomputable def Mine.main.tw8228058824784995430 : Nat := 0
noncomputable def Mine.main.tw5790326737455844299 : Nat := 0
noncomputable def Mine.main.tw14453242576700089495 : Nat := 0
noncomputable def Mine.main.tw14035828253484925225 : Nat := 0
noncomputable def Mine.main.tw1439166485080882 : Nat := 0
noncomputable def Mine.main.tw13547569757486424058 : Nat := 0
noncomputable def Mine.main.tw1469836325065767749 : Nat := 0
noncomputable def Mine.main.tw1319676515408343850 : Nat := 0
noncomputable def Mine.main.tw14504180641510445567 : Nat := 0
noncomputable def Mine.main.tw6697339332421208802 : Nat := 0
noncomputable def Mine.main.tw14798791472264738832 : Nat := 0
noncomputable def Mine.main.tw10663580350406149668 : Nat := 0
noncomputable def Mine.main.tw1496695287857109588 : Nat := 0
noncomputable def Mine.main.tw12222963475772708484 : Nat := 0
noncomputable def Mine.main.tw16008457594558532635 : Nat := 0
noncomputable def Mine.main.tw73751810991705359 : Nat := 0
noncomputable def Mine.main.tw10625486282989778954 : Nat := 0
noncomputable def Mine.main.tw15737690656516749961 : Nat := 0
noncomputable def Mine.main.tw1409966394225722968 : Nat := 0
noncomputable def Mine.main.tw15017983477296125989 : Nat := 0
noncomputable def Mine.main.tw6183352029847204284 : Nat := 0
noncomputable def Mine.main.tw9964214247947446159 : Nat := 0
noncomputable def Mine.main.tw7186131708394509389 : Nat := 0
noncomputable def Mine.main.tw13465503431842376007 : Nat := 0
noncomputable def Mine.main.tw12941917028564957548 : Nat := 0
noncomputable def Mine.main.tw7235775444256392728 : Nat := 0
noncomputable def Mine.main.tw12543713266681445118 : Nat := 0
noncomputable def Mine.main.tw13693970394777133609 : Nat := 0
noncomputable def Mine.main.tw341453280667917650 : Nat := 0
noncomputable def Mine.main.tw10813080517026676716 : Nat := 0
noncomputable def Mine.main.tw31828345220925962 : Nat := 0
noncomputable def Mine.main.tw6674386428176565332 : Nat := 0
noncomputable def Mine.main.tw13077236301305049449 : Nat := 0
noncomputable def Mine.main.tw33456957511925785 : Nat := 0
noncomputable def Mine.main.tw17292155258170135553 : Nat := 0
noncomputable def Mine.main.tw5623159541915647742 : Nat := 0
noncomputable def Mine.main.tw15356762974548107741 : Nat := 0
noncomputable def Mine.main.tw18344032359734412310 : Nat := 0
noncomputable def Mine.main.tw3627144658338631552 : Nat := 0
noncomputable def Mine.main.tw15803610866087392283 : Nat := 0
noncomputable def Mine.main.tw1156462466702112376 : Nat := 0
noncomputable def Mine.main.tw16085485703022809375 : Nat := 0
noncomputable def Mine.main.tw11135027115929721415 : Nat := 0
noncomputable def Mine.main.tw4458048076830672230 : Nat := 0
noncomputable def Mine.main.tw15608450976537380609 : Nat := 0
noncomputable def Mine.main.tw4544244032028310869 : Nat := 0
noncomputable def Mine.main.tw18218335207050127959 : Nat := 0
noncomputable def Mine.main.tw13355152605343272895 : Nat := 0
noncomputable def Mine.main.tw4297412468100583042 : Nat := 0
noncomputable def Mine.main.tw6981815665589151136 : Nat := 0
noncomputable def Mine.main.tw12702744160499308131 : Nat := 0
noncomputable def Mine.main.tw1306636233014830658 : Nat := 0
noncomputable def Mine.main.tw5287059835090251167 : Nat := 0
noncomputable def Mine.main.tw3466206800631347469 : Nat := 0
noncomputable def Mine.main.tw6334894449686545209 : Nat := 0
noncomputable def Mine.main.tw9573086628692744296 : Nat := 0
noncomputable def Mine.main.tw5203219222101121401 : Nat := 0
noncomputable def Mine.main.tw2195194259037543316 : Nat := 0
noncomputable def Mine.main.tw7699798408344515789 : Nat := 0
noncomputable def Mine.main.tw3045742163950154196 : Nat := 0
noncomputable def Mine.main.tw5677329702179833609 : Nat := 0
noncomputable def Mine.main.tw12909650291622432550 : Nat := 0
noncomputable def Mine.main.tw15919795152768357679 : Nat := 0
noncomputable def Mine.main.tw11554813239044494598 : Nat := 0
noncomputable def Mine.main.tw10231336680788121439 : Nat := 0
noncomputable def Mine.main.tw221909299271738847 : Nat := 0
noncomputable def Mine.main.tw16035907590883218939 : Nat := 0
noncomputable def Mine.main.tw2279707942289718827 : Nat := 0
noncomputable def Mine.main.tw15624239662980076321 : Nat := 0
noncomputable def Mine.main.tw453184122279072053 : Nat := 0
noncomputable def Mine.main.tw11987853993630220354 : Nat := 0
noncomputable def Mine.main.tw12027323910402764344 : Nat := 0
noncomputable def Mine.main.tw11461230924637031220 : Nat := 0
noncomputable def Mine.main.tw2583023086579268501 : Nat := 0
noncomputable def Mine.main.tw5450094653865882931 : Nat := 0
noncomputable def Mine.main.tw9563168847844234846 : Nat := 0
noncomputable def Mine.main.tw10877679251791092727 : Nat := 0
noncomputable def Mine.main.tw6674893403203295414 : Nat := 0
noncomputable def Mine.main.tw16918421574145999392 : Nat := 0
noncomputable def Mine.main.tw10114013102757674387 : Nat := 0
noncomputable def Mine.main.tw962032349192862916 : Nat := 0
noncomputable def Mine.main.tw12992176717851604617 : Nat := 0
noncomputable def Mine.main.tw16305672181175384284 : Nat := 0
noncomputable def Mine.main.tw17450470499104002142 : Nat := 0
noncomputable def Mine.main.tw8260724100714396741 : Nat := 0
noncomputable def Mine.main.tw7332330508316399935 : Nat := 0
noncomputable def Mine.main.tw18178676814319149831 : Nat := 0
noncomputable def Mine.main.tw12885673836220544336 : Nat := 0
noncomputable def Mine.main.tw917386388269078853 : Nat := 0
noncomputable def Mine.main.tw3370190323706015969 : Nat := 0
noncomputable def Mine.main.tw3067759450344833359 : Nat := 0
noncomputable def Mine.main.tw15131278010643852716 : Nat := 0
noncomputable def Mine.main.tw17708487481403421675 : Nat := 0
noncomputable def Mine.main.tw12872379398031375081 : Nat := 0
noncomputable def Mine.main.tw796168687070700412 : Nat := 0
noncomputable def Mine.main.tw12839114828313443825 : Nat := 0
noncomputable def Mine.main.tw9976160756891316704 : Nat := 0
noncomputable def Mine.main.tw3613476055612923068 : Nat := 0
noncomputable def Mine.main.tw1826329307503635854 : Nat := 0
noncomputable def Mine.main.tw12518504611687188807 : Nat := 0
noncomputable def Mine.main.tw11512346688695435671 : Nat := 0
noncomputable def Mine.main.tw8127475511531132179 : Nat := 0
noncomputable def Mine.main.tw13227692790652741651 : Nat := 0
noncomputable def Mine.main.tw7751025194823839400 : Nat := 0
noncomputable def Mine.main.tw6044114016751833949 : Nat := 0
noncomputable def Mine.main.tw8466321980469482115 : Nat := 0
noncomputable def Mine.main.tw2759098988195820126 : Nat := 0
noncomputable def Mine.main.tw2225956059507018244 : Nat := 0
noncomputable def Mine.main.tw10140136200207757160 : Nat := 0
noncomputable def Mine.main.tw10665469846841522134 : Nat := 0
noncomputable def Mine.main.tw8436210846270712021 : Nat := 0
noncomputable def Mine.main.tw18385570937342765463 : Nat := 0
noncomputable def Mine.main.tw11501822485730972192 : Nat := 0
noncomputable def Mine.main.tw14666387041718499266 : Nat := 0
noncomputable def Mine.main.tw12431731261707249289 : Nat := 0
noncomputable def Mine.main.tw13503263706703578961 : Nat := 0
noncomputable def Mine.main.tw6545385358150927430 : Nat := 0
noncomputable def Mine.main.tw4990475226369331113 : Nat := 0
noncomputable def Mine.main.tw4650958065196391918 : Nat := 0
noncomputable def Mine.main.tw10750994468655217958 : Nat := 0
noncomputable def Mine.main.tw7647378279178456250 : Nat := 0
noncomputable def Mine.main.tw16411370214107742406 : Nat := 0
noncomputable def Mine.main.tw13838900630717943254 : Nat := 0
noncomputable def Mine.main.tw14635473669698735251 : Nat := 0
noncomputable def Mine.main.tw4651154628705390771 : Nat := 0
noncomputable def Mine.main.tw9368617206455126095 : Nat := 0
noncomputable def Mine.main.tw9381277316556691805 : Nat := 0
noncomputable def Mine.main.tw10363585996791799541 : Nat := 0
noncomputable def Mine.main.tw7411558596216406370 : Nat := 0
noncomputable def Mine.main.tw7846812961960373227 : Nat := 0
noncomputable def Mine.main.tw7293298908176781663 : Nat := 0
noncomputable def Mine.main.tw9682133043923132273 : Nat := 0
noncomputable def Mine.main.tw11181722664286889309 : Nat := 0
noncomputable def Mine.main.tw11646826074482590764 : Nat := 0
noncomputable def Mine.main.tw833945537157984683 : Nat := 0
noncomputable def Mine.main.tw1289389943133740499 : Nat := 0
noncomputable def Mine.main.tw3298483428156984901 : Nat := 0
noncomputable def Mine.main.tw6389877041954997217 : Nat := 0
noncomputable def Mine.main.tw6379557931619253226 : Nat := 0
noncomputable def Mine.main.tw17510229520200029679 : Nat := 0
noncomputable def Mine.main.tw11752208632293872130 : Nat := 0
noncomputable def Mine.main.tw14060465935940456498 : Nat := 0
noncomputable def Mine.main.tw17679725944135375923 : Nat := 0
noncomputable def Mine.main.tw2173562974560187446 : Nat := 0
noncomputable def Mine.main.tw6596593509180878263 : Nat := 0
noncomputable def Mine.main.tw16544489699163171333 : Nat := 0
noncomputable def Mine.main.tw18284262389922463811 : Nat := 0
noncomputable def Mine.main.tw3532412968194664532 : Nat := 0
noncomputable def Mine.main.tw15303164436587260424 : Nat := 0
noncomputable def Mine.main.tw2238316416991798583 : Nat := 0
noncomputable def Mine.main.tw4812270449578504274 : Nat := 0
noncomputable def Mine.main.tw11962923498438245051 : Nat := 0
noncomputable def Mine.main.tw8467378866343419333 : Nat := 0
noncomputable def Mine.main.tw8265370782698574782 : Nat := 0
noncomputable def Mine.main.tw11399646045708457374 : Nat := 0
noncomputable def Mine.main.tw17402982504261768225 : Nat := 0
noncomputable def Mine.main.tw2629084897520917108 : Nat := 0
noncomputable def Mine.main.tw4413345314126155841 : Nat := 0
noncomputable def Mine.main.tw6053611964639427726 : Nat := 0
noncomputable def Mine.main.tw7153082081811710619 : Nat := 0
noncomputable def Mine.main.tw8729708805864041840 : Nat := 0
noncomputable def Mine.main.tw12273490649430754879 : Nat := 0
noncomputable def Mine.main.tw1092785777240315536 : Nat := 0
noncomputable def Mine.main.tw452746233719593009 : Nat := 0
noncomputable def Mine.main.tw2075378649607365068 : Nat := 0
noncomputable def Mine.main.tw5473700226181020891 : Nat := 0
noncomputable def Mine.main.tw16356685582667847594 : Nat := 0
noncomputable def Mine.main.tw164706428910352784 : Nat := 0
noncomputable def Mine.main.tw13707940170689118305 : Nat := 0
noncomputable def Mine.main.tw8484041278411425421 : Nat := 0
noncomputable def Mine.main.tw12077450504624328385 : Nat := 0
noncomputable def Mine.main.tw6508729118710982530 : Nat := 0
noncomputable def Mine.main.tw3779293765908593550 : Nat := 0
noncomputable def Mine.main.tw14235155234550121937 : Nat := 0
noncomputable def Mine.main.tw15277975159832343749 : Nat := 0
noncomputable def Mine.main.tw11252104320989717788 : Nat := 0
noncomputable def Mine.main.tw716429049611869786 : Nat := 0
noncomputable def Mine.main.tw6542085627976250192 : Nat := 0
noncomputable def Mine.main.tw14492832472218066102 : Nat := 0
noncomputable def Mine.main.tw4039676971129161736 : Nat := 0
noncomputable def Mine.main.tw8118072479153026202 : Nat := 0
noncomputable def Mine.main.tw17236958762192778904 : Nat := 0
noncomputable def Mine.main.tw13626721169425172152 : Nat := 0
noncomputable def Mine.main.tw9957550378297406723 : Nat := 0
noncomputable def Mine.main.tw16026485685270457870 : Nat := 0
noncomputable def Mine.main.tw16689149305811164139 : Nat := 0
noncomputable def Mine.main.tw2647654807098235363 : Nat := 0
noncomputable def Mine.main.tw2456247091588846565 : Nat := 0
noncomputable def Mine.main.tw11001617756164336837 : Nat := 0
noncomputable def Mine.main.tw7214478077546791972 : Nat := 0
noncomputable def Mine.main.tw5127751686995613262 : Nat := 0
noncomputable def Mine.main.tw11410963132546700228 : Nat := 0
noncomputable def Mine.main.tw11388154006635350966 : Nat := 0
noncomputable def Mine.main.tw1519927702969063271 : Nat := 0
noncomputable def Mine.main.tw13132915859168520264 : Nat := 0
noncomputable def Mine.main.tw14061640607465278742 : Nat := 0
noncomputable def Mine.main.tw4475767826048309731 : Nat := 0
noncomputable def Mine.main.tw10665089971535097683 : Nat := 0
noncomputable def Mine.main.tw16950194794029067938 : Nat := 0
noncomputable def Mine.main.tw750237026923860459 : Nat := 0
noncomputable def Mine.main.tw1372806426800153423 : Nat := 0
noncomputable def Mine.main.tw11982392923317675503 : Nat := 0
noncomputable def Mine.main.tw13962693860625380366 : Nat := 0
noncomputable def Mine.main.tw10953687544409504101 : Nat := 0
noncomputable def Mine.main.tw4333880214566435006 : Nat := 0
noncomputable def Mine.main.tw9190990891756207365 : Nat := 0
noncomputable def Mine.main.tw18418235949754561950 : Nat := 0
noncomputable def Mine.main.tw387501639795913443 : Nat := 0
noncomputable def Mine.main.tw13293747886898857621 : Nat := 0
noncomputable def Mine.main.tw3960113756560652017 : Nat := 0
noncomputable def Mine.main.tw7623511443260959870 : Nat := 0
noncomputable def Mine.main.tw10391951854915411234 : Nat := 0
noncomputable def Mine.main.tw4817600198373253283 : Nat := 0
noncomputable def Mine.main.tw10047389527955405517 : Nat := 0
noncomputable def Mine.main.tw1850612553970854742 : Nat := 0
noncomputable def Mine.main.tw14216407083858561409 : Nat := 0
noncomputable def Mine.main.tw9808303207383738048 : Nat := 0
noncomputable def Mine.main.tw11710404883906591787 : Nat := 0
noncomputable def Mine.main.tw14639212616227390028 : Nat := 0
noncomputable def Mine.main.tw3137596982192898869 : Nat := 0
noncomputable def Mine.main.tw18325589031809861271 : Nat := 0
noncomputable def Mine.main.tw4917070330192852093 : Nat := 0
noncomputable def Mine.main.tw12495339312024472815 : Nat := 0
noncomputable def Mine.main.tw16187894506366716058 : Nat := 0
noncomputable def Mine.main.tw6862492499505807319 : Nat := 0
noncomputable def Mine.main.tw5400957986263281647 : Nat := 0
noncomputable def Mine.main.tw12139096438432415106 : Nat := 0
noncomputable def Mine.main.tw1690570244294969554 : Nat := 0
noncomputable def Mine.main.tw2921621734765799159 : Nat := 0
noncomputable def Mine.main.tw8211959896082780389 : Nat := 0
noncomputable def Mine.main.tw17864028415675338326 : Nat := 0
noncomputable def Mine.main.tw4088224383575840552 : Nat := 0
noncomputable def Mine.main.tw9361300454564663673 : Nat := 0
noncomputable def Mine.main.tw15514936471743626214 : Nat := 0
noncomputable def Mine.main.tw18431692314602308842 : Nat := 0
noncomputable def Mine.main.tw3994622017586750766 : Nat := 0
noncomputable def Mine.main.tw13147555213565576289 : Nat := 0
noncomputable def Mine.main.tw1777545030009416734 : Nat := 0
noncomputable def Mine.main.tw10159738436595150677 : Nat := 0
noncomputable def Mine.main.tw10094358506670053839 : Nat := 0
noncomputable def Mine.main.tw918671981122897330 : Nat := 0
noncomputable def Mine.main.tw12675357926760492328 : Nat := 0
noncomputable def Mine.main.tw2538046985915079169 : Nat := 0
noncomputable def Mine.main.tw17767330081159143506 : Nat := 0
noncomputable def Mine.main.tw7165207203227711834 : Nat := 0
noncomputable def Mine.main.tw1261021989165538067 : Nat := 0
noncomputable def Mine.main.tw4044139247061151142 : Nat := 0
noncomputable def Mine.main.tw13270728482189477470 : Nat := 0
noncomputable def Mine.main.tw8834365191522931223 : Nat := 0
noncomputable def Mine.main.tw17699438841360665129 : Nat := 0
noncomputable def Mine.main.tw16676564476587882173 : Nat := 0
noncomputable def Mine.main.tw18442785490491869365 : Nat := 0
noncomputable def Mine.main.tw16798622893749714585 : Nat := 0
noncomputable def Mine.main.tw13591255225166038476 : Nat := 0
noncomputable def Mine.main.tw834873547066669988 : Nat := 0
noncomputable def Mine.main.tw16819838333489098493 : Nat := 0
noncomputable def Mine.main.tw52199770228462824 : Nat := 0
noncomputable def Mine.main.tw16251939892948500945 : Nat := 0
noncomputable def Mine.main.tw3867218068155391060 : Nat := 0
noncomputable def Mine.main.tw8652556701797213591 : Nat := 0
noncomputable def Mine.main.tw6385024630547198690 : Nat := 0
noncomputable def Mine.main.tw12780967964696292293 : Nat := 0
noncomputable def Mine.main.tw4681395471914393968 : Nat := 0
noncomputable def Mine.main.tw6557543464795787104 : Nat := 0
noncomputable def Mine.main.tw9942282790977331292 : Nat := 0
noncomputable def Mine.main.tw9360745474812902239 : Nat := 0
noncomputable def Mine.main.tw7742616358663508648 : Nat := 0
noncomputable def Mine.main.tw10999965473173681306 : Nat := 0
noncomputable def Mine.main.tw2433702464844828792 : Nat := 0
noncomputable def Mine.main.tw1099256609624015869 : Nat := 0
noncomputable def Mine.main.tw5871769198996169552 : Nat := 0
noncomputable def Mine.main.tw3796207824708393856 : Nat := 0
noncomputable def Mine.main.tw13803360072150633466 : Nat := 0
noncomputable def Mine.main.tw5061512775090418087 : Nat := 0
noncomputable def Mine.main.tw832900586485598795 : Nat := 0
noncomputable def Mine.main.tw6912675738884088206 : Nat := 0
noncomputable def Mine.main.tw1098248734344127483 : Nat := 0
noncomputable def Mine.main.tw15465920861327815835 : Nat := 0
noncomputable def Mine.main.tw13642826006792871662 : Nat := 0
noncomputable def Mine.main.tw5665406974723832613 : Nat := 0
noncomputable def Mine.main.tw15491723280356408159 : Nat := 0
noncomputable def Mine.main.tw962193829226610041 : Nat := 0
noncomputable def Mine.main.tw16049902774474827687 : Nat := 0
noncomputable def Mine.main.tw11120327062377616369 : Nat := 0
noncomputable def Mine.main.tw8952462522180670554 : Nat := 0
noncomputable def Mine.main.tw13154001654789283132 : Nat := 0
noncomputable def Mine.main.tw4585930131862741453 : Nat := 0
noncomputable def Mine.main.tw7074144079889050967 : Nat := 0
noncomputable def Mine.main.tw1628013610222277130 : Nat := 0
noncomputable def Mine.main.tw13313126695403321540 : Nat := 0
noncomputable def Mine.main.tw13116522157475607773 : Nat := 0
noncomputable def Mine.main.tw8207831470162742035 : Nat := 0
noncomputable def Mine.main.tw14009396871252706886 : Nat := 0
noncomputable def Mine.main.tw16721930046160240684 : Nat := 0
noncomputable def Mine.main.tw5842977544298395883 : Nat := 0
noncomputable def Mine.main.tw12298629886278197574 : Nat := 0
noncomputable def Mine.main.tw17264900360498390715 : Nat := 0
noncomputable def Mine.main.tw9848185148710128376 : Nat := 0
noncomputable def Mine.main.tw656089360051881306 : Nat := 0
noncomputable def Mine.main.tw5517759331935216279 : Nat := 0
noncomputable def Mine.main.tw12900284412222446716 : Nat := 0
noncomputable def Mine.main.tw645136716886899192 : Nat := 0
noncomputable def Mine.main.tw18425317256667529438 : Nat := 0
noncomputable def Mine.main.tw18421580907717582127 : Nat := 0
noncomputable def Mine.main.tw2566753976717531306 : Nat := 0
noncomputable def Mine.main.tw9656510801202774680 : Nat := 0
noncomputable def Mine.main.tw3343439749351644125 : Nat := 0
noncomputable def Mine.main.tw15023316991559800185 : Nat := 0
noncomputable def Mine.main.tw48596604365144762 : Nat := 0
noncomputable def Mine.main.tw6112859857366181021 : Nat := 0
noncomputable def Mine.main.tw14313897822631088780 : Nat := 0
noncomputable def Mine.main.tw10169072693733980587 : Nat := 0
noncomputable def Mine.main.tw1242282695825638017 : Nat := 0
noncomputable def Mine.main.tw16193401482309157537 : Nat := 0
noncomputable def Mine.main.tw12564604832814323664 : Nat := 0
noncomputable def Mine.main.tw18392154025008590481 : Nat := 0
noncomputable def Mine.main.tw13402765919934010277 : Nat := 0
noncomputable def Mine.main.tw2190695567426971638 : Nat := 0
noncomputable def Mine.main.tw16959884160788844718 : Nat := 0
noncomputable def Mine.main.tw11261727412033496967 : Nat := 0
noncomputable def Mine.main.tw18403998269306519403 : Nat := 0
noncomputable def Mine.main.tw14909365282108701170 : Nat := 0
noncomputable def Mine.main.tw13797323745857372409 : Nat := 0
noncomputable def Mine.main.tw3549514262204291990 : Nat := 0
noncomputable def Mine.main.tw161903638078081290 : Nat := 0
noncomputable def Mine.main.tw10044588960856096794 : Nat := 0
noncomputable def Mine.main.tw3234112476842188716 : Nat := 0
noncomputable def Mine.main.tw4060154500167548823 : Nat := 0
noncomputable def Mine.main.tw2702614204127132176 : Nat := 0
noncomputable def Mine.main.tw12093647306153771053 : Nat := 0
noncomputable def Mine.main.tw16480584520131690045 : Nat := 0
noncomputable def Mine.main.tw6788695710022549768 : Nat := 0
noncomputable def Mine.main.tw14439473939278146460 : Nat := 0
noncomputable def Mine.main.tw3934531018447913466 : Nat := 0
noncomputable def Mine.main.tw6639522245352263942 : Nat := 0
noncomputable def Mine.main.tw9756827057097773860 : Nat := 0
noncomputable def Mine.main.tw13148611719377898607 : Nat := 0
noncomputable def Mine.main.tw9681375758050803366 : Nat := 0
noncomputable def Mine.main.tw12057704586751987240 : Nat := 0
noncomputable def Mine.main.tw8930851030842425676 : Nat := 0
noncomputable def Mine.main.tw1027651156746619712 : Nat := 0
noncomputable def Mine.main.tw13350764725976880583 : Nat := 0
noncomputable def Mine.main.tw9392487213469676918 : Nat := 0
noncomputable def Mine.main.tw3626430660855392483 : Nat := 0
noncomputable def Mine.main.tw2744014450722944760 : Nat := 0
noncomputable def Mine.main.tw8475525182357872103 : Nat := 0
noncomputable def Mine.main.tw11531331273489700057 : Nat := 0
noncomputable def Mine.main.tw3848698983108048278 : Nat := 0
noncomputable def Mine.main.tw17977215918569675989 : Nat := 0
noncomputable def Mine.main.tw17290568124846718506 : Nat := 0
noncomputable def Mine.main.tw11487549891475536569 : Nat := 0
noncomputable def Mine.main.tw12670839924663504800 : Nat := 0
noncomputable def Mine.main.tw6877560268529008848 : Nat := 0
noncomputable def Mine.main.tw15410482203810522393 : Nat := 0
noncomputable def Mine.main.tw14662554035588321541 : Nat := 0
noncomputable def Mine.main.tw9561784451562097942 : Nat := 0
noncomputable def Mine.main.tw11251407683458634364 : Nat := 0
noncomputable def Mine.main.tw11349898740250378076 : Nat := 0
noncomputable def Mine.main.tw8905464785575363620 : Nat := 0
noncomputable def Mine.main.tw5831584030425509755 : Nat := 0
noncomputable def Mine.main.tw17477492558424962760 : Nat := 0
noncomputable def Mine.main.tw8947760058931562597 : Nat := 0
noncomputable def Mine.main.tw6880717277089553138 : Nat := 0
noncomputable def Mine.main.tw12252054271945606052 : Nat := 0
noncomputable def Mine.main.tw10199874654664476236 : Nat := 0
noncomputable def Mine.main.tw4189750870438640210 : Nat := 0
noncomputable def Mine.main.tw16922381011570985944 : Nat := 0
noncomputable def Mine.main.tw13113777628852026922 : Nat := 0
noncomputable def Mine.main.tw13260870731297125680 : Nat := 0
noncomputable def Mine.main.tw13995172100960836882 : Nat := 0
noncomputable def Mine.main.tw5665735395497279834 : Nat := 0
noncomputable def Mine.main.tw1178595665728414349 : Nat := 0
noncomputable def Mine.main.tw3160845607165458772 : Nat := 0
noncomputable def Mine.main.tw3864431920445960829 : Nat := 0
noncomputable def Mine.main.tw17201416709059790184 : Nat := 0
noncomputable def Mine.main.tw14106445559736802775 : Nat := 0
noncomputable def Mine.main.tw1054321117371714560 : Nat := 0
noncomputable def Mine.main.tw3557749057250611081 : Nat := 0
noncomputable def Mine.main.tw330327031418712150 : Nat := 0
noncomputable def Mine.main.tw13676971244355772609 : Nat := 0
noncomputable def Mine.main.tw12927740378394474205 : Nat := 0
noncomputable def Mine.main.tw9557352009045844224 : Nat := 0
noncomputable def Mine.main.tw5181119749688162637 : Nat := 0
noncomputable def Mine.main.tw3454311308915712629 : Nat := 0
noncomputable def Mine.main.tw6019089244302038806 : Nat := 0
noncomputable def Mine.main.tw1130211791997205004 : Nat := 0
noncomputable def Mine.main.tw1980160206288974728 : Nat := 0
noncomputable def Mine.main.tw11374851513655246148 : Nat := 0
noncomputable def Mine.main.tw14722489848711283861 : Nat := 0
noncomputable def Mine.main.tw10876229203375891673 : Nat := 0
noncomputable def Mine.main.tw6910295442248876197 : Nat := 0
noncomputable def Mine.main.tw15928290008803537013 : Nat := 0
noncomputable def Mine.main.tw17275675667316583603 : Nat := 0
noncomputable def Mine.main.tw4491334807805099456 : Nat := 0
noncomputable def Mine.main.tw7173623326730630234 : Nat := 0
noncomputable def Mine.main.tw15616401959046598769 : Nat := 0
noncomputable def Mine.main.tw14646587721710459877 : Nat := 0
noncomputable def Mine.main.tw7273056430967151046 : Nat := 0
noncomputable def Mine.main.tw13974046611088194958 : Nat := 0
noncomputable def Mine.main.tw7691172733374981047 : Nat := 0
noncomputable def Mine.main.tw6222487380544312443 : Nat := 0
noncomputable def Mine.main.tw14788915703135433725 : Nat := 0
noncomputable def Mine.main.tw17016820405989369747 : Nat := 0
noncomputable def Mine.main.tw14168887731352723522 : Nat := 0
noncomputable def Mine.main.tw5240536507193477226 : Nat := 0
noncomputable def Mine.main.tw11209054062940278297 : Nat := 0
noncomputable def Mine.main.tw14672674291997333471 : Nat := 0
noncomputable def Mine.main.tw15734200111481486640 : Nat := 0
noncomputable def Mine.main.tw5309058905264134205 : Nat := 0
noncomputable def Mine.main.tw9470667924834194258 : Nat := 0
noncomputable def Mine.main.tw545269030811804461 : Nat := 0
noncomputable def Mine.main.tw5532463470591059822 : Nat := 0
noncomputable def Mine.main.tw13180746182150919023 : Nat := 0
noncomputable def Mine.main.tw6418098437765475518 : Nat := 0
noncomputable def Mine.main.tw9189880136782149556 : Nat := 0
noncomputable def Mine.main.tw4072190877284726289 : Nat := 0
noncomputable def Mine.main.tw3905226178654972811 : Nat := 0
noncomputable def Mine.main.tw6657087868060814 : Nat := 0
noncomputable def Mine.main.tw16952715711813285254 : Nat := 0
noncomputable def Mine.main.tw6660377722381337597 : Nat := 0
noncomputable def Mine.main.tw5234446048077146213 : Nat := 0
noncomputable def Mine.main.tw3299218664060906527 : Nat := 0
noncomputable def Mine.main.tw11774690029378154688 : Nat := 0
noncomputable def Mine.main.tw15745814338397921187 : Nat := 0
noncomputable def Mine.main.tw1236483940969888574 : Nat := 0
noncomputable def Mine.main.tw16320215318167395912 : Nat := 0
noncomputable def Mine.main.tw1390771862084280389 : Nat := 0
noncomputable def Mine.main.tw13157206579259725088 : Nat := 0
namespace Mine

/-! values without addresses for what is never changed -/
inductive PV where
  | none | bool (b : Bool) | int (i : Int) | str (s : Str) | tup (l : List PV) | ref (a : Addr)

noncomputable abbrev tupO (vs : List Value) (n : Nat) : Obj := { cls := .type "tuple", data := .seq vs.toArray n }
noncomputable abbrev lstO (vs : List Value) (n : Nat) : Obj := { cls := .type "list", data := .seq vs.toArray n }

noncomputable def lim : Nat := 16000000

mutual
noncomputable def VR (h : Heap) : PV → Value → Prop
  | .none, v => v = .none
  | .bool b, v => v = .bool b
  | .int i, v => ∃ t, v = .int i t
  | .str s, v => ∃ t, v = .str s t
  | .tup ps, v => ∃ a vs n, v = .ref a ∧ h.get? a = some (tupO vs n) ∧ vs.length ≤ lim ∧ VRs h ps vs
  | .ref a, v => v = .ref a
noncomputable def VRs (h : Heap) : List PV → List Value → Prop
  | [], vs => vs = []
  | p :: ps, vs => ∃ v vs', vs = v :: vs' ∧ VR h p v ∧ VRs h ps vs'
end

/-- tuples and code objects stay -/
noncomputable def Fz (o : Obj) : Prop := (o.cls = .type "tuple" ∧ ∃ vs n, o.data = .seq vs n) ∨ (o.cls = .type "code" ∧ ∃ vs, o.data = .fields vs)
noncomputable def TK (h h' : Heap) : Prop := ∀ a o, h.get? a = some o → Fz o → h'.get? a = some o
theorem TK.rfl' (h : Heap) : TK h h := fun _ _ e _ => e
theorem TK.trans {h₁ h₂ h₃ : Heap} (x : TK h₁ h₂) (y : TK h₂ h₃) : TK h₁ h₃ := fun a o e q => y a o (x a o e q) q
theorem TK.of_keep {h h' : Heap} (k : ∀ b o, h.get? b = some o → h'.get? b = some o) : TK h h' := fun _ _ e _ => k _ _ e
theorem TK.of_extBut {h h' : Heap} {t : Addr} {ot : Obj} (k : Heap.ExtBut t h h') (ht : h.get? t = some ot) (hn : ¬ Fz ot) : TK h h' :=
  fun a o e q => k a _ (fun z => hn (by subst z; rw [ht] at e; cases e; exact q)) e
theorem nfz {o : Obj} {v : Value} (e : o.cls = v) (h1 : v ≠ .type "tuple") (h2 : v ≠ .type "code") : ¬ Fz o := fun q => q.elim (fun z => h1 (e ▸ z.1)) (fun z => h2 (e ▸ z.1))
theorem nfz_dict {o : Obj} (e : o.cls = .type "dict") : ¬ Fz o := nfz e (by decide) (by decide)
theorem nfz_list {o : Obj} (e : o.cls = .type "list") : ¬ Fz o := nfz e (by decide) (by decide)
theorem fz_tup (vs : List Value) (n : Nat) : Fz (tupO vs n) := .inl ⟨rfl, _, _, rfl⟩
theorem nfz_data {o : Obj} {es ep} (e : o.data = .dict es ep) : ¬ Fz o := fun q => q.elim (fun ⟨_, _, _, z⟩ => by rw [e] at z; cases z) (fun ⟨_, _, z⟩ => by rw [e] at z; cases z)

mutual
theorem VR.mono {h h' : Heap} (k : TK h h') : ∀ (p : PV) (v : Value), VR h p v → VR h' p v
  | .none, _, x => x
  | .bool _, _, x => x
  | .int _, _, x => x
  | .str _, _, x => x
  | .tup ps, _, x => by
    obtain ⟨a, vs, n, e, g, l, r⟩ := x
    exact ⟨a, vs, n, e, k _ _ g (fz_tup vs n), l, VRs.mono k ps vs r⟩
  | .ref _, _, x => x
theorem VRs.mono {h h' : Heap} (k : TK h h') : ∀ (ps : List PV) (vs : List Value), VRs h ps vs → VRs h' ps vs
  | [], _, x => x
  | p :: ps, _, x => by
    obtain ⟨v, vs', e, g, r⟩ := x
    exact ⟨v, vs', e, VR.mono k p v g, VRs.mono k ps vs' r⟩
end

theorem VRs.length {h : Heap} : ∀ {ps : List PV} {vs : List Value}, VRs h ps vs → vs.length = ps.length
  | [], _, x => by cases x; rfl
  | _ :: ps, _, x => by obtain ⟨v, vs', rfl, _, r⟩ := x; simp [VRs.length r]
theorem VRs.get {h : Heap} : ∀ {ps : List PV} {vs : List Value}, VRs h ps vs → ∀ {i : Nat} {p : PV}, ps[i]? = some p → ∃ v, vs[i]? = some v ∧ VR h p v
  | [], _, _, i, p, e => by simp at e
  | q :: ps, _, x, i, p, e => by
    obtain ⟨v, vs', rfl, g, r⟩ := x
    cases i with
    | zero => simp at e; subst e; exact ⟨v, by simp, g⟩
    | succ i => simp at e; obtain ⟨w, a, b⟩ := VRs.get r e; exact ⟨w, by simpa using a, b⟩
theorem VRs.append {h : Heap} : ∀ {ps : List PV} {vs : List Value} {qs ws}, VRs h ps vs → VRs h qs ws → VRs h (ps ++ qs) (vs ++ ws)
  | [], _, _, _, x, y => by cases x; exact y
  | _ :: ps, _, _, _, x, y => by obtain ⟨v, vs', rfl, g, r⟩ := x; exact ⟨v, _, rfl, g, VRs.append r y⟩
theorem VRs.one {h : Heap} {p : PV} {v : Value} (x : VR h p v) : VRs h [p] [v] := ⟨v, [], rfl, x, rfl⟩
theorem VRs.take {h : Heap} : ∀ {ps : List PV} {vs : List Value}, VRs h ps vs → ∀ n, VRs h (ps.take n) (vs.take n)
  | _, _, _, 0 => by simp [VRs]
  | [], _, x, n + 1 => by cases x; simp [VRs]
  | _ :: ps, _, x, n + 1 => by obtain ⟨v, vs', rfl, g, r⟩ := x; exact ⟨v, _, rfl, g, VRs.take r n⟩
theorem VRs.drop {h : Heap} : ∀ {ps : List PV} {vs : List Value}, VRs h ps vs → ∀ n, VRs h (ps.drop n) (vs.drop n)
  | _, _, x, 0 => by simpa using x
  | [], _, x, n + 1 => by cases x; simp [VRs]
  | _ :: ps, _, x, n + 1 => by obtain ⟨v, vs', rfl, g, r⟩ := x; simpa using VRs.drop r n
theorem VRs.set {h : Heap} : ∀ {ps : List PV} {vs : List Value}, VRs h ps vs → ∀ (n : Nat) {p v}, VR h p v → VRs h (ps.set n p) (vs.set n v)
  | [], _, x, n, p, v, y => by cases x; simp [VRs]
  | _ :: ps, _, x, 0, p, v, y => by obtain ⟨v', vs', rfl, g, r⟩ := x; exact ⟨v, vs', rfl, y, r⟩
  | _ :: ps, _, x, n + 1, p, v, y => by obtain ⟨v', vs', rfl, g, r⟩ := x; exact ⟨v', _, rfl, g, VRs.set r n y⟩
theorem VRs.reverse {h : Heap} : ∀ {ps : List PV} {vs : List Value}, VRs h ps vs → VRs h ps.reverse vs.reverse
  | [], _, x => by cases x; simp [VRs]
  | _ :: ps, _, x => by obtain ⟨v, vs', rfl, g, r⟩ := x; rw [List.reverse_cons, List.reverse_cons]; exact VRs.append (VRs.reverse r) (VRs.one g)
theorem VRs.nth {h : Heap} : ∀ {ps : List PV} {vs : List Value}, VRs h ps vs → ∀ {i : Nat} {v : Value}, vs[i]? = some v → ∃ p, ps[i]? = some p ∧ VR h p v
  | [], _, x, i, p, e => by cases x; simp at e
  | q :: ps, _, x, i, p, e => by
    obtain ⟨v, vs', rfl, g, r⟩ := x
    cases i with
    | zero => simp at e; subst e; exact ⟨q, by simp, g⟩
    | succ i => simp at e; obtain ⟨w, a, b⟩ := VRs.nth r e; exact ⟨w, by simpa using a, b⟩

/-! the store -/
structure St where
  ls : Addr → Option (List PV)
  ins : Addr → Option (Addr × List (Nat × PV))
  di : Addr → Option (Nat × (Int → Option PV))
  dk : Addr → Option (Nat × (Str → Option PV))
  dt : Addr → Option (Nat × (List Int → Option PV))
  tb : Addr → Bool

inductive MO where
  | list (ps : List PV) | inst (C : Addr) (fs : List (Nat × PV)) | di (f : Nat × (Int → Option PV)) | dk (f : Nat × (Str → Option PV)) | dt (f : Nat × (List Int → Option PV)) | tab

noncomputable def MO.isD : MO → Bool | .di _ => true | .dk _ => true | .dt _ => true | _ => false
noncomputable def St.has (st : St) (a : Addr) : MO → Prop
  | .list ps => st.ls a = some ps
  | .inst C fs => st.ins a = some (C, fs)
  | .di f => st.di a = some f
  | .dk f => st.dk a = some f
  | .dt f => st.dt a = some f
  | .tab => st.tb a = true

/-- the names of fields, by number -/
noncomputable def fieldNames : List Str := ["kernel", "plan", "code", "seen", "local", "next_temporary", "texts", "atom_numbers", "functors", "functor_numbers", "functor", "args", "goals", "count", "infos", "chunks", "needs_env", "env_size", "live_after", "kind", "number", "start", "stop", "taken", "home"]
noncomputable def fname (n : Nat) : Str := fieldNames.getD n "?"

noncomputable def FRel (h : Heap) : List DictEntry → List (Nat × PV) → Prop
  | [], fs => fs = []
  | e :: es, fs => ∃ n p fs' t, fs = (n, p) :: fs' ∧ n < 25 ∧ e.key = .str (fname n) t ∧ VR h p e.val ∧ FRel h es fs'

noncomputable def ORel (h : Heap) : Option PV → Option Value → Prop
  | some p, some v => VR h p v
  | none, none => True
  | _, _ => False
theorem ORel.mono {h h' : Heap} (k : TK h h') : ∀ {p v}, ORel h p v → ORel h' p v
  | some p, some v, x => VR.mono k p v x
  | none, none, _ => trivial
  | some _, none, x => x
  | none, some _, x => x
theorem FRel.mono {h h' : Heap} (k : TK h h') : ∀ {es fs}, FRel h es fs → FRel h' es fs
  | [], _, x => x
  | _ :: _, _, x => let ⟨n, p, fs', t, a, l, b, c, d⟩ := x; ⟨n, p, fs', t, a, l, b, VR.mono k p _ c, FRel.mono k d⟩

structure Cx where
  prog : Program
  w : World
  h₀ : Heap
  TabGood : Heap → Array Value → Prop
  tabMono : ∀ {h h' : Heap} {ps}, TK h h' → TabGood h ps → TabGood h' ps
  low : ∃ o, h₀.get? cStatics = some o
  K : Frag
  X : K.In h₀
  mg : Str → Option Value
  mb : Str → Option Value
  g : h₀.Ns mainGlobals mg
  b : h₀.Ns builtinsNs mb
  nolimit : h₀.NoLimit
  bi : ∀ x : Str, x ≠ "__name__" → mb x = bootBuiltins x

noncomputable def OR (c : Cx) (h : Heap) (δ : Addr → Addr) (a : Addr) : MO → Prop
  | .list ps => ∃ vs n, h.get? a = some (lstO vs n) ∧ vs.length ≤ lim ∧ VRs h ps vs
  | .inst C fs => ∃ es n, h.get? a = some (instObj C (δ a)) ∧ h.get? (δ a) = some (dictOf es n) ∧ FRel h es fs
  | .di f => ∃ g, h.DictOf (intKind c.prog c.w) a g ∧ g.length ≤ f.1 ∧ ∀ k, ORel h (f.2 k) (valueAt g k)
  | .dk f => ∃ g, h.DictOf (strKind c.prog c.w) a g ∧ g.length ≤ f.1 ∧ ∀ k, ORel h (f.2 k) (valueAt g k)
  | .dt f => ∃ xs, h.DictOfH (tupleKind (intKind c.prog c.w)) a xs ∧ xs.length ≤ f.1 ∧ ∀ k, ORel h (f.2 k) ((atKey xs k).map (·.2))
  | .tab => ∃ ps, h.get? a = some (tabObj ps) ∧ c.TabGood h ps

theorem IsTupleKey.tk {prog : Program} {w : World} {h h' : Heap} {ks : List Int} {a : Addr} (k : TK h h') (x : IsTupleKey (intKind prog w) h ks a) : IsTupleKey (intKind prog w) h' ks a :=
  let ⟨o, items, n, ho, hc, hd, r⟩ := x; ⟨o, items, n, k _ _ ho (.inl ⟨hc, _, _, hd⟩), hc, hd, r⟩

theorem OR.step {c : Cx} {h h' : Heap} {δ : Addr → Addr} {a : Addr} {mo : MO} (x : OR c h δ a mo) (k : TK h h') (hk : ∀ o, h.get? a = some o → h'.get? a = some o)
    (hd : ∀ C fs, mo = .inst C fs → ∀ o, h.get? (δ a) = some o → h'.get? (δ a) = some o) : OR c h' δ a mo := by
  cases mo with
  | list ps => obtain ⟨vs, n, e, l, r⟩ := x; exact ⟨vs, n, hk _ e, l, VRs.mono k _ _ r⟩
  | inst C fs => obtain ⟨es, n, e, g, r⟩ := x; exact ⟨es, n, hk _ e, hd C fs rfl _ g, FRel.mono k r⟩
  | di f => obtain ⟨g, ⟨o, es, ep, ho, q⟩, l, r⟩ := x; exact ⟨g, ⟨o, es, ep, hk _ ho, q⟩, l, fun i => ORel.mono k (r i)⟩
  | dk f => obtain ⟨g, ⟨o, es, ep, ho, q⟩, l, r⟩ := x; exact ⟨g, ⟨o, es, ep, hk _ ho, q⟩, l, fun i => ORel.mono k (r i)⟩
  | dt f =>
    obtain ⟨xs, ⟨o, es, ep, ho, q1, q2, q3, q4, q5⟩, l, r⟩ := x
    exact ⟨xs, ⟨o, es, ep, hk _ ho, q1, q2, q3, fun y hy => IsTupleKey.tk k (q4 y hy), q5⟩, l, fun i => ORel.mono k (r i)⟩
  | tab => obtain ⟨ps, e, g⟩ := x; exact ⟨ps, hk _ e, c.tabMono k g⟩

/-- what stands at an object's own address is no tuple and no code -/
theorem OR.at' {c : Cx} {h : Heap} {δ : Addr → Addr} {a : Addr} {mo : MO} (x : OR c h δ a mo) : ∃ o, h.get? a = some o ∧ ¬ Fz o := by
  have aux : ∀ {o : Obj} {v : Value}, o.cls = v → v ≠ .type "tuple" → v ≠ .type "code" → ¬ Fz o := fun e h1 h2 => nfz e h1 h2
  cases mo with
  | list ps => obtain ⟨vs, n, e, _⟩ := x; exact ⟨_, e, aux (v := .type "list") rfl (by decide) (by decide)⟩
  | inst C fs => obtain ⟨es, n, e, _⟩ := x; exact ⟨_, e, aux rfl (fun z => nomatch z) (fun z => nomatch z)⟩
  | di f => obtain ⟨g, ⟨o, es, ep, ho, q, _⟩, _⟩ := x; exact ⟨_, ho, aux q.1 (by decide) (by decide)⟩
  | dk f => obtain ⟨g, ⟨o, es, ep, ho, q, _⟩, _⟩ := x; exact ⟨_, ho, aux q.1 (by decide) (by decide)⟩
  | dt f => obtain ⟨g, ⟨o, es, ep, ho, q, _⟩, _⟩ := x; exact ⟨_, ho, aux q.1 (by decide) (by decide)⟩
  | tab => obtain ⟨ps, e, _⟩ := x; exact ⟨_, e, aux rfl (fun z => nomatch z) (fun z => nomatch z)⟩

noncomputable abbrev Prot := Addr → Option Obj
noncomputable abbrev Fm := List (Option PV)

structure RepS (c : Cx) (P : Prot) (L : Addr) (h : Heap) (st : St) (δ : Addr → Addr) : Prop where
  base : ∀ b o, c.h₀.get? b = some o → P b = some o
  sub : ∀ b o, P b = some o → h.get? b = some o
  PL : P L = none
  obj : ∀ a mo, st.has a mo → OR c h δ a mo ∧ P a = none ∧ a ≠ L ∧ (mo.isD = true → a ≠ sysModules)
  dct : ∀ a C fs, st.ins a = some (C, fs) → P (δ a) = none ∧ δ a ≠ L ∧ ∀ mo, ¬ st.has (δ a) mo
  inj : ∀ a b x y, st.ins a = some x → st.ins b = some y → δ a = δ b → a = b
  uniq : ∀ a x y, st.has a x → st.has a y → x = y

noncomputable def RepF (L : Addr) (names : List Str) (h : Heap) (m : Fm) : Prop :=
  ∃ M, h.Ns L M ∧ ∀ (i : Nat) (p : PV), m[i]? = some (some p) → ∃ x v, names[i]? = some x ∧ M x = some v ∧ VR h p v

structure Rep (c : Cx) (P : Prot) (L : Addr) (names : List Str) (h : Heap) (m : Fm) (st : St) : Prop where
  s : ∃ δ, RepS c P L h st δ
  f : RepF L names h m

theorem Ns.at {h : Heap} {a : Addr} {m : Str → Option Value} (x : h.Ns a m) : ∃ o, h.get? a = some o ∧ ∃ es ep, o.data = .dict es ep := let ⟨o, es, ep, e, d, _⟩ := x; ⟨o, e, es, ep, d⟩

section
variable {c : Cx} {P : Prot} {L : Addr} {names : List Str} {h h' : Heap} {m : Fm} {st st' : St} {δ : Addr → Addr}

/-- nothing old is changed -/
theorem RepS.keep (R : RepS c P L h st δ) (k : ∀ b o, h.get? b = some o → h'.get? b = some o) : RepS c P L h' st δ where
  base := R.base
  sub := fun b o e => k _ _ (R.sub b o e)
  PL := R.PL
  obj := fun a mo e => let ⟨x, y⟩ := R.obj a mo e; ⟨x.step (.of_keep k) (k a) (fun _ _ _ => k _), y⟩
  dct := R.dct
  inj := R.inj
  uniq := R.uniq
theorem RepF.keep (R : RepF L names h m) (k : ∀ b o, h.get? b = some o → h'.get? b = some o) : RepF L names h' m :=
  let ⟨M, n, r⟩ := R; ⟨M, n.keeps k, fun i p e => let ⟨x, v, a, b, d⟩ := r i p e; ⟨x, v, a, b, VR.mono (.of_keep k) _ _ d⟩⟩
theorem Rep.keep (R : Rep c P L names h m st) (k : ∀ b o, h.get? b = some o → h'.get? b = some o) : Rep c P L names h' m st :=
  ⟨let ⟨δ, x⟩ := R.s; ⟨δ, x.keep k⟩, R.f.keep k⟩

theorem RepF.but {t : Addr} (R : RepF L names h m) (hs : Heap.ExtBut t h h') (hL : L ≠ t) (k : TK h h') : RepF L names h' m :=
  let ⟨M, n, r⟩ := R; ⟨M, n.extBut hs hL, fun i p e => let ⟨x, v, a, b, d⟩ := r i p e; ⟨x, v, a, b, VR.mono k _ _ d⟩⟩

/-- a smaller store -/
structure Le (st' st : St) : Prop where
  has : ∀ a mo, st'.has a mo → st.has a mo
theorem Le.rfl' (st : St) : Le st st := ⟨fun _ _ x => x⟩
theorem Le.trans {s₁ s₂ s₃ : St} (x : Le s₁ s₂) (y : Le s₂ s₃) : Le s₁ s₃ := ⟨fun a mo e => y.has a mo (x.has a mo e)⟩
theorem RepS.le (R : RepS c P L h st δ) (l : Le st' st) : RepS c P L h st' δ where
  base := R.base
  sub := R.sub
  PL := R.PL
  obj := fun a mo e => R.obj a mo (l.has a mo e)
  dct := fun a C fs e => let ⟨x, y, z⟩ := R.dct a C fs (l.has a (.inst C fs) e); ⟨x, y, fun mo q => z mo (l.has _ mo q)⟩
  inj := fun a b x y e1 e2 => R.inj a b x y (l.has a (.inst x.1 x.2) e1) (l.has b (.inst y.1 y.2) e2)
  uniq := fun a x y e1 e2 => R.uniq a x y (l.has a x e1) (l.has a y e2)
noncomputable def LeF (m' m : Fm) : Prop := ∀ (i : Nat) (p : PV), m'[i]? = some (some p) → m[i]? = some (some p)
theorem LeF.rfl' (m : Fm) : LeF m m := fun _ _ e => e
theorem RepF.le {m' : Fm} (R : RepF L names h m) (l : LeF m' m) : RepF L names h m' :=
  let ⟨M, n, r⟩ := R; ⟨M, n, fun i p e => r i p (l i p e)⟩
theorem Rep.le {m' : Fm} (R : Rep c P L names h m st) (l : LeF m' m) (l' : Le st' st) : Rep c P L names h m' st' := ⟨let ⟨δ, x⟩ := R.s; ⟨δ, x.le l'⟩, R.f.le l⟩

theorem RepS.tk {a : Addr} {mo : MO} (R : RepS c P L h st δ) (ho : st.has a mo) (hs : Heap.ExtBut a h h') : TK h h' := by
  obtain ⟨o, e, z⟩ := (R.obj a mo ho).1.at'
  exact .of_extBut hs e z
theorem Rep.tk {a : Addr} {mo : MO} (R : Rep c P L names h m st) (ho : st.has a mo) (hs : Heap.ExtBut a h h') : TK h h' := let ⟨_, x⟩ := R.s; x.tk ho hs

/-- one object of the store turned, at its own address -/
theorem RepS.upd {a : Addr} {mo mo' : MO} (hsame : mo'.isD = mo.isD) (R : RepS c P L h st δ) (hs : Heap.ExtBut a h h') (ho : st.has a mo) (hn : OR c h' δ a mo')
    (hst : ∀ b x, st'.has b x → (b = a ∧ x = mo') ∨ (st.has b x ∧ (b = a → x ≠ mo))) (hins : st'.ins = st.ins) : RepS c P L h' st' δ := by
  have k : TK h h' := R.tk ho hs
  have pa := (R.obj a mo ho).2
  have hst' : ∀ b x, st'.has b x → (b = a ∧ x = mo') ∨ (b ≠ a ∧ st.has b x) := fun b x q => (hst b x q).imp (fun z => z) fun ⟨q, n⟩ => ⟨fun e => n e (R.uniq a _ _ (e ▸ q) ho), q⟩
  refine ⟨R.base, fun b o q => hs b o (fun z => by rw [z, pa.1] at q; cases q) (R.sub b o q), R.PL, fun b x q => ?_, fun b C fs q => ?_, fun b d x y e1 e2 => R.inj b d x y (hins ▸ e1) (hins ▸ e2), fun b x y e1 e2 => ?_⟩
  · rcases hst' b x q with ⟨rfl, rfl⟩ | ⟨hb, q⟩
    · exact ⟨hn, pa.1, pa.2.1, fun e => pa.2.2 (hsame ▸ e)⟩
    · refine ⟨(R.obj b x q).1.step k (fun o => hs b o hb) (fun C fs e o => ?_), (R.obj b x q).2⟩
      subst e
      exact hs _ o (fun z => (R.dct b C fs q).2.2 mo (z ▸ ho))
  · have q' : st.ins b = some (C, fs) := hins ▸ q
    obtain ⟨x, y, z⟩ := R.dct b C fs q'
    refine ⟨x, y, fun mo2 q2 => ?_⟩
    rcases hst' _ mo2 q2 with ⟨e, rfl⟩ | ⟨_, q3⟩
    · exact z mo (e ▸ ho)
    · exact z _ q3
  · rcases hst' b x e1 with ⟨z1, rfl⟩ | ⟨n1, q1⟩ <;> rcases hst' b y e2 with ⟨z2, rfl⟩ | ⟨n2, q2⟩
    · rfl
    · exact absurd z1 n2
    · exact absurd z2 n1
    · exact R.uniq b x y q1 q2

/-- the fields of an object turned -/
theorem RepS.updF {a C : Addr} {fs fs' : List (Nat × PV)} {es' : List DictEntry} {n' : Nat} (R : RepS c P L h st δ) (ho : st.ins a = some (C, fs)) (hs : Heap.ExtBut (δ a) h h')
    (hn : h'.get? (δ a) = some (dictOf es' n')) (hf : FRel h' es' fs')
    (hst : ∀ b x, st'.has b x → (b = a ∧ x = .inst C fs') ∨ (st.has b x ∧ (b = a → x ≠ .inst C fs))) : RepS c P L h' st' δ ∧ TK h h' := by
  obtain ⟨⟨es, n, e1, e2, _⟩, pa⟩ := R.obj a (.inst C fs) ho
  obtain ⟨d1, d2, d3⟩ := R.dct a C fs ho
  have hst' : ∀ b x, st'.has b x → (b = a ∧ x = .inst C fs') ∨ (b ≠ a ∧ st.has b x) := fun b x q => (hst b x q).imp (fun z => z) fun ⟨q, n⟩ => ⟨fun e => n e (R.uniq a _ _ (e ▸ q) ho), q⟩
  have k : TK h h' := .of_extBut hs e2 (nfz_dict rfl)
  have hne : a ≠ δ a := fun z => d3 (.inst C fs) (z ▸ ho)
  have insOf : ∀ b C2 fs2, st'.ins b = some (C2, fs2) → ∃ x, st.ins b = some x := fun b C2 fs2 q => by
    rcases hst' b (.inst C2 fs2) q with ⟨rfl, _⟩ | ⟨_, q⟩
    · exact ⟨_, ho⟩
    · exact ⟨_, q⟩
  refine ⟨⟨R.base, fun b o q => hs b o (fun z => by rw [z, d1] at q; cases q) (R.sub b o q), R.PL, fun b x q => ?_, fun b C2 fs2 q => ?_, fun b d x y e1 e2 => ?_, fun b x y e1 e2 => ?_⟩, k⟩
  · rcases hst' b x q with ⟨rfl, rfl⟩ | ⟨hb, q⟩
    · exact ⟨⟨es', n', hs _ _ hne e1, hn, hf⟩, pa⟩
    · refine ⟨(R.obj b x q).1.step k (fun o => hs b o (fun z => d3 x (z ▸ q))) (fun C2 fs2 e o => ?_), (R.obj b x q).2⟩
      subst e
      exact hs _ o (fun z => hb (R.inj b a _ _ q ho z))
  · obtain ⟨⟨C3, fs3⟩, q'⟩ := insOf b C2 fs2 q
    obtain ⟨x, y, z⟩ := R.dct b C3 fs3 q'
    refine ⟨x, y, fun mo2 q2 => ?_⟩
    rcases hst' _ mo2 q2 with ⟨e, rfl⟩ | ⟨_, q3⟩
    · exact z (.inst C fs) (e ▸ ho)
    · exact z _ q3
  · obtain ⟨_, q1⟩ := insOf b x.1 x.2 e1
    obtain ⟨_, q2⟩ := insOf d y.1 y.2 e2
    exact R.inj b d _ _ q1 q2
  · rcases hst' b x e1 with ⟨z1, rfl⟩ | ⟨n1, q1⟩ <;> rcases hst' b y e2 with ⟨z2, rfl⟩ | ⟨n2, q2⟩
    · rfl
    · exact absurd z1 n2
    · exact absurd z2 n1
    · exact R.uniq b x y q1 q2

noncomputable def St.free (st : St) (a : Addr) : Prop := ∀ mo, ¬ st.has a mo

theorem RepS.size (R : RepS c P L h st δ) {a : Addr} (ha : h.objs.size ≤ a) : st.free a := fun mo q => by
  obtain ⟨o, e, _⟩ := (R.obj a mo q).1.at'
  exact absurd (Heap.lt_size e) (Nat.not_lt.mpr ha)
theorem RepS.Pfree (R : RepS c P L h st δ) {a : Addr} (ha : h.objs.size ≤ a) : P a = none := by
  cases q : P a with
  | none => rfl
  | some o => exact absurd (Heap.lt_size (R.sub a o q)) (Nat.not_lt.mpr ha)
theorem RepS.low (R : RepS c P L h st δ) : sysModules < h.objs.size := by
  obtain ⟨o, e⟩ := c.low
  exact Nat.lt_trans (by decide) (Heap.lt_size (R.sub _ _ (R.base _ _ e)))
theorem RepF.lt (R : RepF L names h m) : L < h.objs.size := let ⟨_, n, _⟩ := R; n.lt
theorem RepS.dlt (R : RepS c P L h st δ) : ∀ b C fs, st.ins b = some (C, fs) → δ b < h.objs.size := fun b C fs q => by
  obtain ⟨es, n, _, e2, _⟩ := (R.obj b (.inst C fs) q).1
  exact Heap.lt_size e2

/-- a new object of the store, of no class of the program -/
theorem RepS.new {a : Addr} {mo' : MO} (R : RepS c P L h st δ) (hL : L < h.objs.size) (ha : h.objs.size ≤ a) (k : ∀ b o, h.get? b = some o → h'.get? b = some o) (hn : OR c h' δ a mo')
    (hst : ∀ b x, st'.has b x → (b = a ∧ x = mo') ∨ st.has b x) (hins : st'.ins = st.ins) : RepS c P L h' st' δ := by
  have R' := R.keep k
  have hst' : ∀ b x, st'.has b x → (b = a ∧ x = mo') ∨ (b ≠ a ∧ st.has b x) := fun b x q => (hst b x q).imp (fun z => z) fun q => ⟨fun e => R.size ha x (e ▸ q), q⟩
  refine ⟨R.base, R'.sub, R.PL, fun b x q => ?_, fun b C fs q => ?_, fun b d x y e1 e2 => R.inj b d x y (hins ▸ e1) (hins ▸ e2), fun b x y e1 e2 => ?_⟩
  · rcases hst' b x q with ⟨rfl, rfl⟩ | ⟨hb, q⟩
    · exact ⟨hn, R.Pfree ha, Nat.ne_of_gt (Nat.lt_of_lt_of_le hL ha), fun _ => Nat.ne_of_gt (Nat.lt_of_lt_of_le R.low ha)⟩
    · exact R'.obj b x q
  · have q' : st.ins b = some (C, fs) := hins ▸ q
    obtain ⟨x, y, z⟩ := R.dct b C fs q'
    refine ⟨x, y, fun mo2 q2 => ?_⟩
    rcases hst' _ mo2 q2 with ⟨e, rfl⟩ | ⟨_, q3⟩
    · exact absurd (R.dlt b C fs q') (by rw [e]; exact Nat.not_lt.mpr ha)
    · exact z _ q3
  · rcases hst' b x e1 with ⟨z1, rfl⟩ | ⟨n1, q1⟩ <;> rcases hst' b y e2 with ⟨z2, rfl⟩ | ⟨n2, q2⟩
    · rfl
    · exact absurd z1 n2
    · exact absurd z2 n1
    · exact R.uniq b x y q1 q2

/-- a new object of a class -/
theorem RepS.newI {a dx C : Addr} {fs : List (Nat × PV)} {es : List DictEntry} {n : Nat} (R : RepS c P L h st δ) (hL : L < h.objs.size) (ha : h.objs.size ≤ a) (hd : h.objs.size ≤ dx) (hne : a ≠ dx)
    (k : ∀ b o, h.get? b = some o → h'.get? b = some o) (h1 : h'.get? a = some (instObj C dx)) (h2 : h'.get? dx = some (dictOf es n)) (h3 : FRel h' es fs)
    (hst : ∀ b x, st'.has b x → (b = a ∧ x = .inst C fs) ∨ st.has b x) : RepS c P L h' st' (fun b => if b = a then dx else δ b) := by
  have R' := R.keep k
  have hst' : ∀ b x, st'.has b x → (b = a ∧ x = .inst C fs) ∨ (b ≠ a ∧ st.has b x) := fun b x q => (hst b x q).imp (fun z => z) fun q => ⟨fun e => R.size ha x (e ▸ q), q⟩
  have hI : ∀ b y, st'.ins b = some y → b = a ∨ (b ≠ a ∧ st.ins b = some y) := fun b y q => (hst' b (.inst y.1 y.2) q).imp (fun z => z.1) (fun z => z)
  have step : ∀ b x, b ≠ a → OR c h' δ b x → OR c h' (fun b => if b = a then dx else δ b) b x := fun b x hb z => by
    cases x with
    | inst C2 fs2 =>
      obtain ⟨es, n, e1, e2, r⟩ := z
      refine ⟨es, n, ?_, ?_, r⟩
      · show _ = some (instObj C2 (if b = a then dx else δ b)); rw [if_neg hb]; exact e1
      · show h'.get? (if b = a then dx else δ b) = _; rw [if_neg hb]; exact e2
    | _ => exact z
  refine ⟨R.base, R'.sub, R.PL, fun b x q => ?_, fun b C2 fs2 q => ?_, fun b d x y e1 e2 e3 => ?_, fun b x y e1 e2 => ?_⟩
  · rcases hst' b x q with ⟨rfl, rfl⟩ | ⟨hb, q⟩
    · refine ⟨⟨es, n, ?_, ?_, h3⟩, R.Pfree ha, Nat.ne_of_gt (Nat.lt_of_lt_of_le hL ha), fun e => nomatch e⟩
      · show _ = some (instObj C (if b = b then dx else δ b)); rw [if_pos rfl]; exact h1
      · show h'.get? (if b = b then dx else δ b) = _; rw [if_pos rfl]; exact h2
    · exact ⟨step b x hb (R'.obj b x q).1, (R'.obj b x q).2⟩
  · by_cases hb : b = a
    · subst hb
      simp only [if_true]
      refine ⟨R.Pfree hd, Nat.ne_of_gt (Nat.lt_of_lt_of_le hL hd), fun mo2 q2 => ?_⟩
      rcases hst' _ mo2 q2 with ⟨e, _⟩ | ⟨_, q3⟩
      · exact hne e.symm
      · exact R.size hd _ q3
    · simp only [if_neg hb]
      rcases hI b _ q with e | ⟨_, q'⟩
      · exact absurd e hb
      obtain ⟨x, y, z⟩ := R.dct b C2 fs2 q'
      refine ⟨x, y, fun mo2 q2 => ?_⟩
      rcases hst' _ mo2 q2 with ⟨e, rfl⟩ | ⟨_, q3⟩
      · exact absurd (R.dlt b C2 fs2 q') (by rw [e]; exact Nat.not_lt.mpr ha)
      · exact z _ q3
  · rcases hI b _ e1 with rfl | ⟨hb, q1⟩ <;> rcases hI d _ e2 with rfl | ⟨hd', q2⟩
    · rfl
    · simp only [if_true, if_neg hd'] at e3
      exact absurd (R.dlt d y.1 y.2 q2) (by rw [← e3]; exact Nat.not_lt.mpr hd)
    · simp only [if_true, if_neg hb] at e3
      exact absurd (R.dlt b x.1 x.2 q1) (by rw [e3]; exact Nat.not_lt.mpr hd)
    · simp only [if_neg hb, if_neg hd'] at e3
      exact R.inj b d _ _ q1 q2 e3
  · rcases hst' b x e1 with ⟨z1, rfl⟩ | ⟨n1, q1⟩ <;> rcases hst' b y e2 with ⟨z2, rfl⟩ | ⟨n2, q2⟩
    · rfl
    · exact absurd z1 n2
    · exact absurd z2 n1
    · exact R.uniq b x y q1 q2

/-! setters -/
noncomputable def St.setL (st : St) (a : Addr) (ps : List PV) : St := { st with ls := fun b => if b = a then some ps else st.ls b }
noncomputable def St.setI (st : St) (a C : Addr) (fs : List (Nat × PV)) : St := { st with ins := fun b => if b = a then some (C, fs) else st.ins b }
noncomputable def St.setDi (st : St) (a : Addr) (f : Nat × (Int → Option PV)) : St := { st with di := fun b => if b = a then some f else st.di b }
noncomputable def St.setDk (st : St) (a : Addr) (f : Nat × (Str → Option PV)) : St := { st with dk := fun b => if b = a then some f else st.dk b }
noncomputable def St.setDt (st : St) (a : Addr) (f : Nat × (List Int → Option PV)) : St := { st with dt := fun b => if b = a then some f else st.dt b }

theorem has_setL {st : St} {a : Addr} {ps : List PV} {b : Addr} {x : MO} (q : (st.setL a ps).has b x) : (b = a ∧ x = .list ps) ∨ (st.has b x ∧ (b = a → ∀ qs, x ≠ .list qs)) := by
  cases x with
  | list qs =>
    by_cases hb : b = a
    · subst hb; left; simp [St.has, St.setL] at q; exact ⟨rfl, by rw [q]⟩
    · right; simp [St.has, St.setL, hb] at q; exact ⟨q, fun e => absurd e hb⟩
  | _ => exact .inr ⟨q, fun _ _ => nofun⟩
theorem has_setI {st : St} {a C : Addr} {fs : List (Nat × PV)} {b : Addr} {x : MO} (q : (st.setI a C fs).has b x) : (b = a ∧ x = .inst C fs) ∨ (st.has b x ∧ (b = a → ∀ D gs, x ≠ .inst D gs)) := by
  cases x with
  | inst D gs =>
    by_cases hb : b = a
    · subst hb; left; simp [St.has, St.setI] at q; exact ⟨rfl, by rw [q.1, q.2]⟩
    · right; simp [St.has, St.setI, hb] at q; exact ⟨q, fun e => absurd e hb⟩
  | _ => exact .inr ⟨q, fun _ _ _ => nofun⟩
theorem has_setDi {st : St} {a : Addr} {f : Nat × (Int → Option PV)} {b : Addr} {x : MO} (q : (st.setDi a f).has b x) : (b = a ∧ x = .di f) ∨ (st.has b x ∧ (b = a → ∀ qs, x ≠ .di qs)) := by
  cases x with
  | di qs =>
    by_cases hb : b = a
    · subst hb; left; simp [St.has, St.setDi] at q; exact ⟨rfl, by rw [q]⟩
    · right; simp [St.has, St.setDi, hb] at q; exact ⟨q, fun e => absurd e hb⟩
  | _ => exact .inr ⟨q, fun _ _ => nofun⟩
theorem has_setDk {st : St} {a : Addr} {f : Nat × (Str → Option PV)} {b : Addr} {x : MO} (q : (st.setDk a f).has b x) : (b = a ∧ x = .dk f) ∨ (st.has b x ∧ (b = a → ∀ qs, x ≠ .dk qs)) := by
  cases x with
  | dk qs =>
    by_cases hb : b = a
    · subst hb; left; simp [St.has, St.setDk] at q; exact ⟨rfl, by rw [q]⟩
    · right; simp [St.has, St.setDk, hb] at q; exact ⟨q, fun e => absurd e hb⟩
  | _ => exact .inr ⟨q, fun _ _ => nofun⟩
theorem has_setDt {st : St} {a : Addr} {f : Nat × (List Int → Option PV)} {b : Addr} {x : MO} (q : (st.setDt a f).has b x) : (b = a ∧ x = .dt f) ∨ (st.has b x ∧ (b = a → ∀ qs, x ≠ .dt qs)) := by
  cases x with
  | dt qs =>
    by_cases hb : b = a
    · subst hb; left; simp [St.has, St.setDt] at q; exact ⟨rfl, by rw [q]⟩
    · right; simp [St.has, St.setDt, hb] at q; exact ⟨q, fun e => absurd e hb⟩
  | _ => exact .inr ⟨q, fun _ _ => nofun⟩

/-! the steps, with the frame -/
theorem Rep.neL (R : Rep c P L names h m st) {a : Addr} {mo : MO} (ho : st.has a mo) : L ≠ a := let ⟨_, x⟩ := R.s; fun e => (x.obj a mo ho).2.2.1 e.symm
theorem Rep.setL {a : Addr} {ps ps' : List PV} {vs' : List Value} {n' : Nat} (R : Rep c P L names h m st) (ho : st.ls a = some ps) (hs : Heap.ExtBut a h h') (hn : h'.get? a = some (lstO vs' n')) (hl : vs'.length ≤ lim)
    (hv : VRs h ps' vs') : Rep c P L names h' m (st.setL a ps') := by
  obtain ⟨δ, x⟩ := R.s
  have k : TK h h' := x.tk (mo := .list ps) ho hs
  exact ⟨⟨δ, x.upd (mo := .list ps) (mo' := .list ps') rfl hs ho ⟨vs', n', hn, hl, VRs.mono k _ _ hv⟩ (fun b y q => (has_setL q).imp (fun z => z) fun ⟨u, w⟩ => ⟨u, fun e => w e ps⟩) rfl⟩, R.f.but hs (R.neL (mo := .list ps) ho) k⟩
theorem Rep.setDi {a : Addr} {f f' : Nat × (Int → Option PV)} {g : List (Int × Value)} (R : Rep c P L names h m st) (ho : st.di a = some f) (hs : Heap.ExtBut a h h') (hn : h'.DictOf (intKind c.prog c.w) a g) (hl : g.length ≤ f'.1) (hv : ∀ k, ORel h (f'.2 k) (valueAt g k)) :
    Rep c P L names h' m (st.setDi a f') := by
  obtain ⟨δ, x⟩ := R.s
  have k : TK h h' := x.tk (mo := .di f) ho hs
  exact ⟨⟨δ, x.upd (mo := .di f) (mo' := .di f') rfl hs ho ⟨g, hn, hl, fun i => ORel.mono k (hv i)⟩ (fun b y q => (has_setDi q).imp (fun z => z) fun ⟨u, w⟩ => ⟨u, fun e => w e f⟩) rfl⟩, R.f.but hs (R.neL (mo := .di f) ho) k⟩
theorem Rep.setDk {a : Addr} {f f' : Nat × (Str → Option PV)} {g : List (Str × Value)} (R : Rep c P L names h m st) (ho : st.dk a = some f) (hs : Heap.ExtBut a h h') (hn : h'.DictOf (strKind c.prog c.w) a g) (hl : g.length ≤ f'.1) (hv : ∀ k, ORel h (f'.2 k) (valueAt g k)) :
    Rep c P L names h' m (st.setDk a f') := by
  obtain ⟨δ, x⟩ := R.s
  have k : TK h h' := x.tk (mo := .dk f) ho hs
  exact ⟨⟨δ, x.upd (mo := .dk f) (mo' := .dk f') rfl hs ho ⟨g, hn, hl, fun i => ORel.mono k (hv i)⟩ (fun b y q => (has_setDk q).imp (fun z => z) fun ⟨u, w⟩ => ⟨u, fun e => w e f⟩) rfl⟩, R.f.but hs (R.neL (mo := .dk f) ho) k⟩
theorem Rep.setDt {a : Addr} {f f' : Nat × (List Int → Option PV)} {xs : List (List Int × Addr × Value)} (R : Rep c P L names h m st) (ho : st.dt a = some f) (hs : Heap.ExtBut a h h') (hn : h'.DictOfH (tupleKind (intKind c.prog c.w)) a xs)
    (hl : xs.length ≤ f'.1) (hv : ∀ k, ORel h (f'.2 k) ((atKey xs k).map (·.2))) : Rep c P L names h' m (st.setDt a f') := by
  obtain ⟨δ, x⟩ := R.s
  have k : TK h h' := x.tk (mo := .dt f) ho hs
  exact ⟨⟨δ, x.upd (mo := .dt f) (mo' := .dt f') rfl hs ho ⟨xs, hn, hl, fun i => ORel.mono k (hv i)⟩ (fun b y q => (has_setDt q).imp (fun z => z) fun ⟨u, w⟩ => ⟨u, fun e => w e f⟩) rfl⟩, R.f.but hs (R.neL (mo := .dt f) ho) k⟩

theorem Rep.newL {a : Addr} {ps : List PV} {vs : List Value} {n : Nat} (R : Rep c P L names h m st) (ha : h.objs.size ≤ a) (k : ∀ b o, h.get? b = some o → h'.get? b = some o) (hn : h'.get? a = some (lstO vs n)) (hl : vs.length ≤ lim)
    (hv : VRs h ps vs) : st.free a ∧ Rep c P L names h' m (st.setL a ps) := by
  obtain ⟨δ, x⟩ := R.s
  exact ⟨x.size ha, ⟨δ, x.new (mo' := .list ps) R.f.lt ha k ⟨vs, n, hn, hl, VRs.mono (.of_keep k) _ _ hv⟩ (fun b y q => (has_setL q).imp (fun z => z) fun ⟨u, w⟩ => u) rfl⟩, R.f.keep k⟩
theorem Rep.newDi {a : Addr} (R : Rep c P L names h m st) (ha : h.objs.size ≤ a) (k : ∀ b o, h.get? b = some o → h'.get? b = some o) (hn : h'.DictOf (intKind c.prog c.w) a []) :
    st.free a ∧ Rep c P L names h' m (st.setDi a (0, fun _ => none)) := by
  obtain ⟨δ, x⟩ := R.s
  exact ⟨x.size ha, ⟨δ, x.new (mo' := .di (0, fun _ => none)) R.f.lt ha k ⟨_, hn, Nat.le_refl _, fun _ => trivial⟩ (fun b y q => (has_setDi q).imp (fun z => z) fun ⟨u, w⟩ => u) rfl⟩, R.f.keep k⟩
theorem Rep.newDk {a : Addr} (R : Rep c P L names h m st) (ha : h.objs.size ≤ a) (k : ∀ b o, h.get? b = some o → h'.get? b = some o) (hn : h'.DictOf (strKind c.prog c.w) a []) :
    st.free a ∧ Rep c P L names h' m (st.setDk a (0, fun _ => none)) := by
  obtain ⟨δ, x⟩ := R.s
  exact ⟨x.size ha, ⟨δ, x.new (mo' := .dk (0, fun _ => none)) R.f.lt ha k ⟨_, hn, Nat.le_refl _, fun _ => trivial⟩ (fun b y q => (has_setDk q).imp (fun z => z) fun ⟨u, w⟩ => u) rfl⟩, R.f.keep k⟩
theorem Rep.newDt {a : Addr} (R : Rep c P L names h m st) (ha : h.objs.size ≤ a) (k : ∀ b o, h.get? b = some o → h'.get? b = some o) (hn : h'.DictOfH (tupleKind (intKind c.prog c.w)) a []) :
    st.free a ∧ Rep c P L names h' m (st.setDt a (0, fun _ => none)) := by
  obtain ⟨δ, x⟩ := R.s
  exact ⟨x.size ha, ⟨δ, x.new (mo' := .dt (0, fun _ => none)) R.f.lt ha k ⟨_, hn, Nat.le_refl _, fun _ => trivial⟩ (fun b y q => (has_setDt q).imp (fun z => z) fun ⟨u, w⟩ => u) rfl⟩, R.f.keep k⟩

/-- a name of the frame stored -/
theorem Rep.store (R : Rep c P L names h m st) (hnd : names.Nodup) : ∃ M, h.Ns L M ∧ ∀ (h' : Heap) (x : Str) (v : Value) (p : PV) (i : Nat), names[i]? = some x → h'.Ns L (fun y => if y = x then some v else M y) →
    Heap.SameBut L h h' → VR h p v → Rep c P L names h' (m.set i (some p)) st ∧ TK h h' := by
  obtain ⟨δ, S⟩ := R.s
  obtain ⟨M, hM, hm⟩ := R.f
  refine ⟨M, hM, fun h' x v p i hi hn hs hv => ?_⟩
  obtain ⟨o, eo, es, ep, hd⟩ := Ns.at hM
  have k : TK h h' := .of_extBut hs.extBut eo (nfz_data hd)
  refine ⟨⟨⟨δ, S.base, fun b o' e => (hs.2 b (fun z => by subst z; rw [S.PL] at e; cases e)).trans (S.sub b o' e), S.PL, fun a mo q => ?_, S.dct, S.inj, S.uniq⟩, ?_⟩, k⟩
  · obtain ⟨z, y⟩ := S.obj a mo q
    refine ⟨z.step k (fun o' e => (hs.2 a y.2.1).trans e) (fun C fs e o' e' => ?_), y⟩
    subst e
    exact (hs.2 _ (S.dct a C fs q).2.1).trans e'
  · refine ⟨_, hn, fun j q e => ?_⟩
    by_cases hj : j = i
    · subst hj
      have hlt : j < m.length := by
        rcases Nat.lt_or_ge j m.length with z | z
        · exact z
        · rw [List.set_eq_of_length_le z] at e; rw [List.getElem?_eq_none z] at e; cases e
      rw [List.getElem?_set_self hlt] at e
      cases e
      exact ⟨x, v, hi, if_pos rfl, VR.mono k _ _ hv⟩
    · rw [List.getElem?_set_ne (fun z => hj z.symm)] at e
      obtain ⟨y, u, a1, a2, a3⟩ := hm j q e
      refine ⟨y, u, a1, ?_, VR.mono k _ _ a3⟩
      rw [if_neg (fun z => hj ?_)]
      · exact a2
      · subst z
        exact (List.getElem?_inj (List.getElem?_eq_some_iff.mp a1).1 hnd).mp (a1.trans hi.symm)

/-- all that stands and is not the store's nor the frame's is shut away -/
theorem Rep.max (R : Rep c P L names h m st) : ∃ P', (∀ b o, P b = some o → P' b = some o) ∧ (∀ b o, P' b = some o → h.get? b = some o) ∧ Rep c P' L names h m st ∧
    (∀ b o T, h.get? b = some o → o.cls = .type T → T ≠ "list" → T ≠ "dict" → b ≠ L → P' b = some o) := by
  classical
  obtain ⟨δ, S⟩ := R.s
  refine ⟨fun b => if (∃ mo, st.has b mo) ∨ (∃ a C fs, st.ins a = some (C, fs) ∧ δ a = b) ∨ b = L then none else h.get? b, fun b o e => ?_, fun b o e => ?_, ⟨⟨δ, ?_⟩, R.f⟩, fun b o T e hc h1 h2 hL => ?_⟩
  · simp only
    rw [if_neg]
    · exact S.sub b o e
    · rintro (⟨mo, q⟩ | ⟨a, C, fs, q, rfl⟩ | rfl)
      · rw [(S.obj b mo q).2.1] at e; cases e
      · rw [(S.dct a C fs q).1] at e; cases e
      · rw [S.PL] at e; cases e
  · simp only at e
    split at e
    · cases e
    · exact e
  · have ne : ∀ b o, P b = some o → (if (∃ mo, st.has b mo) ∨ (∃ a C fs, st.ins a = some (C, fs) ∧ δ a = b) ∨ b = L then none else h.get? b) = some o := fun b o e => by
      rw [if_neg]
      · exact S.sub b o e
      · rintro (⟨mo, q⟩ | ⟨a, C, fs, q, rfl⟩ | rfl)
        · rw [(S.obj b mo q).2.1] at e; cases e
        · rw [(S.dct a C fs q).1] at e; cases e
        · rw [S.PL] at e; cases e
    refine ⟨fun b o e => ne b o (S.base b o e), fun b o e => ?_, if_pos (.inr (.inr rfl)), fun a mo q => ⟨(S.obj a mo q).1, if_pos (.inl ⟨mo, q⟩), (S.obj a mo q).2.2⟩, fun a C fs q => ⟨if_pos (.inr (.inl ⟨a, C, fs, q, rfl⟩)), (S.dct a C fs q).2⟩, S.inj, S.uniq⟩
    split at e
    · cases e
    · exact e
  · show (if (∃ mo, st.has b mo) ∨ (∃ a C fs, st.ins a = some (C, fs) ∧ δ a = b) ∨ b = L then none else h.get? b) = some o
    rw [if_neg]
    · exact e
    · rintro (⟨mo, q⟩ | ⟨a, C, fs, q, rfl⟩ | rfl)
      · have z := (S.obj b mo q).1
        have key : ∀ {o' : Obj} {v : Value}, h.get? b = some o' → o'.cls = v → v = .type T := fun e1 e2 => by rw [e] at e1; cases e1; rw [← e2, hc]
        cases mo with
        | list ps => obtain ⟨vs, n, e1, _⟩ := z; have := key e1 rfl; cases this; exact h1 rfl
        | inst C fs => obtain ⟨es, n, e1, _⟩ := z; have := key e1 rfl; cases this
        | di f => obtain ⟨g, ⟨o1, es, ep, e1, q1, _⟩, _⟩ := z; have := key e1 q1.1; cases this; exact h2 rfl
        | dk f => obtain ⟨g, ⟨o1, es, ep, e1, q1, _⟩, _⟩ := z; have := key e1 q1.1; cases this; exact h2 rfl
        | dt f => obtain ⟨g, ⟨o1, es, ep, e1, q1, _⟩, _⟩ := z; have := key e1 q1.1; cases this; exact h2 rfl
        | tab => obtain ⟨ps, e1, _⟩ := z; have := key e1 rfl; cases this
      · obtain ⟨⟨es, n, _, e2, _⟩, _⟩ := S.obj a (.inst C fs) q
        rw [e] at e2; cases e2; cases hc; exact h2 rfl
      · exact hL rfl

theorem Rep.lessP {P' : Prot} (R : Rep c P' L names h m st) (hb : ∀ b o, c.h₀.get? b = some o → P b = some o) (hP : ∀ b o, P b = some o → P' b = some o) : Rep c P L names h m st := by
  obtain ⟨δ, S⟩ := R.s
  have no : ∀ b, P' b = none → P b = none := fun b e => by
    cases q : P b with
    | none => rfl
    | some o => rw [hP b o q] at e; cases e
  exact ⟨⟨δ, hb, fun b o e => S.sub b o (hP b o e), no _ S.PL, fun a mo q => let ⟨x, y, z⟩ := S.obj a mo q; ⟨x, no _ y, z⟩, fun a C fs q => let ⟨x, y⟩ := S.dct a C fs q; ⟨no _ x, y⟩, S.inj, S.uniq⟩, R.f⟩
theorem Rep.baseP (R : Rep c P L names h m st) : ∀ b o, c.h₀.get? b = some o → P b = some o := let ⟨_, S⟩ := R.s; S.base
theorem Rep.subP (R : Rep c P L names h m st) : ∀ b o, P b = some o → h.get? b = some o := let ⟨_, S⟩ := R.s; S.sub
theorem Rep.keeps₀ (R : Rep c P L names h m st) : ∀ b o, c.h₀.get? b = some o → h.get? b = some o := fun b o e => R.subP b o (R.baseP b o e)

/-- into a call and out of it -/
theorem Rep.enter (R : Rep c P L names h m st) : ∃ P', (∀ b o, P b = some o → P' b = some o) ∧
    (∀ (h₁ : Heap) (L' : Addr) (names' : List Str) (m' : Fm), (∀ b o, h.get? b = some o → h₁.get? b = some o) → h.objs.size ≤ L' → RepF L' names' h₁ m' → Rep c P' L' names' h₁ m' st) ∧
    (∀ (h₂ : Heap) (L' : Addr) (names' : List Str) (m' : Fm) (st' : St), Rep c P' L' names' h₂ m' st' → Rep c P L names h₂ m st' ∧ TK h h₂) := by
  classical
  obtain ⟨δ, S⟩ := R.s
  obtain ⟨M, hM, hm⟩ := R.f
  obtain ⟨oL, eL, es, ep, hd⟩ := Ns.at hM
  have sub' : ∀ b o, (if (∃ mo, st.has b mo) ∨ (∃ a C fs, st.ins a = some (C, fs) ∧ δ a = b) then none else h.get? b) = some o → h.get? b = some o := fun b o e => by
    split at e
    · cases e
    · exact e
  have ne : ∀ b o, P b = some o → (if (∃ mo, st.has b mo) ∨ (∃ a C fs, st.ins a = some (C, fs) ∧ δ a = b) then none else h.get? b) = some o := fun b o e => by
    rw [if_neg]
    · exact S.sub b o e
    · rintro (⟨mo, q⟩ | ⟨a, C, fs, q, rfl⟩)
      · rw [(S.obj b mo q).2.1] at e; cases e
      · rw [(S.dct a C fs q).1] at e; cases e
  refine ⟨fun b => if (∃ mo, st.has b mo) ∨ (∃ a C fs, st.ins a = some (C, fs) ∧ δ a = b) then none else h.get? b, ne, fun h₁ L' names' m' k hL' hf => ⟨⟨δ, ?_⟩, hf⟩, fun h₂ L' names' m' st' R' => ?_⟩
  · have S' := S.keep k
    refine ⟨fun b o e => ne b o (S.base b o e), fun b o e => k b o (sub' b o e), ?_, fun a mo q => ⟨(S'.obj a mo q).1, if_pos (.inl ⟨mo, q⟩), fun z => ?_, (S'.obj a mo q).2.2.2⟩, fun a C fs q => ⟨if_pos (.inr ⟨a, C, fs, q, rfl⟩), fun z => ?_, (S'.dct a C fs q).2.2⟩, S.inj, S.uniq⟩
    · cases q : (if (∃ mo, st.has L' mo) ∨ (∃ a C fs, st.ins a = some (C, fs) ∧ δ a = L') then none else h.get? L') with
      | none => rfl
      | some o => exact absurd (Heap.lt_size (sub' _ _ q)) (Nat.not_lt.mpr hL')
    · obtain ⟨o, e, _⟩ := (S.obj a mo q).1.at'
      exact absurd (Heap.lt_size e) (by rw [z]; exact Nat.not_lt.mpr hL')
    · exact absurd (S.dlt a C fs q) (by rw [z]; exact Nat.not_lt.mpr hL')
  · obtain ⟨δ', S'⟩ := R'.s
    have PL' : (if (∃ mo, st.has L mo) ∨ (∃ a C fs, st.ins a = some (C, fs) ∧ δ a = L) then none else h.get? L) = some oL := by
      rw [if_neg]
      · exact eL
      · rintro (⟨mo, q⟩ | ⟨a, C, fs, q, z⟩)
        · exact (S.obj L mo q).2.2.1 rfl
        · exact (S.dct a C fs q).2.1 z
    have k : TK h h₂ := fun a o e q => S'.sub a o (by
      rw [if_neg]
      · exact e
      · rintro (⟨mo, q2⟩ | ⟨b, C, fs, q2, rfl⟩)
        · obtain ⟨o', e', z⟩ := (S.obj a mo q2).1.at'
          rw [e] at e'; cases e'; exact z q
        · obtain ⟨⟨es, n, _, e2, _⟩, _⟩ := S.obj b (.inst C fs) q2
          rw [e] at e2; cases e2; exact nfz_dict rfl q)
    have no : ∀ b, (if (∃ mo, st.has b mo) ∨ (∃ a C fs, st.ins a = some (C, fs) ∧ δ a = b) then none else h.get? b) = none → P b = none := fun b e => by
      cases q : P b with
      | none => rfl
      | some o => rw [ne b o q] at e; cases e
    refine ⟨⟨⟨δ', S.base, fun b o e => S'.sub b o (ne b o e), S.PL, fun a mo q => ?_, fun a C fs q => ?_, S'.inj, S'.uniq⟩, ⟨M, ?_, fun i p e => ?_⟩⟩, k⟩
    · obtain ⟨x, y, z, u⟩ := S'.obj a mo q
      refine ⟨x, no _ y, fun w => ?_, u⟩
      subst w; rw [PL'] at y; cases y
    · obtain ⟨x, y, z⟩ := S'.dct a C fs q
      refine ⟨no _ x, fun w => ?_, z⟩
      rw [w, PL'] at x; cases x
    · obtain ⟨o, es, ep, e, r⟩ := hM
      rw [eL] at e; cases e
      exact ⟨oL, es, ep, S'.sub L oL PL', r⟩
    · obtain ⟨x, v, a1, a2, a3⟩ := hm i p e
      exact ⟨x, v, a1, a2, VR.mono k _ _ a3⟩
end

end Mine
namespace Mine

inductive Fl where
  | next | brk | cont | ret (p : PV)
noncomputable abbrev WE := Fm → St → (PV → St → Prop) → Prop
noncomputable abbrev WEs := Fm → St → (List PV → St → Prop) → Prop
noncomputable abbrev WT := Fm → St → (Bool → St → Prop) → Prop
noncomputable abbrev WS := Fm → St → (Fl → Fm → St → Prop) → Prop
noncomputable abbrev WA := PV → Fm → St → (Fm → St → Prop) → Prop
noncomputable abbrev Spec := List PV → St → (PV → St → Prop) → Prop

structure Ext (s s' : Shared) : Prop where
  tk : TK s.heap s'.heap
  gens : s'.gens = s.gens
  os : s'.os = s.os
theorem Ext.rfl' (s : Shared) : Ext s s := ⟨.rfl' _, rfl, rfl⟩
theorem Ext.trans {s₁ s₂ s₃ : Shared} (x : Ext s₁ s₂) (y : Ext s₂ s₃) : Ext s₁ s₃ := ⟨x.tk.trans y.tk, y.gens.trans x.gens, y.os.trans x.os⟩

structure Room (n : Nat) (A : Around) : Prop where
  h : A.handled = none
  d : A.depth + 4 * n ≤ 990
  u : A.units + 20 * n ≤ 9800
theorem Room.le {m n : Nat} {A : Around} (r : Room n A) (h : m ≤ n) : Room m A := ⟨r.h, by have := r.d; (first | lia | omega), by have := r.u; (first | lia | omega)⟩
theorem Room.c {n : Nat} {A : Around} (r : Room n A) : A.units + 10 < cLine := by have := r.u; unfold cLine; (first | lia | omega)
theorem Room.deeper {n : Nat} {A : Around} {e : Env} (r : Room (n + 1) A) : Room n (A.deeper e) := ⟨r.h, by have := r.d; show A.depth + 1 + 4 * n ≤ 990; (first | lia | omega), by have := r.u; show A.units + 3 + 20 * n ≤ 9800; (first | lia | omega)⟩
theorem Room.rl {n : Nat} {A : Around} (r : Room n A) : A.depth < recursionLimit := by have := r.d; unfold recursionLimit; (first | lia | omega)

theorem VR.int_ (h : Heap) (i : Int) (t : Tok) : VR h (.int i) (.int i t) := ⟨t, rfl⟩
theorem VR.str_ (h : Heap) (x : Str) (t : Tok) : VR h (.str x) (.str x t) := ⟨t, rfl⟩
theorem VR.bool_ (h : Heap) (b : Bool) : VR h (.bool b) (.bool b) := rfl
theorem VR.none_ (h : Heap) : VR h .none .none := rfl
theorem VR.ref_ (h : Heap) (a : Addr) : VR h (.ref a) (.ref a) := rfl
noncomputable def orF {α : Type} (o : Option α) (k : α → Prop) : Prop := match o with | some a => k a | none => False
theorem orF.elim {α : Type} {o : Option α} {k : α → Prop} (h : orF o k) : ∃ a, o = some a ∧ k a := by
  cases o with
  | none => exact False.elim h
  | some a => exact ⟨a, rfl, h⟩
@[simp] theorem orF_some {α : Type} (a : α) (k : α → Prop) : orF (some a) k = k a := rfl

noncomputable abbrev noE : Value → Shared → Prop := fun _ _ => False

inductive PostE (c : Cx) (P : Prot) (L : Addr) (names : List Str) (m : Fm) (Q : PV → St → Prop) (s : Shared) (v : Value) (s' : Shared) : Prop
  | mk (p : PV) (st' : St) (R : Rep c P L names s'.heap m st') (V : VR s'.heap p v) (X : Ext s s') (q : Q p st')
inductive PostEs (c : Cx) (P : Prot) (L : Addr) (names : List Str) (m : Fm) (Q : List PV → St → Prop) (s : Shared) (vs : List Value) (s' : Shared) : Prop
  | mk (ps : List PV) (st' : St) (R : Rep c P L names s'.heap m st') (V : VRs s'.heap ps vs) (X : Ext s s') (q : Q ps st')
inductive PostT (c : Cx) (P : Prot) (L : Addr) (names : List Str) (m : Fm) (Q : Bool → St → Prop) (s : Shared) (b : Bool) (s' : Shared) : Prop
  | mk (st' : St) (R : Rep c P L names s'.heap m st') (X : Ext s s') (q : Q b st')
noncomputable def FlR (h : Heap) : Fl → Flow → Prop
  | .next, f => f = .next
  | .brk, f => f = .brk
  | .cont, f => f = .cont
  | .ret p, f => ∃ v, f = .ret v ∧ VR h p v
inductive PostS (c : Cx) (P : Prot) (L : Addr) (names : List Str) (Q : Fl → Fm → St → Prop) (s : Shared) (f : Flow) (s' : Shared) : Prop
  | mk (fl : Fl) (m' : Fm) (st' : St) (R : Rep c P L names s'.heap m' st') (F : FlR s'.heap fl f) (X : Ext s s') (q : Q fl m' st')
inductive PostA (c : Cx) (P : Prot) (L : Addr) (names : List Str) (Q : Fm → St → Prop) (s : Shared) (s' : Shared) : Prop
  | mk (m' : Fm) (st' : St) (R : Rep c P L names s'.heap m' st') (X : Ext s s') (q : Q m' st')

section
variable (c : Cx) (n : Nat) (names : List Str) (scope : Scope)

noncomputable def SE (e : Expr) (w : WE) : Prop := ∀ ⦃P L q f cd A s m st Q⦄, Room n A → Rep c P L names s.heap m st → w m st Q →
  wpAny (model c.prog c.w) A (eval e (envOf q scope L f cd)) (PostE c P L names m Q s) noE s
noncomputable def SEs (es : List Expr) (w : WEs) : Prop := ∀ ⦃P L q f cd A s m st Q pos⦄, Room n A → Rep c P L names s.heap m st → w m st Q →
  wpAny (model c.prog c.w) A (spliced (backTo pos (starEach es (envOf q scope L f cd)))) (PostEs c P L names m Q s) noE s
noncomputable def ST (e : Expr) (w : WT) : Prop := ∀ ⦃P L q f cd A s m st Q⦄, Room n A → Rep c P L names s.heap m st → w m st Q →
  wpAny (model c.prog c.w) A (isTrue e (envOf q scope L f cd) (eval e (envOf q scope L f cd))) (PostT c P L names m Q s) noE s
noncomputable def SX (e : Stmt) (w : WS) : Prop := ∀ ⦃P L q f cd A s m st Q⦄, Room n A → Rep c P L names s.heap m st → w m st Q →
  wpAny (model c.prog c.w) A (exec e (envOf q scope L f cd)) (PostS c P L names Q s) noE s
noncomputable def SS (e : List Stmt) (w : WS) : Prop := ∀ ⦃P L q f cd A s m st Q⦄, Room n A → Rep c P L names s.heap m st → w m st Q →
  wpAny (model c.prog c.w) A (execs e (envOf q scope L f cd)) (PostS c P L names Q s) noE s
/-- a target -/
noncomputable def SA (t : Expr) (w : WA) : Prop := ∀ ⦃P L q f cd A s m st Q p v⦄, Room n A → Rep c P L names s.heap m st → VR s.heap p v → w p m st Q →
  wpAny (model c.prog c.w) A (assign t (envOf q scope L f cd) v) (fun _ s' => PostA c P L names Q s s') noE s
end

theorem noE_any {P : Prop} : ∀ (e : Value) (s : Shared), noE e s → P := fun _ _ x => x.elim

section
variable {c : Cx} {n : Nat} {names : List Str} {scope : Scope}
variable {P : Prot} {L : Addr} {q : Str} {f : Addr} {cd : Value} {A : Around} {s : Shared} {m : Fm} {st : St}

theorem wpM {α : Type} {M : Model} {t : Sem α} {Q Q' : α → Shared → Prop} (h : wpAny M A t Q noE s) (k : ∀ a s', Q a s' → Q' a s') : wpAny M A t Q' noE s := wpAny_mono h k (fun _ _ x => x)
theorem wpN {α : Type} {M : Model} {t : Sem α} {Q Q' : α → Shared → Prop} {E : Value → Shared → Prop} (h : wpAny M A t Q noE s) (k : ∀ a s', Q a s' → Q' a s') : wpAny M A t Q' E s := wpAny_mono h k (fun _ _ x => x.elim)

/-! ### expressions -/
/-- branches, and a frame looked into, so that they reduce -/
noncomputable def br (b : Bool) (A B : Prop) : Prop := match b with | true => A | false => B
@[simp] theorem br_true (A B : Prop) : br true A B = A := rfl
@[simp] theorem br_false (A B : Prop) : br false A B = B := rfl
theorem br_gen (b : Bool) (A B : Prop) : br b A B = ((b = true → A) ∧ (b = false → B)) := by cases b <;> simp [br]
noncomputable def lk : Fm → Nat → Option PV
  | [], _ => none
  | x :: _, 0 => x
  | _ :: m, n + 1 => lk m n
@[simp] theorem lk_zero (x : Option PV) (m : Fm) : lk (x :: m) 0 = x := rfl
@[simp] theorem lk_succ (x : Option PV) (m : Fm) (n : Nat) : lk (x :: m) (n + 1) = lk m n := rfl
theorem lk_some : ∀ {m : Fm} {i : Nat} {p : PV}, lk m i = some p → m[i]? = some (some p)
  | [], _, _, h => nomatch h
  | x :: _, 0, _, h => by rw [lk_zero] at h; rw [h]; rfl
  | _ :: m, n + 1, _, h => by rw [List.getElem?_cons_succ]; exact lk_some h
noncomputable def lenLe : List PV → Nat → Bool
  | [], _ => true
  | _ :: _, 0 => false
  | _ :: r, n + 1 => lenLe r n
@[simp] theorem lenLe_nil (n : Nat) : lenLe [] n = true := rfl
@[simp] theorem lenLe_cons (x : PV) (r : List PV) (n : Nat) : lenLe (x :: r) (n + 1) = lenLe r n := rfl
theorem lenLe_le : ∀ {ps : List PV} {n : Nat}, lenLe ps n = true → ps.length ≤ n
  | [], _, _ => Nat.zero_le _
  | _ :: _, 0, h => nomatch h
  | _ :: r, n + 1, h => Nat.succ_le_succ (lenLe_le (ps := r) h)
theorem br_and {b : Bool} {A : Prop} (h : br b A False) : b = true ∧ A := by
  cases b with
  | true => exact ⟨rfl, h⟩
  | false => exact False.elim h
@[simp] noncomputable def W.loc (i : Nat) : WE := fun m st Q => orF (lk m i) fun p => Q p st
theorem W.loc_ex {i : Nat} {m : Fm} {st : St} {Q : PV → St → Prop} (h : W.loc i m st Q) : ∃ p, m[i]? = some (some p) ∧ Q p st := by
  obtain ⟨p, e, q⟩ := orF.elim h
  exact ⟨p, lk_some e, q⟩
@[simp] noncomputable def W.const (p : PV) : WE := fun _ st Q => Q p st

theorem Ext.toks (s : Shared) (tk : Nat) : Ext s { s with toks := tk } := ⟨.rfl' _, rfl, rfl⟩
theorem Rep.toks {P : Prot} (R : Rep c P L names s.heap m st) (tk : Nat) : Rep c P L names ({ s with toks := tk } : Shared).heap m st := R

theorem SE.loc {x : Str} {pos : Pos} {i : Nat} (hi : names[i]? = some x) (hnd : names.Nodup) (hk : scope.kind = .function) (hx : scope.names.lookup x = some .local) (hd : (x == ("__debug__" : Str)) = false) :
    SE c n names scope (.Name x pos) (W.loc i) := fun _ _ _ _ _ _ _ _ _ _ r R hw => by
  obtain ⟨p, hp, hq⟩ := W.loc_ex hw
  obtain ⟨M, hM, hm⟩ := R.f
  obtain ⟨y, v, a1, a2, a3⟩ := hm i p hp
  rw [hi] at a1; cases a1
  exact wpAny_Name (wpAny_loadName_local hk hx hM a2 ⟨p, _, R, a3, .rfl' _, hq⟩) hd
theorem SE.int {i : Int} {k : Nat} {pos : Pos} : SE c n names scope (.Constant (.int i) k pos) (W.const (.int i)) := fun _ _ _ _ _ _ _ _ _ _ r R hw =>
  wpAny_Constant_int ⟨.int i, _, R, .int_ _ _ _, .toks _ _, hw⟩
theorem SE.str {x : Str} {k : Nat} {pos : Pos} : SE c n names scope (.Constant (.str x) k pos) (W.const (.str x)) := fun _ _ _ _ _ _ _ _ _ _ r R hw =>
  wpAny_Constant_str ⟨.str x, _, R, .str_ _ _ _, .toks _ _, hw⟩
theorem SE.bool {b : Bool} {k : Nat} {pos : Pos} : SE c n names scope (.Constant (.bool b) k pos) (W.const (.bool b)) := fun _ _ _ _ _ _ _ _ _ _ r R hw =>
  wpAny_Constant_bool ⟨.bool b, _, R, .bool_ _ _, .rfl' _, hw⟩
theorem SE.noneC {k : Nat} {pos : Pos} : SE c n names scope (.Constant .none k pos) (W.const .none) := fun _ _ _ _ _ _ _ _ _ _ r R hw =>
  wpAny_Constant_none ⟨.none, _, R, .none_ _, .rfl' _, hw⟩
/-- a global name whose value is plain -/
theorem SE.glob {x : Str} {pos : Pos} {v : Value} {p : PV} (hx : nsIn c.K mainGlobals x = some (some v)) (hv : ∀ h, VR h p v) (hk : scope.kind = .function) (hl : scope.names.lookup x = some .globalImplicit)
    (hd : (x == ("__debug__" : Str)) = false) : SE c n names scope (.Name x pos) (W.const p) := fun _ _ _ _ _ _ _ _ _ _ r R hw =>
  Calls.Name_function_global hk hl (Calls.loadGlobal_global (c.g.keeps R.keeps₀) (mg_of c.X c.g hx) ⟨_, _, R, hv _, .rfl' _, hw⟩) hd

@[simp] noncomputable def W.nil : WEs := fun _ st Q => Q [] st
@[simp] noncomputable def W.cons (e : WE) (es : WEs) : WEs := fun m st Q => e m st fun p st₁ => es m st₁ fun ps st₂ => Q (p :: ps) st₂
theorem SEs.nil : SEs c n names scope [] W.nil := fun _ _ _ _ _ _ _ _ _ _ _ r R hw => wpAny_items_nil ⟨[], _, R, rfl, .rfl' _, hw⟩
theorem SEs.cons {e : Expr} {es : List Expr} {w : WE} {ws : WEs} (he : ∀ env, starEach (e :: es) env = (false, eval e env) :: starEach es env) (h : SE c n names scope e w) (hs : SEs c n names scope es ws) :
    SEs c n names scope (e :: es) (W.cons w ws) := fun _ _ _ _ _ _ _ _ _ _ _ r R hw => by
  refine wpAny_items_cons (wpM (h r R hw) fun v s₁ ⟨p, st₁, R₁, V₁, X₁, q₁⟩ => ?_) (he _)
  refine wpM (hs r R₁ q₁) fun vs s₂ ⟨ps, st₂, R₂, V₂, X₂, q₂⟩ => ?_
  exact ⟨p :: ps, st₂, R₂, ⟨v, vs, rfl, VR.mono X₂.tk _ _ V₁, V₂⟩, X₁.trans X₂, q₂⟩

theorem keepPush {h : Heap} (o : Obj) : ∀ b o', h.get? b = some o' → (h.push o).get? b = some o' := fun _ _ e => Heap.get?_push_of_some o e
theorem Ext.keep {s : Shared} {h' : Heap} {tk : Nat} (k : ∀ b o, s.heap.get? b = some o → h'.get? b = some o) : Ext s { s with heap := h', toks := tk } := ⟨.of_keep k, rfl, rfl⟩

@[simp] noncomputable def W.tup (es : WEs) : WE := fun m st Q => es m st fun ps st₁ => br (lenLe ps 1000) (Q (.tup ps) st₁) False
theorem SE.tup {es : List Expr} {k : Nat} {pos : Pos} {w : WEs} (h : SEs c n names scope es w) : SE c n names scope (.Tuple es k pos) (W.tup w) := fun _ _ _ _ _ _ _ _ _ _ r R hw => by
  refine wpAny_Tuple (wpM (h r R hw) fun vs s₁ ⟨ps, st₁, R₁, V₁, X₁, q₀⟩ => ?_)
  obtain ⟨hl, q₁⟩ := br_and q₀
  have hlen : vs.length ≤ 1000 := by rw [V₁.length]; exact lenLe_le hl
  refine ⟨by rw [sizeLine_eq]; (first | lia | omega), .tup ps, st₁, R₁.keep (keepPush _), ⟨_, vs, 0, rfl, Heap.get?_push_size _ rfl, by unfold lim; (first | lia | omega), VRs.mono (.of_keep (keepPush _)) _ _ V₁⟩, X₁.trans (Ext.keep (keepPush _)), q₁⟩
@[simp] noncomputable def W.list (es : WEs) : WE := fun m st Q => es m st fun ps st₁ => br (lenLe ps 1000) (∀ a, st₁.free a → Q (.ref a) (st₁.setL a ps)) False
theorem SE.list {es : List Expr} {pos : Pos} {w : WEs} (h : SEs c n names scope es w) : SE c n names scope (.List es pos) (W.list w) := fun _ _ _ _ _ _ _ _ _ _ r R hw => by
  refine wpAny_List (wpM (h r R hw) fun vs s₁ ⟨ps, st₁, R₁, V₁, X₁, q₀⟩ => ?_)
  obtain ⟨hl, q₁⟩ := br_and q₀
  have hlen : vs.length ≤ 1000 := by rw [V₁.length]; exact lenLe_le hl
  obtain ⟨hf, R₂⟩ := R₁.newL (a := s₁.heap.objs.size) (Nat.le_refl _) (keepPush _) (Heap.get?_push_size _ rfl) (by unfold lim; (first | lia | omega)) V₁
  exact ⟨by rw [sizeLine_eq]; (first | lia | omega), .ref _, _, R₂, rfl, X₁.trans (Ext.keep (keepPush _)), q₁ _ hf⟩

/-! plain two-place operations -/
@[simp] noncomputable def W.bin (g : PV → PV → Option PV) (a b : WE) : WE := fun m st Q => a m st fun p st₁ => b m st₁ fun u st₂ => orF (g p u) fun r => Q r st₂
@[simp] noncomputable def gAdd : PV → PV → Option PV | .int i, .int j => some (.int (i + j)) | _, _ => none
@[simp] noncomputable def gSub : PV → PV → Option PV | .int i, .int j => some (.int (i - j)) | _, _ => none
@[simp] noncomputable def gMod : PV → PV → Option PV | .int i, .int j => if 0 < j ∧ j < 100 then some (.int (i % j)) else none | _, _ => none
@[simp] noncomputable def gDiv : PV → PV → Option PV | .int i, .int j => if 0 < j ∧ j < 100 then some (.int (i / j)) else none | _, _ => none
@[simp] noncomputable def gLt : PV → PV → Option Bool | .int i, .int j => some (decide (i < j)) | _, _ => none
@[simp] noncomputable def gLe : PV → PV → Option Bool | .int i, .int j => some (decide (i ≤ j)) | _, _ => none
@[simp] noncomputable def gGt : PV → PV → Option Bool | .int i, .int j => some (decide (j < i)) | _, _ => none
@[simp] noncomputable def gGe : PV → PV → Option Bool | .int i, .int j => some (decide (j ≤ i)) | _, _ => none
@[simp] noncomputable def gEq : PV → PV → Option Bool | .int i, .int j => some (decide (i = j)) | .str x, .str y => some (decide (x = y)) | .int _, .str _ => some false | .str _, .int _ => some false | _, _ => none

/-- the rule for an operation: what the library says, for values that stand for p and u -/
noncomputable def OpOk (c : Cx) (op : Value → Value → Sem Value) (g : PV → PV → Option PV) : Prop := ∀ {A : Around} {s : Shared} {n : Nat} {p u r : PV} {v x : Value} {h : Heap} {Q : Value → Shared → Prop}, Room n A → (∃ P L names m st, Rep c P L names s.heap m st) → VR s.heap p v → VR h u x → g p u = some r →
  (∀ y tk, VR s.heap r y → Q y { s with toks := tk }) → wpAny (model c.prog c.w) A (op v x) Q noE s
theorem SE.bin {l r : Expr} {op : Operator} {pos : Pos} {g : PV → PV → Option PV} {wl wr : WE} (ho : OpOk c (binaryOp op) g) (hl : SE c n names scope l wl) (hr : SE c n names scope r wr) : SE c n names scope (.BinOp l op r pos) (W.bin g wl wr) := fun _ _ _ _ _ _ _ _ _ _ rm R hw => by
  refine wpAny_BinOp (wpM (hl rm R hw) fun v s₁ ⟨p, st₁, R₁, V₁, X₁, q₁⟩ => ?_)
  refine wpM (hr rm R₁ q₁) fun x s₂ ⟨u, st₂, R₂, V₂, X₂, q₂⟩ => ?_
  obtain ⟨r, e, q₃⟩ := orF.elim q₂
  exact ho rm ⟨_, _, _, _, _, R₂⟩ (VR.mono X₂.tk _ _ V₁) V₂ e fun y tk hy => ⟨r, st₂, R₂, hy, (X₁.trans X₂).trans (.toks _ _), q₃⟩

theorem op_add : OpOk c (binaryOp .Add) gAdd := fun {A s n p u r v x h Q} rm R V1 V2 e k => by
  unfold gAdd at e; split at e <;> cases e
  obtain ⟨t, rfl⟩ := V1; obtain ⟨t', rfl⟩ := V2
  exact P.add_int (k _ _ (.int_ _ _ _))
theorem op_sub : OpOk c (binaryOp .Sub) gSub := fun {A s n p u r v x h Q} rm R V1 V2 e k => by
  unfold gSub at e; split at e <;> cases e
  obtain ⟨t, rfl⟩ := V1; obtain ⟨t', rfl⟩ := V2
  exact P.sub_int (k _ _ (.int_ _ _ _))
theorem op_mod : OpOk c (binaryOp .Mod) gMod := fun {A s n p u r v x h Q} rm R V1 V2 e k => by
  unfold gMod at e; split at e
  · rename_i i j
    split at e <;> cases e
    rename_i hj
    obtain ⟨t, rfl⟩ := V1; obtain ⟨t', rfl⟩ := V2
    refine mod_int' (by (first | lia | omega)) ?_
    rw [Int.fmod_eq_emod_of_nonneg _ (by (first | lia | omega))]
    exact k _ _ (.int_ _ _ _)
  · cases e
theorem op_div : OpOk c (binaryOp .FloorDiv) gDiv := fun {A s n p u r v x h Q} rm R V1 V2 e k => by
  unfold gDiv at e; split at e
  · rename_i i j
    split at e <;> cases e
    rename_i hj
    obtain ⟨t, rfl⟩ := V1; obtain ⟨t', rfl⟩ := V2
    refine floordiv_int (by (first | lia | omega)) ?_ (.inl (PyProof.noPylong_small (by (first | lia | omega))))
    rw [Int.fdiv_eq_ediv_of_nonneg _ (by (first | lia | omega))]
    exact k _ _ (.int_ _ _ _)
  · cases e

/-! comparisons -/
noncomputable def CmpOk (c : Cx) (op : CmpOp) (g : PV → PV → Option Bool) : Prop := ∀ {A : Around} {s : Shared} {n : Nat} {p u : PV} {b : Bool} {v x : Value} {Q : Value → Shared → Prop}, Room n A → (∃ P L names m st, Rep c P L names s.heap m st) → VR s.heap p v → VR s.heap u x → g p u = some b →
  (∀ tk, Q (.bool b) { s with toks := tk }) → wpAny (model c.prog c.w) A (compareOp op v x) Q noE s
@[simp] noncomputable def W.cmp (g : PV → PV → Option Bool) (a b : WE) : WE := fun m st Q => a m st fun p st₁ => b m st₁ fun u st₂ => orF (g p u) fun r => Q (.bool r) st₂
@[simp] noncomputable def W.cmpT (g : PV → PV → Option Bool) (a b : WE) : WT := fun m st Q => a m st fun p st₁ => b m st₁ fun u st₂ => orF (g p u) fun r => Q r st₂
theorem SE.cmp {l r : Expr} {op : CmpOp} {pos : Pos} {g : PV → PV → Option Bool} {wl wr : WE} (ho : CmpOk c op g) (hl : SE c n names scope l wl) (hr : SE c n names scope r wr) (hm : behindInMarks op r = false) :
    SE c n names scope (.Compare l [op] [r] pos) (W.cmp g wl wr) := fun _ _ _ _ _ _ _ _ _ _ rm R hw => by
  refine wpAny_Compare1 (wpM (hl rm R hw) fun v s₁ ⟨p, st₁, R₁, V₁, X₁, q₁⟩ => ?_) hm
  refine wpM (hr rm R₁ q₁) fun x s₂ ⟨u, st₂, R₂, V₂, X₂, q₂⟩ => ?_
  obtain ⟨r, e, q₃⟩ := orF.elim q₂
  exact ho rm ⟨_, _, _, _, _, R₂⟩ (VR.mono X₂.tk _ _ V₁) V₂ e fun tk => ⟨.bool r, st₂, R₂, .bool_ _ _, (X₁.trans X₂).trans (.toks _ _), q₃⟩
theorem ST.cmp {l r : Expr} {op : CmpOp} {pos : Pos} {g : PV → PV → Option Bool} {wl wr : WE} (ho : CmpOk c op g) (hl : SE c n names scope l wl) (hr : SE c n names scope r wr) (hm : behindInMarks op r = false) :
    ST c n names scope (.Compare l [op] [r] pos) (W.cmpT g wl wr) := fun _ _ _ _ _ _ _ _ _ _ rm R hw => by
  refine wpAny_isTrue_Compare1 (wpM (hl rm R hw) fun v s₁ ⟨p, st₁, R₁, V₁, X₁, q₁⟩ => ?_) hm
  refine wpM (hr rm R₁ q₁) fun x s₂ ⟨u, st₂, R₂, V₂, X₂, q₂⟩ => ?_
  obtain ⟨r, e, q₃⟩ := orF.elim q₂
  exact ho rm ⟨_, _, _, _, _, R₂⟩ (VR.mono X₂.tk _ _ V₁) V₂ e fun tk => wpAny_truthy_bool ⟨st₂, R₂, (X₁.trans X₂).trans (.toks _ _), q₃⟩

theorem beq_dec {α : Type} [BEq α] [LawfulBEq α] [DecidableEq α] (a b : α) : (a == b) = decide (a = b) := by
  by_cases h : a = b
  · subst h; simp
  · simp [h]
theorem cmp_lt : CmpOk c .Lt gLt := fun {A s n p u b v x Q} rm R V1 V2 e k => by
  unfold gLt at e; split at e <;> cases e
  obtain ⟨t, rfl⟩ := V1; obtain ⟨t', rfl⟩ := V2
  exact P.lt_int (k s.toks)
theorem cmp_le : CmpOk c .LtE gLe := fun {A s n p u b v x Q} rm R V1 V2 e k => by
  unfold gLe at e; split at e <;> cases e
  obtain ⟨t, rfl⟩ := V1; obtain ⟨t', rfl⟩ := V2
  exact P.le_int (k s.toks)
theorem cmp_gt : CmpOk c .Gt gGt := fun {A s n p u b v x Q} rm R V1 V2 e k => by
  unfold gGt at e; split at e <;> cases e
  obtain ⟨t, rfl⟩ := V1; obtain ⟨t', rfl⟩ := V2
  exact P.gt_int (k s.toks)
theorem cmp_ge : CmpOk c .GtE gGe := fun {A s n p u b v x Q} rm R V1 V2 e k => by
  unfold gGe at e; split at e <;> cases e
  obtain ⟨t, rfl⟩ := V1; obtain ⟨t', rfl⟩ := V2
  exact P.ge_int (k s.toks)
theorem cmp_eq : CmpOk c .Eq gEq := fun {A s n p u b v x Q} rm R V1 V2 e k => by
  unfold gEq at e; split at e <;> cases e
  · obtain ⟨t, rfl⟩ := V1; obtain ⟨t', rfl⟩ := V2
    exact P.eq_int (by rw [beq_dec]; exact k s.toks)
  · obtain ⟨t, rfl⟩ := V1; obtain ⟨t', rfl⟩ := V2
    exact PyProof.Rows.eq_str (by rw [beq_dec]; exact k s.toks)
  · obtain ⟨t, rfl⟩ := V1; obtain ⟨t', rfl⟩ := V2
    exact EqMixed.eq_int_str (k s.toks)
  · obtain ⟨t, rfl⟩ := V1; obtain ⟨t', rfl⟩ := V2
    exact EqMixed.eq_str_int (k s.toks)

/-! tests -/
@[simp] noncomputable def isB : PV → Option Bool | .bool b => some b | _ => none
@[simp] noncomputable def W.valT (e : WE) : WT := fun m st Q => e m st fun p st₁ => orF (isB p) fun b => Q b st₁
theorem ST.val {e : Expr} {w : WE} (h : SE c n names scope e w) (he : ∀ env whole, isTrue e env whole = (do let v ← whole; standAt e.pos; holding [v] (truthy v))) : ST c n names scope e (W.valT w) := fun _ _ _ _ _ _ _ _ _ _ rm R hw => by
  refine wpAny_isTrue_value (wpM (h rm R hw) fun v s₁ ⟨p, st₁, R₁, V₁, X₁, q₁⟩ => ?_) (he _ _)
  obtain ⟨b, e, q₂⟩ := orF.elim q₁
  unfold isB at e; split at e <;> cases e
  cases V₁
  exact wpAny_truthy_bool ⟨st₁, R₁, X₁, q₂⟩
@[simp] noncomputable def W.notT (t : WT) : WT := fun m st Q => t m st fun b st₁ => Q (!b) st₁
theorem ST.not {e : Expr} {pos : Pos} {w : WT} (h : ST c n names scope e w) : ST c n names scope (.UnaryOp .Not e pos) (W.notT w) := fun _ _ _ _ _ _ _ _ _ _ rm R hw =>
  wpAny_isTrue_Not (wpM (h rm R hw) fun b s₁ ⟨st₁, R₁, X₁, q₁⟩ => ⟨st₁, R₁, X₁, q₁⟩)
noncomputable def SAll (c : Cx) (n : Nat) (names : List Str) (scope : Scope) (op : BoolOp) (es : List Expr) (w : WT) : Prop := ∀ ⦃P L q f cd A s m st Q⦄, Room n A → Rep c P L names s.heap m st → w m st Q →
  wpAny (model c.prog c.w) A (allTrue op es (envOf q scope L f cd)) (PostT c P L names m Q s) noE s
@[simp] noncomputable def W.tt (b : Bool) : WT := fun _ st Q => Q b st
@[simp] noncomputable def W.andT (t ts : WT) : WT := fun m st Q => t m st fun b st₁ => br b (ts m st₁ Q) (Q false st₁)
@[simp] noncomputable def W.orT (t ts : WT) : WT := fun m st Q => t m st fun b st₁ => br b (Q true st₁) (ts m st₁ Q)
theorem PostT.ext {P : Prot} {s s₁ : Shared} {Q : Bool → St → Prop} (X : Ext s s₁) {b : Bool} {s' : Shared} (h : PostT c P L names m Q s₁ b s') : PostT c P L names m Q s b s' := let ⟨st', a, b, d⟩ := h; ⟨st', a, X.trans b, d⟩
theorem PostE.ext {P : Prot} {s s₁ : Shared} {Q : PV → St → Prop} (X : Ext s s₁) {v : Value} {s' : Shared} (h : PostE c P L names m Q s₁ v s') : PostE c P L names m Q s v s' := let ⟨p, st', a, b, d, e⟩ := h; ⟨p, st', a, b, X.trans d, e⟩
theorem PostS.ext {P : Prot} {s s₁ : Shared} {Q : Fl → Fm → St → Prop} (X : Ext s s₁) {v : Flow} {s' : Shared} (h : PostS c P L names Q s₁ v s') : PostS c P L names Q s v s' := let ⟨p, m', st', a, b, d, e⟩ := h; ⟨p, m', st', a, b, X.trans d, e⟩
theorem SAll.nilA : SAll c n names scope .And [] (W.tt true) := fun _ _ _ _ _ _ _ _ _ _ rm R hw => wpAny_allTrue_And_nil ⟨_, R, .rfl' _, hw⟩
theorem SAll.nilO : SAll c n names scope .Or [] (W.tt false) := fun _ _ _ _ _ _ _ _ _ _ rm R hw => wpAny_allTrue_Or_nil ⟨_, R, .rfl' _, hw⟩
theorem SAll.consA {e : Expr} {es : List Expr} {w ws : WT} (h : ST c n names scope e w) (hs : SAll c n names scope .And es ws) : SAll c n names scope .And (e :: es) (W.andT w ws) := fun _ _ _ _ _ _ _ _ _ _ rm R hw => by
  refine wpAny_allTrue_And_cons (wpM (h rm R hw) fun b s₁ ⟨st₁, R₁, X₁, q₁⟩ => ?_)
  cases b
  · exact ⟨st₁, R₁, X₁, q₁⟩
  · exact wpM (hs rm R₁ q₁) fun b s₂ z => z.ext X₁
theorem SAll.consO {e : Expr} {es : List Expr} {w ws : WT} (h : ST c n names scope e w) (hs : SAll c n names scope .Or es ws) : SAll c n names scope .Or (e :: es) (W.orT w ws) := fun _ _ _ _ _ _ _ _ _ _ rm R hw => by
  refine wpAny_allTrue_Or_cons (wpM (h rm R hw) fun b s₁ ⟨st₁, R₁, X₁, q₁⟩ => ?_)
  cases b
  · exact wpM (hs rm R₁ q₁) fun b s₂ z => z.ext X₁
  · exact ⟨st₁, R₁, X₁, q₁⟩
theorem ST.bool {op : BoolOp} {es : List Expr} {pos : Pos} {w : WT} (h : SAll c n names scope op es w) : ST c n names scope (.BoolOp op es pos) w := fun _ _ _ _ _ _ _ _ _ _ rm R hw => wpAny_isTrue_BoolOp (h rm R hw)

/-! «and», «or» as values, of bools -/
noncomputable def SBo (c : Cx) (n : Nat) (names : List Str) (scope : Scope) (op : BoolOp) (es : List Expr) (w : WE) : Prop := ∀ ⦃P L q f cd A s m st Q pos⦄, Room n A → Rep c P L names s.heap m st → w m st Q →
  wpAny (model c.prog c.w) A (boolOp pos op (evalEach es (envOf q scope L f cd))) (PostE c P L names m Q s) noE s
@[simp] noncomputable def W.andV (a b : WE) : WE := fun m st Q => a m st fun p st₁ => orF (isB p) fun t => br t (b m st₁ Q) (Q (.bool false) st₁)
@[simp] noncomputable def W.orV (a b : WE) : WE := fun m st Q => a m st fun p st₁ => orF (isB p) fun t => br t (Q (.bool true) st₁) (b m st₁ Q)
theorem SBo.one {op : BoolOp} {e : Expr} {w : WE} (h : SE c n names scope e w) : SBo c n names scope op [e] w := fun _ _ _ _ _ _ _ _ _ _ _ rm R hw => h rm R hw
theorem SBo.consA {e e' : Expr} {es : List Expr} {w ws : WE} (h : SE c n names scope e w) (hs : SBo c n names scope .And (e' :: es) ws) : SBo c n names scope .And (e :: e' :: es) (W.andV w ws) := fun ⦃P L q f cd A s m st Q pos⦄ rm R hw => by
  show wpAny _ A (PySem.boolOp pos .And (eval e _ :: eval e' _ :: evalEach es _)) _ _ s
  unfold PySem.boolOp
  refine wpAny_bind (wpM (h rm R hw) fun v s₁ ⟨p, st₁, R₁, V₁, X₁, q₁⟩ => ?_)
  obtain ⟨b, e, q₂⟩ := orF.elim q₁
  unfold isB at e; split at e <;> cases e
  cases V₁
  refine wpAny_bind (wpAny_standAt (wpAny_bind (wpAny_holding (wpAny_truthy_bool ?_))))
  cases b
  · exact wpAny_pure ⟨.bool false, st₁, R₁, .bool_ _ _, X₁, q₂⟩
  · exact wpM (hs rm R₁ q₂) fun b s₂ z => z.ext X₁
theorem SBo.consO {e e' : Expr} {es : List Expr} {w ws : WE} (h : SE c n names scope e w) (hs : SBo c n names scope .Or (e' :: es) ws) : SBo c n names scope .Or (e :: e' :: es) (W.orV w ws) := fun ⦃P L q f cd A s m st Q pos⦄ rm R hw => by
  show wpAny _ A (PySem.boolOp pos .Or (eval e _ :: eval e' _ :: evalEach es _)) _ _ s
  unfold PySem.boolOp
  refine wpAny_bind (wpM (h rm R hw) fun v s₁ ⟨p, st₁, R₁, V₁, X₁, q₁⟩ => ?_)
  obtain ⟨b, e, q₂⟩ := orF.elim q₁
  unfold isB at e; split at e <;> cases e
  cases V₁
  refine wpAny_bind (wpAny_standAt (wpAny_bind (wpAny_holding (wpAny_truthy_bool ?_))))
  cases b
  · exact wpM (hs rm R₁ q₂) fun b s₂ z => z.ext X₁
  · exact wpAny_pure ⟨.bool true, st₁, R₁, .bool_ _ _, X₁, q₂⟩
theorem SE.boolOp {op : BoolOp} {es : List Expr} {pos : Pos} {w : WE} (h : SBo c n names scope op es w) : SE c n names scope (.BoolOp op es pos) w := fun ⦃P L q f cd A s m st Q⦄ rm R hw => by
  show wpAny _ A (PySem.boolOp pos op (evalEach es _)) _ _ s
  exact h rm R hw
@[simp] noncomputable def W.neg (e : WE) : WE := fun m st Q => e m st fun p st₁ => orF (match p with | .int i => some (-i) | _ => none) fun i => Q (.int i) st₁
theorem SE.neg {e : Expr} {pos : Pos} {w : WE} (h : SE c n names scope e w) : SE c n names scope (.UnaryOp .USub e pos) (W.neg w) := fun _ _ _ _ _ _ _ _ _ _ rm R hw => by
  refine wpAny_UnaryOp (wpM (h rm R hw) fun v s₁ ⟨p, st₁, R₁, V₁, X₁, q₁⟩ => ?_)
  obtain ⟨b, e, q₂⟩ := orF.elim q₁
  split at e <;> cases e
  obtain ⟨t, rfl⟩ := V₁
  exact P.neg_int ⟨.int _, st₁, R₁, .int_ _ _ _, X₁.trans (.toks _ _), q₂⟩

/-! ### statements -/
@[simp] noncomputable def W.bad {α β γ : Type} : α → β → γ → Prop := fun _ _ _ => False
theorem SX.bad {e : Stmt} : SX c n names scope e W.bad := fun _ _ _ _ _ _ _ _ _ _ rm R hw => hw.elim
theorem SS.bad {e : List Stmt} : SS c n names scope e W.bad := fun _ _ _ _ _ _ _ _ _ _ rm R hw => hw.elim
theorem SE.bad {e : Expr} : SE c n names scope e W.bad := fun _ _ _ _ _ _ _ _ _ _ rm R hw => hw.elim
theorem ST.bad {e : Expr} : ST c n names scope e W.bad := fun _ _ _ _ _ _ _ _ _ _ rm R hw => hw.elim

@[simp] noncomputable def W.skip : WS := fun m st Q => Q .next m st
@[simp] noncomputable def W.seq (a b : WS) : WS := fun m st Q => a m st fun fl m₁ st₁ => match fl with | .next => b m₁ st₁ Q | fl => Q fl m₁ st₁
theorem SS.nil : SS c n names scope [] W.skip := fun _ _ _ _ _ _ _ _ _ _ rm R hw => wpAny_execs_nil ⟨.next, _, _, R, rfl, .rfl' _, hw⟩
theorem SS.cons {e : Stmt} {es : List Stmt} {w ws : WS} (h : SX c n names scope e w) (hs : SS c n names scope es ws) : SS c n names scope (e :: es) (W.seq w ws) := fun _ _ _ _ _ _ _ _ _ _ rm R hw => by
  refine wpAny_execs_cons (wpM (h rm R hw) fun fl s₁ ⟨g, m₁, st₁, R₁, F₁, X₁, q₁⟩ => ?_)
  cases g with
  | next => cases F₁; exact wpM (hs rm R₁ q₁) fun b s₂ z => z.ext X₁
  | brk => cases F₁; exact ⟨.brk, m₁, st₁, R₁, rfl, X₁, q₁⟩
  | cont => cases F₁; exact ⟨.cont, m₁, st₁, R₁, rfl, X₁, q₁⟩
  | ret p => obtain ⟨v, rfl, hv⟩ := F₁; exact ⟨.ret p, m₁, st₁, R₁, ⟨v, rfl, hv⟩, X₁, q₁⟩
theorem SS.one {e : Stmt} {w : WS} (h : SX c n names scope e w) : SS c n names scope [e] w := fun _ _ _ _ _ _ _ _ _ _ rm R hw => by
  refine wpAny_execs_cons (wpM (h rm R hw) fun fl s₁ ⟨g, m₁, st₁, R₁, F₁, X₁, q₁⟩ => ?_)
  cases g with
  | next => cases F₁; exact wpAny_execs_nil ⟨.next, m₁, st₁, R₁, rfl, X₁, q₁⟩
  | brk => cases F₁; exact ⟨.brk, m₁, st₁, R₁, rfl, X₁, q₁⟩
  | cont => cases F₁; exact ⟨.cont, m₁, st₁, R₁, rfl, X₁, q₁⟩
  | ret p => obtain ⟨v, rfl, hv⟩ := F₁; exact ⟨.ret p, m₁, st₁, R₁, ⟨v, rfl, hv⟩, X₁, q₁⟩

@[simp] noncomputable def W.pass : WS := fun m st Q => Q .next m st
@[simp] noncomputable def W.cont : WS := fun m st Q => Q .cont m st
@[simp] noncomputable def W.ret (e : WE) : WS := fun m st Q => e m st fun p st₁ => Q (.ret p) m st₁
theorem SX.pass {pos : Pos} : SX c n names scope (.Pass pos) W.pass := fun _ _ _ _ _ _ _ _ _ _ rm R hw => wpAny_Pass ⟨.next, _, _, R, rfl, .rfl' _, hw⟩
theorem SX.cont {pos : Pos} : SX c n names scope (.Continue pos) W.cont := fun _ _ _ _ _ _ _ _ _ _ rm R hw => wpAny_Continue ⟨.cont, _, _, R, rfl, .rfl' _, hw⟩
theorem SX.ret {e : Expr} {pos : Pos} {w : WE} (h : SE c n names scope e w) : SX c n names scope (.Return (some e) pos) (W.ret w) := fun _ _ _ _ _ _ _ _ _ _ rm R hw =>
  wpAny_Return_some (wpM (h rm R hw) fun v s₁ ⟨p, st₁, R₁, V₁, X₁, q₁⟩ => ⟨.ret p, _, st₁, R₁, ⟨v, rfl, V₁⟩, X₁, q₁⟩)
@[simp] noncomputable def PV.plain : PV → Bool | .tup _ => false | .ref _ => false | _ => true
@[simp] noncomputable def W.expr (e : WE) : WS := fun m st Q => e m st fun p st₁ => p.plain = true ∧ Q .next m st₁
theorem SX.expr {e : Expr} {pos : Pos} {w : WE} (h : SE c n names scope e w) (hs : ∀ env, swapsWith e none pos.line env = pure false) (hk : scope.kind = .function) : SX c n names scope (.Expr e pos) (W.expr w) := fun _ _ _ _ _ _ _ _ _ _ rm R hw => by
  refine wpAny_Expr (wpM (h rm R hw) fun v s₁ ⟨p, st₁, R₁, V₁, X₁, hp, q₁⟩ => ?_) (by unfold interactive; show (scope.kind == .module && _) = false; rw [hk]; rfl) (hs _)
  have fin : PostS c _ _ names _ _ .next s₁ := ⟨.next, _, st₁, R₁, rfl, X₁, q₁⟩
  cases p with
  | none => cases V₁; exact fin
  | bool b => cases V₁; exact fin
  | int i => obtain ⟨t, rfl⟩ := V₁; exact fin
  | str i => obtain ⟨t, rfl⟩ := V₁; exact fin
  | tup l => cases hp
  | ref a => cases hp
@[simp] noncomputable def W.ite (t : WT) (a b : WS) : WS := fun m st Q => t m st fun v st₁ => br v (a m st₁ Q) (b m st₁ Q)
theorem SX.ite {t : Expr} {a b : List Stmt} {pos : Pos} {wt : WT} {wa wb : WS} (ht : ST c n names scope t wt) (ha : SS c n names scope a wa) (hb : SS c n names scope b wb) : SX c n names scope (.If t a b pos) (W.ite wt wa wb) := fun _ _ _ _ _ _ _ _ _ _ rm R hw => by
  refine wpAny_If (wpM (ht rm R hw) fun b s₁ ⟨st₁, R₁, X₁, q₁⟩ => ?_)
  cases b
  · exact wpM (hb rm R₁ q₁) fun b s₂ z => z.ext X₁
  · exact wpM (ha rm R₁ q₁) fun b s₂ z => z.ext X₁

/-- a name of the frame stored -/
theorem storeName_ {P : Prot} {x : Str} {i : Nat} {p : PV} {v : Value} {Q : Unit → Shared → Prop} (hi : names[i]? = some x) (hnd : names.Nodup) (hk : scope.kind = .function) (hx : scope.names.lookup x = some .local)
    (R : Rep c P L names s.heap m st) (hv : VR s.heap p v) (h : ∀ h' tk, Rep c P L names h' (m.set i (some p)) st → TK s.heap h' → Q () { s with heap := h', toks := tk }) :
    wpAny (model c.prog c.w) A (storeName (envOf q scope L f cd) x v) Q noE s := by
  obtain ⟨M, hM, k⟩ := R.store hnd
  refine wpAny_storeName_local hx hM (fun h' hn hs => ?_) (by show (scope.kind == .class || (scope.kind == .module && L != mainGlobals)) = false; rw [hk]; rfl)
  obtain ⟨R', t⟩ := k h' x v p i hi hn hs hv
  exact h _ _ R' t
@[simp] noncomputable def W.asg (i : Nat) (e : WE) : WS := fun m st Q => e m st fun p st₁ => Q .next (m.set i (some p)) st₁
theorem SX.asg {x : Str} {pos' pos : Pos} {e : Expr} {w : WE} {i : Nat} (hi : names[i]? = some x) (hnd : names.Nodup) (hk : scope.kind = .function) (hx : scope.names.lookup x = some .local) (hs : ∀ env, swapsWith e (some (.Name x pos')) pos.line env = pure false)
    (h : SE c n names scope e w) : SX c n names scope (.Assign [.Name x pos'] e pos) (W.asg i w) := fun _ _ _ _ _ _ _ _ _ _ rm R hw =>
  wpAny_Assign_Name (wpM (h rm R hw) fun v s₁ ⟨p, st₁, R₁, V₁, X₁, q₁⟩ =>
    storeName_ hi hnd hk hx R₁ V₁ fun h' tk R' t => ⟨.next, _, st₁, R', rfl, X₁.trans ⟨t, rfl, rfl⟩, q₁⟩) (hs _)
noncomputable def InpOk (c : Cx) (op : Operator) (g : PV → PV → Option PV) : Prop := OpOk c (inplaceOp op) g
theorem inp_add : OpOk c (inplaceOp .Add) gAdd := fun {A s n p u r v x h Q} rm R V1 V2 e k => by
  unfold gAdd at e; split at e <;> cases e
  obtain ⟨t, rfl⟩ := V1; obtain ⟨t', rfl⟩ := V2
  exact P.iadd_int (k _ _ (.int_ _ _ _))
theorem inp_sub : OpOk c (inplaceOp .Sub) gSub := fun {A s n p u r v x h Q} rm R V1 V2 e k => by
  unfold gSub at e; split at e <;> cases e
  obtain ⟨t, rfl⟩ := V1; obtain ⟨t', rfl⟩ := V2
  exact P.isub_int (k _ _ (.int_ _ _ _))
@[simp] noncomputable def W.aug (g : PV → PV → Option PV) (i : Nat) (e : WE) : WS := fun m st Q => orF (lk m i) fun p => e m st fun u st₁ => orF (g p u) fun r => Q .next (m.set i (some r)) st₁
theorem SX.aug {x : Str} {pos' pos : Pos} {op : Operator} {g : PV → PV → Option PV} {e : Expr} {w : WE} {i : Nat} (ho : OpOk c (inplaceOp op) g) (hi : names[i]? = some x) (hnd : names.Nodup) (hk : scope.kind = .function) (hx : scope.names.lookup x = some .local)
    (h : SE c n names scope e w) : SX c n names scope (.AugAssign (.Name x pos') op e pos) (W.aug g i w) := fun _ _ _ _ _ _ _ _ _ _ rm R hw => by
  obtain ⟨p, hp, hw⟩ := orF.elim hw
  have hp := lk_some hp
  obtain ⟨M, hM, hm⟩ := R.f
  obtain ⟨y, v, a1, a2, a3⟩ := hm i p hp
  rw [hi] at a1; cases a1
  refine wpAny_AugAssign_Name (wpAny_loadName_local hk hx hM a2 (wpM (h rm R hw) fun u s₁ ⟨p', st₁, R₁, V₁, X₁, q₁⟩ => ?_))
  obtain ⟨r, e, q₂⟩ := orF.elim q₁
  exact ho rm ⟨_, _, _, _, _, R₁⟩ (VR.mono X₁.tk _ _ a3) V₁ e fun y tk hy => storeName_ (s := { s₁ with toks := tk }) hi hnd hk hx R₁ hy fun h' tk' R' t => ⟨.next, _, st₁, R', rfl, X₁.trans ⟨t, rfl, rfl⟩, q₂⟩

structure Box {α : Sort _} (x : α) : Type
noncomputable def W.whileB (t : WT) (b : WS) (m : Fm) (st : St) (Q : Fl → Fm → St → Prop) (_ : Box (PProd.mk t (PProd.mk b Q))) : Prop := ∃ I : Nat → Fm → St → Prop, (∃ k, I k m st) ∧ ∀ k m st, I k m st → t m st fun v st₁ =>
  br v (b m st₁ fun fl m₂ st₂ => match fl with
    | .next | .cont => ∃ k' m' st', k' < k ∧ LeF m' m₂ ∧ Le st' st₂ ∧ I k' m' st'
    | .brk => Q .next m₂ st₂
    | .ret p => Q (.ret p) m₂ st₂) (Q .next m st₁)
@[simp] noncomputable def W.while (t : WT) (b : WS) : WS := fun m st Q => W.whileB t b m st Q ⟨⟩
theorem SX.while {t : Expr} {b : List Stmt} {pos : Pos} {wt : WT} {wb : WS} (ht : ST c n names scope t wt) (hb : SS c n names scope b wb) : SX c n names scope (.While t b [] pos) (W.while wt wb) := fun ⦃P L q f cd A s m st Q⦄ rm R hw => by
  obtain ⟨I, ⟨k, hk⟩, turn⟩ := hw
  refine wpAny_While (codeAny_whileLoop (fun k s' => ∃ m' st', Rep c P L names s'.heap m' st' ∧ Ext s s' ∧ I k m' st') (fun k s₁ ⟨m₁, st₁, R₁, X₁, i₁⟩ => ?_) k ⟨m, st, R, .rfl' _, hk⟩)
  refine wpN (ht (A := A.mark none) rm R₁ (turn k m₁ st₁ i₁)) fun v s₂ ⟨st₂, R₂, X₂, q₂⟩ => ?_
  cases v
  · simp only [Bool.false_eq_true, if_false]
    exact wpAny_execs_nil ⟨.next, m₁, st₂, R₂, rfl, X₁.trans X₂, q₂⟩
  · simp only [if_true]
    refine wpN (hb (A := A.mark none) rm R₂ q₂) fun fl s₃ ⟨g, m₃, st₃, R₃, F₃, X₃, q₃⟩ => ?_
    have X := (X₁.trans X₂).trans X₃
    cases g with
    | next => cases F₃; obtain ⟨k', m', st', h1, h2, h3, h4⟩ := q₃; exact ⟨k', h1, m', st', R₃.le h2 h3, X, h4⟩
    | cont => cases F₃; obtain ⟨k', m', st', h1, h2, h3, h4⟩ := q₃; exact ⟨k', h1, m', st', R₃.le h2 h3, X, h4⟩
    | brk => cases F₃; exact ⟨.next, m₃, st₃, R₃, rfl, X, q₃⟩
    | ret p => obtain ⟨u, rfl, hu⟩ := F₃; exact ⟨.ret p, m₃, st₃, R₃, ⟨u, rfl, hu⟩, X, q₃⟩
end
end Mine
namespace Mine

@[simp] noncomputable def getF (n : Nat) : List (Nat × PV) → Option PV
  | [] => none
  | (k, p) :: r => if k = n then some p else getF n r
@[simp] noncomputable def setF (n : Nat) (p : PV) : List (Nat × PV) → List (Nat × PV)
  | [] => [(n, p)]
  | (k, u) :: r => if k = n then (k, p) :: r else (k, u) :: setF n p r

theorem fname_inj : ∀ i : Fin 25, ∀ j : Fin 25, fname i.1 = fname j.1 → i = j := by decide +kernel
theorem fname_inj' {i j : Nat} (hi : i < 25) (hj : j < 25) (h : fname i = fname j) : i = j := congrArg Fin.val (fname_inj ⟨i, hi⟩ ⟨j, hj⟩ h)

theorem isStr_fname {k n : Nat} (hk : k < 25) (hn : n < 25) (t : Tok) : (Value.str (fname k) t).isStr (fname n) = decide (k = n) := by
  show (fname k == fname n) = _
  by_cases h : k = n
  · subst h; simp
  · have : fname k ≠ fname n := fun e => h (fname_inj' hk hn e)
    simp [h, this]

theorem FRel.get {h : Heap} {n : Nat} (hn : n < 25) : ∀ {es : List DictEntry} {fs : List (Nat × PV)} {p : PV}, FRel h es fs → getF n fs = some p → ∃ v, getL (fname n) es = some (some v) ∧ VR h p v
  | [], _, _, x, e => by cases x; cases e
  | e :: es, _, p, x, g => by
    obtain ⟨k, q, fs', t, rfl, hk, hkey, hv, r⟩ := x
    unfold getF at g
    unfold getL
    rw [List.find?_cons, hkey, isStr_fname hk hn]
    by_cases hkn : k = n
    · rw [if_pos hkn] at g; cases g
      simp only [hkn, decide_true]
      exact ⟨_, rfl, hv⟩
    · rw [if_neg hkn] at g
      simp only [hkn, decide_false]
      obtain ⟨v, a, b⟩ := FRel.get hn r g
      refine ⟨v, ?_, b⟩
      unfold getL at a
      cases hf : es.find? (·.key.isStr (fname n)) with
      | some en => rw [hf] at a; exact a
      | none =>
        rw [hf] at a
        simp only at a
        split at a <;> cases a
theorem FRel.noRef {h : Heap} : ∀ {es : List DictEntry} {fs : List (Nat × PV)}, FRel h es fs → es.any (·.refKey) = false
  | [], _, _ => rfl
  | e :: es, _, x => by
    obtain ⟨k, q, fs', t, rfl, hk, hkey, hv, r⟩ := x
    rw [List.any_cons, FRel.noRef r, Bool.or_false]
    unfold DictEntry.refKey; rw [hkey]
theorem FRel.look {h : Heap} {es : List DictEntry} {fs : List (Nat × PV)} (x : FRel h es fs) (name : Str) : (getL name es).isSome = true := by
  unfold getL
  split
  · rfl
  · rw [x.noRef]; rfl
theorem FRel.miss {h : Heap} {name : Str} (hn : ∀ k, k < 25 → fname k ≠ name) : ∀ {es : List DictEntry} {fs : List (Nat × PV)}, FRel h es fs → es.find? (·.key.isStr name) = none
  | [], _, _ => rfl
  | e :: es, _, x => by
    obtain ⟨k, q, fs', t, rfl, hk, hkey, hv, r⟩ := x
    rw [List.find?_cons, hkey]
    have : (Value.str (fname k) t).isStr name = false := by
      show (fname k == name) = false
      exact beq_eq_false_iff_ne.mpr (hn k hk)
    rw [this]
    exact FRel.miss hn r
theorem FRel.missL {h : Heap} {name : Str} (hn : ∀ k, k < 25 → fname k ≠ name) {es : List DictEntry} {fs : List (Nat × PV)} (x : FRel h es fs) : getL name es = some none := by
  unfold getL
  rw [x.miss hn, x.noRef]
  rfl
theorem FRel.set {h : Heap} {n : Nat} {p : PV} {v : Value} {hsh : Int} {tk : Tok} (hn : n < 25) (hv : VR h p v) : ∀ {es : List DictEntry} {fs : List (Nat × PV)}, FRel h es fs → FRel h (putL (fname n) hsh (.str (fname n) tk) v es) (setF n p fs)
  | [], _, x => by cases x; exact ⟨n, p, [], tk, rfl, hn, rfl, hv, rfl⟩
  | e :: es, _, x => by
    obtain ⟨k, q, fs', t, rfl, hk, hkey, hw, r⟩ := x
    unfold putL setF
    rw [hkey, isStr_fname hk hn]
    by_cases hkn : k = n
    · rw [decide_eq_true hkn, if_pos rfl, if_pos hkn]
      exact ⟨k, p, fs', t, rfl, hk, rfl, hv, r⟩
    · rw [decide_eq_false hkn, if_neg Bool.false_ne_true, if_neg hkn]
      exact ⟨k, q, _, t, rfl, hk, hkey, hw, FRel.set hn hv r⟩
theorem FRel.length {h : Heap} : ∀ {es : List DictEntry} {fs : List (Nat × PV)}, FRel h es fs → es.length = fs.length
  | [], _, x => by cases x; rfl
  | e :: es, _, x => by obtain ⟨k, q, fs', t, rfl, hk, hkey, hw, r⟩ := x; simp [FRel.length r]
theorem putL_length (name : Str) (hsh : Int) (key v : Value) : ∀ es : List DictEntry, (putL name hsh key v es).length ≤ es.length + 1
  | [] => Nat.le_refl _
  | e :: r => by
    unfold putL
    split
    · simp
    · simp only [List.length_cons]; have := putL_length name hsh key v r; (first | lia | omega)

section
variable {c : Cx} {n : Nat} {names : List Str} {scope : Scope}
variable {P : Prot} {L : Addr} {q : Str} {f : Addr} {cd : Value} {A : Around} {s : Shared} {m : Fm} {st : St}

theorem Rep.K (R : Rep c P L names s.heap m st) : c.K.In s.heap := c.X.keeps R.keeps₀
theorem VR.handed {h : Heap} {p : PV} {v : Value} (x : VR h p v) : handedIn v = true := by
  cases p with
  | none => cases x; rfl
  | bool b => cases x; rfl
  | int i => obtain ⟨t, rfl⟩ := x; rfl
  | str i => obtain ⟨t, rfl⟩ := x; rfl
  | tup l => obtain ⟨a, vs, n, rfl, _⟩ := x; rfl
  | ref a => cases x; rfl

/-- an object of a class, as the library asks for it -/
theorem Rep.inst {a C : Addr} {fs : List (Nat × PV)} (R : Rep c P L names s.heap m st) (h : st.ins a = some (C, fs)) : ∃ dx es k, InstAt s.heap a (instObj C dx) C (some (dictOf es k)) ∧ FRel s.heap es fs := by
  obtain ⟨δ, S⟩ := R.s
  obtain ⟨⟨es, k, e1, e2, r⟩, _⟩ := S.obj a (.inst C fs) h
  exact ⟨_, es, k, ⟨e1, rfl, rfl, e2⟩, r⟩

/-! the facts of a class, asked of the written part -/
noncomputable def attrOk (K : Frag) (C : Addr) (x : Str) : Bool := plainGet K C x && hasDictIn K C && (match findIn K (.ref C) x with | some attr => noGet K attr | none => false)
noncomputable def storeOk' (K : Frag) (C : Addr) (x : Str) : Bool := findIn K (.ref C) "__setattr__" == some (some (.builtin "object.__setattr__")) && plainOver K C && hasDictIn K C && takerIn K C x == some none
noncomputable def methOk (K : Frag) (C : Addr) (x : Str) (f : Addr) : Bool := plainGet K C x && findIn K (.ref C) x == some (some (.ref f)) && isFn K (.ref f) && keepIn K (.ref f)

theorem getAttr_ {a C : Addr} {fs : List (Nat × PV)} {k : Nat} {p : PV} {x : Str} {ex : Bool} {Q : Value → Shared → Prop} (R : Rep c P L names s.heap m st) (hi : st.ins a = some (C, fs)) (hk : k < 25) (hx : fname k = x) (ok : attrOk c.K C x = true) (hp : getF k fs = some p)
    (h : ∀ v, VR s.heap p v → Q v { s with toks := s.toks + 1 }) : wpAny (model c.prog c.w) A (getAttr (.ref a) x ex) Q noE s := by
  obtain ⟨dx, es, d, I, r⟩ := R.inst hi
  obtain ⟨v, e1, e2⟩ := r.get hk hp
  unfold attrOk at ok
  simp only [Bool.and_eq_true] at ok
  obtain ⟨⟨ok1, ok2⟩, ok3⟩ := ok
  split at ok3
  · rename_i attr e3
    exact get_value R.K I (plainGet_of ok1).1 (findObj_own ok2 e3 ok3 (by rw [← hx]; exact e1)) e2.handed (h v e2)
  · cases ok3

@[simp] noncomputable def getA (C : Addr) (k : Nat) (st : St) : PV → Option PV
  | .ref a => match st.ins a with
    | some (D, fs) => if D = C then getF k fs else none
    | none => none
  | _ => none
theorem getA_some {C : Addr} {k : Nat} {p r : PV} (h : getA C k st p = some r) : ∃ a fs, p = .ref a ∧ st.ins a = some (C, fs) ∧ getF k fs = some r := by
  unfold getA at h
  split at h
  · split at h
    · rename_i a D fs e
      split at h
      · rename_i hD; subst hD; exact ⟨_, _, rfl, e, h⟩
      · cases h
    · cases h
  · cases h
@[simp] noncomputable def W.attr (C : Addr) (k : Nat) (e : WE) : WE := fun m st Q => e m st fun p st₁ => orF (getA C k st₁ p) fun r => Q r st₁
theorem attr_node {value : Expr} {attr : Str} {pos : Pos} {env : Env} {Q : Value → Shared → Prop} (hb : attributeBase value attr env (eval value env) = eval value env)
    (h : wpAny (model c.prog c.w) A (eval value env) (fun o s₁ => wpAny (model c.prog c.w) A (getAttr o attr true) Q noE s₁) noE s) : wpAny (model c.prog c.w) A (eval (.Attribute value attr pos) env) Q noE s := by
  rw [arm_eval_Attribute, hb]
  refine wpAny_bind (wpM h (fun o s₁ h₁ => wpAny_bind (wpAny_standAt (wpAny_bind (wpAny_holding (wpM h₁ (fun r s₂ h₂ => ?_)))))))
  exact wpAny_bind (wpAny_letTemporaryGo (wpAny_pure h₂))
theorem SE.attr {value : Expr} {x : Str} {pos : Pos} {w : WE} {C : Addr} {k : Nat} (hb : ∀ env, attributeBase value x env (eval value env) = eval value env) (hk : k < 25) (hx : fname k = x) (ok : attrOk c.K C x = true) (h : SE c n names scope value w) :
    SE c n names scope (.Attribute value x pos) (W.attr C k w) := fun _ _ _ _ _ _ _ _ _ _ rm R hw => by
  refine attr_node (hb _) (wpM (h rm R hw) fun v s₁ ⟨p, st₁, R₁, V₁, X₁, q₁⟩ => ?_)
  obtain ⟨r, e, q₂⟩ := orF.elim q₁
  obtain ⟨a, fs, rfl, e1, e2⟩ := getA_some e
  cases V₁
  exact getAttr_ R₁ e1 hk hx ok e2 fun v hv => ⟨r, st₁, R₁, hv, X₁.trans (.toks _ _), q₂⟩

/-! storing a field -/
theorem setAttr_ {a C : Addr} {fs : List (Nat × PV)} {k : Nat} {p : PV} {v : Value} {x : Str} {Q : Unit → Shared → Prop} (R : Rep c P L names s.heap m st) (hi : st.ins a = some (C, fs)) (hk : k < 25) (hx : fname k = x) (ok : storeOk' c.K C x = true) (hl : fs.length ≤ 100) (hv : VR s.heap p v)
    (h : ∀ h' tk, Rep c P L names h' m (st.setI a C (setF k p fs)) → TK s.heap h' → Q () { s with heap := h', toks := tk }) : wpAny (model c.prog c.w) A (setAttr (.ref a) x v) Q noE s := by
  subst hx
  obtain ⟨δ, S⟩ := R.s
  obtain ⟨⟨es, d, e1, e2, r⟩, _⟩ := S.obj a (.inst C fs) hi
  have I : InstAt s.heap a (instObj C (δ a)) C (some (dictOf es d)) := ⟨e1, rfl, rfl, e2⟩
  unfold storeOk' at ok
  simp only [Bool.and_eq_true, beq_iff_eq] at ok
  obtain ⟨⟨⟨ok1, ok2⟩, ok3⟩, ok4⟩ := ok
  refine set_plain R.K I ok1 (osa_open (s := { s with toks := s.toks + 1 }) R.K I ok2 ok4 fun b => ?_)
  obtain ⟨cdt, hc, hd'⟩ := any_some ok3
  have hput := putName_dict (fname k) (PyData.keyHash c.w.params (fname k)) (.str (fname k) (s.toks + 1)) v es d
  have hs : Heap.ExtBut (δ a) s.heap (s.heap.update (δ a) (Obj.putName (fname k) (PyData.keyHash c.w.params (fname k)) (.str (fname k) (s.toks + 1)) v)) := (Heap.SameBut.update ..).extBut
  have hn : (s.heap.update (δ a) (Obj.putName (fname k) (PyData.keyHash c.w.params (fname k)) (.str (fname k) (s.toks + 1)) v)).get? (δ a) = some (dictOf (putL (fname k) (PyData.keyHash c.w.params (fname k)) (.str (fname k) (s.toks + 1)) v es) (putN (fname k) es d)) := by
    rw [Heap.get?_update_self _ e2 (by rw [hput]; rfl), hput]
  obtain ⟨R', t⟩ := S.updF (st' := st.setI a C (setF k p fs)) hi hs hn (FRel.mono (.of_extBut hs e2 (nfz_dict rfl)) (r.set hk hv)) (fun b x q => (has_setI q).imp (fun z => z) fun ⟨u, w⟩ => ⟨u, fun e => w e C fs⟩)
  have hL : L ≠ δ a := fun z => (S.dct a C fs hi).2.1 z.symm
  have R2 : Rep c P L names _ m (st.setI a C (setF k p fs)) := ⟨⟨δ, R'⟩, R.f.but hs hL t⟩
  have hlen := putL_length (fname k) (PyData.keyHash c.w.params (fname k)) (.str (fname k) (s.toks + 1)) v es
  have hes : es.length ≤ 100 := by rw [r.length]; exact hl
  refine wpAny_bind (wpAny_pure (wpAny_bind (wpAny_bind (wpAny_loadPart e1 (wpAny_bind (Looks.here (s := { s with toks := s.toks + 1 }) (looks_clsIn R.K hc) ?_))))))
  rw [hd']
  refine wpAny_pure (a := some (δ a)) (wpAny_bind (wpAny_pure (wpAny_bind ?_)))
  unfold nsSet
  refine wpAny_bind (wpAny_bind (wpAny_askSetting (wpAny_pure (wpAny_bind (wpAny_mkText (wpAny_bind (wpAny_loadPart e2 ?_)))))))
  have cc : (!es.toArray.any (·.key.isStr (fname k)) && es.toArray.any (·.refKey)) = false := by
    have z := r.noRef
    rw [← Array.any_toList, ← Array.any_toList, List.toList_toArray, z, Bool.and_false]
  show wpAny _ _ (if aRefKeyMayBeTheName (fname k) es.toArray = true then _ else _) _ _ _
  rw [aRefKeyMayBeTheName_at, cc]
  refine wpAny_updatePart e2 ?_
  refine wpAny_bind (wpAny_lookBehind hn (pastItsLine_dict (by rw [List.size_toArray, sizeLine_eq]; (first | lia | omega))) ?_)
  exact wpAny_pure (h _ _ R2 t)
@[simp] noncomputable def insOf (C : Addr) (st : St) : PV → Option (Addr × List (Nat × PV))
  | .ref a => match st.ins a with
    | some (D, fs) => if D = C then some (a, fs) else none
    | none => none
  | _ => none
theorem insOf_some {C a : Addr} {fs : List (Nat × PV)} {p : PV} (h : insOf C st p = some (a, fs)) : p = .ref a ∧ st.ins a = some (C, fs) := by
  unfold insOf at h
  split at h
  · split at h
    · rename_i b D gs e
      split at h
      · rename_i hD; subst hD; cases h; exact ⟨rfl, e⟩
      · cases h
    · cases h
  · cases h
@[simp] noncomputable def W.setA (C : Addr) (k : Nat) (eo e : WE) : WS := fun m st Q => e m st fun p st₁ => eo m st₁ fun u st₂ => orF (insOf C st₂ u) fun r => r.2.length ≤ 100 ∧ Q .next m (st₂.setI r.1 C (setF k p r.2))
theorem SX.setA {o e : Expr} {x : Str} {pos' pos : Pos} {wo w : WE} {C : Addr} {k : Nat} (hk : k < 25) (hx : fname k = x) (ok : storeOk' c.K C x = true) (hs : ∀ env, swapsWith e (some (.Attribute o x pos')) pos.line env = pure false)
    (ho : SE c n names scope o wo) (h : SE c n names scope e w) : SX c n names scope (.Assign [.Attribute o x pos'] e pos) (W.setA C k wo w) := fun _ _ _ _ _ _ _ _ _ _ rm R hw => by
  refine plainObj_wpAny_Assign_Attribute (wpM (h rm R hw) fun v s₁ ⟨p, st₁, R₁, V₁, X₁, q₁⟩ => ?_) (hs _)
  refine wpM (ho rm R₁ q₁) fun x s₂ ⟨u, st₂, R₂, V₂, X₂, q₂⟩ => ?_
  obtain ⟨⟨a, fs⟩, e, hl, q₃⟩ := orF.elim q₂
  obtain ⟨rfl, e1⟩ := insOf_some e
  cases V₂
  exact setAttr_ R₂ e1 hk hx ok hl (VR.mono X₂.tk _ _ V₁) fun h' tk R' t => ⟨.next, _, _, R', rfl, (X₁.trans X₂).trans ⟨t, rfl, rfl⟩, q₃⟩

/-! ### calls -/
noncomputable def CallOk (c : Cx) (n : Nat) (f : Value) (S : Spec) : Prop := ∀ ⦃P L names A s m st Q ps vs⦄, Room n A → Rep c P L names s.heap m st → VRs s.heap ps vs → S ps st Q →
  wpAny (model c.prog c.w) A (call f vs) (PostE c P L names m Q s) noE s
noncomputable abbrev RetPost (c : Cx) (P : Prot) (L : Addr) (names : List Str) (m : Fm) (Q : PV → St → Prop) (s : Shared) : Result → Shared → Prop := fun r s' => match r with | .ok (.ret v) => PostE c P L names m Q s v s' | .ok _ => False | .error e => noE e s'
noncomputable def CodeOk (c : Cx) (n : Nat) (f : Value) (S : Spec) : Prop := ∀ ⦃P L names A s m st Q ps vs⦄, Room n A → Rep c P L names s.heap m st → VRs s.heap ps vs → S ps st Q →
  codeAny (model c.prog c.w) A (.call f ⟨vs, []⟩) (RetPost c P L names m Q s) s
theorem CodeOk.call {f : Value} {S : Spec} (h : CodeOk c n f S) : CallOk c n f S := fun _ _ _ _ _ _ _ _ _ _ rm R V hs => wpAny_call (h rm R V hs)
theorem CallOk.le {n' : Nat} {f : Value} {S : Spec} (h : CallOk c n f S) (l : n ≤ n') : CallOk c n' f S := fun _ _ _ _ _ _ _ _ _ _ rm R V hs => h (rm.le l) R V hs
noncomputable def NoStar (es : List Expr) : Prop := ∀ env, (starEach es env).any (·.1) = false
theorem backTo_any {es : List Expr} {env : Env} {pos : Pos} (h : NoStar es) : (backTo pos (starEach es env)).any (·.1) = false := by
  have := h env
  unfold backTo
  rw [List.any_map]
  exact this
theorem evalArgs_es {es : List Expr} {env : Env} {pos : Pos} {fv : Value} {Q : Args → Shared → Prop} {E : Value → Shared → Prop} {M : Model} (h : NoStar es) (hh : wpAny M A (spliced (backTo pos (starEach es env))) (fun vs s' => Q ⟨vs, []⟩ s') E s) :
    wpAny M A (evalArgs fv true (backTo pos (starEach es env)) []) Q E s := by
  have h2 := backTo_any (env := env) (pos := pos) h
  revert h2 hh
  cases backTo pos (starEach es env) with
  | nil =>
    intro hh _
    unfold evalArgs
    show wpAny M A (spliced [] >>= _) Q E s
    refine wpAny_bind (wpAny_mono hh (fun vs s' h' => wpAny_bind (wpAny_pure ?_)) fun _ _ z => z)
    refine wpAny_holding ?_
    exact wpAny_bind (wpAny_pure (wpAny_bind (wpAny_pure (wpAny_pure h'))))
  | cons x r =>
    obtain ⟨b, t⟩ := x
    intro hh h2
    rw [List.any_cons, Bool.or_eq_false_iff] at h2
    have hb : b = false := h2.1
    subst hb
    exact Calls.evalArgs_plain hh

@[simp] noncomputable def W.call (S : Spec) (ws : WEs) : WE := fun m st Q => ws m st fun ps st₁ => S ps st₁ Q
theorem PostE.ofCall {S : Spec} {fv : Value} {Q : PV → St → Prop} {ps : List PV} {vs : List Value} {s₁ : Shared} {st₁ : St} (hc : CallOk c n fv S) (rm : Room n A) (R : Rep c P L names s₁.heap m st₁) (V : VRs s₁.heap ps vs) (X : Ext s s₁) (h : S ps st₁ Q) :
    wpAny (model c.prog c.w) A (call fv vs) (PostE c P L names m Q s) noE s₁ := wpM (hc rm R V h) fun v s₂ z => z.ext X
/-- a global def or class called by its name -/
theorem SE.callK {x : Str} {np pos : Pos} {es : List Expr} {fa : Addr} {S : Spec} {ws : WEs} (hx : nsIn c.K mainGlobals x = some (some (.ref fa))) (hkp : keepIn c.K (.ref fa) = true) (hst : NoStar es) (hk : scope.kind = .function) (hl : scope.names.lookup x = some .globalImplicit)
    (hd : (x == ("__debug__" : Str)) = false) (ha : SEs c n names scope es ws) (hc : CallOk c n (.ref fa) S) : SE c n names scope (.Call (.Name x np) es [] pos) (W.call S ws) := fun ⦃P L q f cd A s m st Q⦄ rm R hw => by
  refine wpAny_Call_ofName (Calls.Name_function_global hk hl (Calls.loadGlobal_global (c.g.keeps R.keeps₀) (mg_of c.X c.g hx) ?_) hd)
  refine callWith_of (P := fun h => c.K.In h) (by rw [backTo_any hst]; rfl) (keeps_K hkp) (evalArgs_es hst ?_)
  exact wpM (ha rm R hw) fun vs s₁ ⟨ps, st₁, R₁, V₁, X₁, q₁⟩ => ⟨R₁.K, PostE.ofCall hc rm R₁ V₁ X₁ q₁⟩
theorem SE.callB {x : Str} {np pos : Pos} {es : List Expr} {id : String} {S : Spec} {ws : WEs} (hx : nsIn c.K mainGlobals x = some none) (hv : bootBuiltins x = some (.builtin id)) (hn : x ≠ "__name__") (hst : NoStar es) (hk : scope.kind = .function) (hl : scope.names.lookup x = some .globalImplicit)
    (hd : (x == ("__debug__" : Str)) = false) (ha : SEs c n names scope es ws) (hc : CallOk c n (.builtin id) S) : SE c n names scope (.Call (.Name x np) es [] pos) (W.call S ws) := fun ⦃P L q f cd A s m st Q⦄ rm R hw => by
  refine wpAny_Call_ofName (Calls.Name_function_global hk hl (Calls.loadGlobal_builtin (c.g.keeps R.keeps₀) (mg_none_of c.X c.g hx) (c.b.keeps R.keeps₀) ((c.bi x hn).trans hv) ?_) hd)
  refine Calls.callWith_builtin (backTo_any hst) (evalArgs_es hst ?_)
  exact wpM (ha rm R hw) fun vs s₁ ⟨ps, st₁, R₁, V₁, X₁, q₁⟩ => PostE.ofCall hc rm R₁ V₁ X₁ q₁
theorem SE.callT {x : Str} {np pos : Pos} {es : List Expr} {T : String} {S : Spec} {ws : WEs} (hx : nsIn c.K mainGlobals x = some none) (hv : bootBuiltins x = some (.type T)) (hn : x ≠ "__name__") (hst : NoStar es) (hk : scope.kind = .function) (hl : scope.names.lookup x = some .globalImplicit)
    (hd : (x == ("__debug__" : Str)) = false) (ha : SEs c n names scope es ws) (hc : CallOk c n (.type T) S) : SE c n names scope (.Call (.Name x np) es [] pos) (W.call S ws) := fun ⦃P L q f cd A s m st Q⦄ rm R hw => by
  refine wpAny_Call_ofName (Calls.Name_function_global hk hl (Calls.loadGlobal_builtin (c.g.keeps R.keeps₀) (mg_none_of c.X c.g hx) (c.b.keeps R.keeps₀) ((c.bi x hn).trans hv) ?_) hd)
  refine PyProof.Rows.callWith_type (backTo_any hst) (evalArgs_es hst ?_)
  exact wpM (ha rm R hw) fun vs s₁ ⟨ps, st₁, R₁, V₁, X₁, q₁⟩ => PostE.ofCall hc rm R₁ V₁ X₁ q₁

/-- the form of a method's call -/
theorem meth_node {o : Expr} {name : Str} {apos pos : Pos} {args : List Expr} {env : Env} {Q : Value → Shared → Prop} (hb : attributeBase o name env (eval o env) = eval o env) (hst : NoStar args) (hlen : args.length < 25) (hline : (apos.endLine == pos.line) = true)
    (h : wpAny (model c.prog c.w) A (eval o env) (fun ov s₁ => ∀ pl : Sem Bool, wpAny (model c.prog c.w) A (getMethod ov name pl) (fun r s₂ => wpAny (model c.prog c.w) A (callWith pos r.1 r.2 (backTo pos (starEach args env)) []) Q noE s₂) noE s₁) noE s) :
    wpAny (model c.prog c.w) A (eval (.Call (.Attribute o name apos) args [] pos) env) Q noE s := by
  rw [arm_eval_Call, hb]
  refine wpAny_bind (wpM h (fun ov s₁ h₁ => wpAny_bind (wpAny_standAt ?_)))
  have hform : methodCallForm (args.length + ([] : List Keyword).length) (backTo pos (starEach args env)) (backToKw pos (keywordEach [] env)) = true := by
    have h1 : (backTo pos (starEach args env)).all (!·.1) = true := by
      have := backTo_any (env := env) (pos := pos) hst
      rw [List.all_eq_true]
      intro x hx
      rw [List.any_eq_false] at this
      simpa using this x hx
    show ((backTo pos (starEach args env)).all (!·.1) && ([] : List (Option Str × Sem Value)).all (·.1.isSome) && decide (args.length + 0 + 0 < 30)) = true
    rw [h1]
    simp
    (first | lia | omega)
  have hpos : methodCallPos true o env apos pos = pure pos := by unfold methodCallPos; simp [hline]
  unfold methodCall calleeOf
  rw [hform]
  refine wpAny_bind (wpAny_holding (wpM (h₁ _) fun r s₂ h₂ => ?_))
  exact wpAny_bind (wpAny_of_eq hpos h₂)
/-- a method of the text's own class -/
@[simp] noncomputable def W.meth (C : Addr) (S : Spec) (eo : WE) (ws : WEs) : WE := fun m st Q => eo m st fun u st₁ => orF (insOf C st₁ u) fun r => ws m st₁ fun ps st₂ => S (.ref r.1 :: ps) st₂ Q
theorem SE.meth {o : Expr} {x : Str} {apos pos : Pos} {es : List Expr} {C fa : Addr} {S : Spec} {wo : WE} {ws : WEs} (ok : methOk c.K C x fa = true) (hn : ∀ k, k < 25 → fname k ≠ x) (hb : ∀ env, attributeBase o x env (eval o env) = eval o env) (hst : NoStar es) (hlen : es.length < 25)
    (hline : (apos.endLine == pos.line) = true) (ho : SE c n names scope o wo) (ha : SEs c n names scope es ws) (hc : CallOk c n (.ref fa) S) : SE c n names scope (.Call (.Attribute o x apos) es [] pos) (W.meth C S wo ws) := fun ⦃P L q f cd A s m st Q⦄ rm R hw => by
  unfold methOk at ok
  simp only [Bool.and_eq_true, beq_iff_eq] at ok
  obtain ⟨⟨⟨ok1, ok2⟩, ok3⟩, ok4⟩ := ok
  refine meth_node (hb _) hst hlen hline (wpM (ho rm R hw) fun v s₁ ⟨p, st₁, R₁, V₁, X₁, q₁⟩ pl => ?_)
  obtain ⟨⟨a, fs⟩, e, q₂⟩ := orF.elim q₁
  obtain ⟨rfl, e1⟩ := insOf_some e
  cases V₁
  obtain ⟨dx, des, d, I, r⟩ := R₁.inst e1
  refine method_fn R₁.K I (plainGet_of ok1).1 (plainGet_of ok1).2 ok2 (beq_iff_eq.mp ok3) (by show (lookIn x (dictOf des d)).map _ = _; rw [lookIn_dict, r.missL hn]; rfl) ?_
  refine callWith_of (P := fun h => c.K.In h) (by rw [backTo_any hst]; rfl) (keeps_K ok4) (evalArgs_es hst ?_)
  exact wpM (ha rm R₁ q₂) fun vs s₂ ⟨ps, st₂, R₂, V₂, X₂, q₃⟩ => ⟨R₂.K, PostE.ofCall (ps := .ref a :: ps) hc rm R₂ ⟨_, _, rfl, rfl, V₂⟩ (X₁.trans X₂) q₃⟩
/-- a method of a list or of a dict -/
@[simp] noncomputable def W.methB (ok : St → Addr → Bool) (S : Spec) (eo : WE) (ws : WEs) : WE := fun m st Q => eo m st fun u st₁ => ∃ a, u = .ref a ∧ ok st₁ a = true ∧ ws m st₁ fun ps st₂ => S (.ref a :: ps) st₂ Q
theorem SE.methB {o : Expr} {x : Str} {apos pos : Pos} {es : List Expr} {T id : String} {ok : St → Addr → Bool} {S : Spec} {wo : WE} {ws : WEs} (hok : ∀ {P : Prot} {L : Addr} {names : List Str} {s : Shared} {m : Fm} {st : St} {a : Addr}, Rep c P L names s.heap m st → ok st a = true → ∃ o : Obj, s.heap.get? a = some o ∧ o.cls = .type T ∧ o.dict = Option.none)
    (pa : PlainAttrs T) (slot : Slot T x id) (hty : typeOf (.builtin id) = pure (.type "method_descriptor")) (hb : ∀ env, attributeBase o x env (eval o env) = eval o env) (hst : NoStar es) (hlen : es.length < 25)
    (hline : (apos.endLine == pos.line) = true) (ho : SE c n names scope o wo) (ha : SEs c n names scope es ws) (hc : CallOk c n (.builtin id) S) : SE c n names scope (.Call (.Attribute o x apos) es [] pos) (W.methB ok S wo ws) := fun ⦃P L q f cd A s m st Q⦄ rm R hw => by
  refine meth_node (hb _) hst hlen hline (wpM (ho rm R hw) fun v s₁ ⟨p, st₁, R₁, V₁, X₁, q₁⟩ pl => ?_)
  obtain ⟨a, rfl, e, q₂⟩ := q₁
  cases V₁
  obtain ⟨ob, e1, e2, e3⟩ := hok R₁ e
  refine getMethod_builtin ⟨ob, e1, e2⟩ pa slot hty (fun b z => by cases z; exact ⟨ob, e1, e3⟩) ?_
  refine Calls.callWith_builtin (backTo_any hst) (evalArgs_es hst ?_)
  exact wpM (ha rm R₁ q₂) fun vs s₂ ⟨ps, st₂, R₂, V₂, X₂, q₃⟩ => PostE.ofCall (ps := .ref a :: ps) hc rm R₂ ⟨_, _, rfl, rfl, V₂⟩ (X₁.trans X₂) q₃
@[simp] noncomputable def isL (st : St) (a : Addr) : Bool := (st.ls a).isSome
@[simp] noncomputable def isDi (st : St) (a : Addr) : Bool := (st.di a).isSome
@[simp] noncomputable def isDk (st : St) (a : Addr) : Bool := (st.dk a).isSome
@[simp] noncomputable def isDt (st : St) (a : Addr) : Bool := (st.dt a).isSome
theorem Rep.obj {a : Addr} {mo : MO} (R : Rep c P L names s.heap m st) (h : st.has a mo) : ∃ δ, OR c s.heap δ a mo ∧ (mo.isD = true → (a == sysModules) = false) := by
  obtain ⟨δ, S⟩ := R.s
  obtain ⟨x, _, _, y⟩ := S.obj a mo h
  exact ⟨δ, x, fun e => beq_eq_false_iff_ne.mpr (y e)⟩
theorem ok_isL {P L names s m st a} (R : Rep c P L names (s : Shared).heap m st) (h : isL st a = true) : ∃ o, s.heap.get? a = some o ∧ o.cls = .type "list" ∧ o.dict = none := by
  obtain ⟨ps, e⟩ := Option.isSome_iff_exists.mp h
  obtain ⟨δ, ⟨vs, k, e1, _⟩, _⟩ := R.obj (mo := .list ps) e
  exact ⟨_, e1, rfl, rfl⟩
theorem ok_isDi {P L names s m st a} (R : Rep c P L names (s : Shared).heap m st) (h : isDi st a = true) : ∃ o, s.heap.get? a = some o ∧ o.cls = .type "dict" ∧ o.dict = none := by
  obtain ⟨ps, e⟩ := Option.isSome_iff_exists.mp h
  obtain ⟨δ, ⟨g, ⟨o, es, ep, e1, e2, _⟩, _⟩, _⟩ := R.obj (mo := .di ps) e
  exact ⟨_, e1, e2.1, e2.2.1⟩
theorem ok_isDk {P L names s m st a} (R : Rep c P L names (s : Shared).heap m st) (h : isDk st a = true) : ∃ o, s.heap.get? a = some o ∧ o.cls = .type "dict" ∧ o.dict = none := by
  obtain ⟨ps, e⟩ := Option.isSome_iff_exists.mp h
  obtain ⟨δ, ⟨g, ⟨o, es, ep, e1, e2, _⟩, _⟩, _⟩ := R.obj (mo := .dk ps) e
  exact ⟨_, e1, e2.1, e2.2.1⟩
theorem ok_isDt {P L names s m st a} (R : Rep c P L names (s : Shared).heap m st) (h : isDt st a = true) : ∃ o, s.heap.get? a = some o ∧ o.cls = .type "dict" ∧ o.dict = none := by
  obtain ⟨ps, e⟩ := Option.isSome_iff_exists.mp h
  obtain ⟨δ, ⟨g, ⟨o, es, ep, e1, e2, _⟩, _⟩, _⟩ := R.obj (mo := .dt ps) e
  exact ⟨_, e1, e2.1, e2.2.1⟩

/-! ### defs -/
structure FnAt (K : Frag) (f : Addr) (params : List Str) (body : List Stmt) (scope : Scope) : Prop where
  ok : ∃ oc od fd sl, K.lookup f = some ⟨oc, od, .func fd, sl⟩ ∧ (∀ vs : List Value, vs.length = params.length → bindArgs fd ⟨vs, []⟩ = pure (params.zip vs)) ∧ fd.body = .stmts body ∧ fd.scope = scope ∧ fd.globals = mainGlobals ∧ fd.closure = [] ∧
    fd.builtins = builtinsNs ∧ codeIn K fd.code fd.qualname = true

theorem lookup_append_none {β : Type} {x : Str} : ∀ {l r : List (Str × β)}, l.lookup x = none → (l ++ r).lookup x = r.lookup x
  | [], _, _ => rfl
  | (y, v) :: l, r, h => by
    rw [List.lookup_cons] at h
    rw [List.cons_append, List.lookup_cons]
    cases e : x == y with
    | true => rw [e] at h; cases h
    | false => rw [e] at h; exact lookup_append_none h
theorem lookup_zip_rev {params : List Str} {vs : List Value} {i : Nat} {x : Str} {v : Value} (hnd : params.Nodup) (h1 : params[i]? = some x) (h2 : vs[i]? = some v) : (params.zip vs).reverse.lookup x = some v := by
  induction params generalizing vs i with
  | nil => simp at h1
  | cons y ps ih =>
    cases vs with
    | nil => simp at h2
    | cons u us =>
      rw [List.nodup_cons] at hnd
      rw [List.zip_cons_cons, List.reverse_cons]
      cases i with
      | zero =>
        simp at h1 h2; subst h1 h2
        have hno : (ps.zip us).reverse.lookup y = none := by
          rw [List.lookup_eq_none_iff]
          intro p hp
          have := (List.of_mem_zip (List.mem_reverse.mp hp)).1
          simp only [beq_eq_false_iff_ne, bne_iff_ne, ne_eq]
          intro e
          exact hnd.1 (e ▸ this)
        rw [lookup_append_none hno]
        simp
      | succ i =>
        simp at h1 h2
        have := ih hnd.2 h1 h2
        rw [List.lookup_append, this]
        rfl
theorem VRs.nodeLen {h : Heap} {ps : List PV} {vs : List Value} (x : VRs h ps vs) : ps.length = vs.length := x.length.symm

@[simp] noncomputable def retOf : Fl → PV | .ret p => p | _ => .none
@[simp] noncomputable def frame0 (names : List Str) (ps : List PV) : Fm := ps.map some ++ List.replicate (names.length - ps.length) none
/-- a def by its body -/
theorem CodeOk.fn {f : Addr} {params : List Str} {body : List Stmt} {w : WS} {S : Spec} (F : FnAt c.K f params body scope) (hp : params = names.take params.length) (hnd : names.Nodup) (hk : scope.kind = .function) (hcell : ∀ x ∈ scope.names, x.2 ≠ .cell)
    (hloc : ∀ x ∈ params, scope.names.lookup x = some .local) (hco : scope.isCoroutine = false) (hgen : scope.isGenerator = false) (hb : SS c n names scope body w)
    (hS : ∀ ps st Q, S ps st Q → ps.length = params.length ∧ w (frame0 names ps) st (fun fl _ st' => ∃ st'', Le st'' st' ∧ Q (retOf fl) st'')) : CodeOk c (n + 1) (.ref f) S := fun ⦃P L nms A s m st Q ps vs⦄ rm R V hs => by
  obtain ⟨hlen, hw⟩ := hS ps st Q hs
  obtain ⟨oc, od, ⟨name, qual, prm, bdy, scp, gl, clo, df, kd, doc, pm, an, cdv, ct, bi⟩, sl, hl, hbind, rfl, rfl, rfl, rfl, rfl, hcd⟩ := F.ok
  have ho := R.K _ _ hl
  have hvl : vs.length = params.length := V.length.trans hlen
  refine (codeAny_call_function rm.rl ho rfl hco hgen rfl (codeRec_of R.K hcd) ?_)
  rw [hbind vs hvl]
  obtain ⟨P', hPP, hin, hout⟩ := R.enter
  have hndp : params.Nodup := by rw [hp]; exact hnd.sublist (List.take_sublist _ _)
  refine wpAny_pure (wpAny_newFunctionEnv hcell (fun x hx => hloc _ (List.of_mem_zip hx).1) (fun h₁ hns hsb => ⟨(c.nolimit.keeps R.keeps₀).fresh _ hsb, ?_⟩) hk)
  have k1 : ∀ b o, s.heap.get? b = some o → h₁.get? b = some o := fun b o e => hsb.extBut b o (Nat.ne_of_lt (Heap.lt_size e)) (Heap.get?_push_of_some _ e)
  have R1 : Rep c P' s.heap.objs.size names h₁ (frame0 names ps) st := hin h₁ _ names _ k1 (Nat.le_refl _) ⟨_, hns, fun i p e => by
    unfold frame0 at e
    rcases Nat.lt_or_ge i ps.length with hi | hi
    · rw [List.getElem?_append_left (by simpa using hi)] at e
      rw [List.getElem?_map] at e
      obtain ⟨p', e1, e2⟩ := Option.map_eq_some_iff.mp e
      cases e2
      obtain ⟨v, v1, v2⟩ := V.get e1
      have hip : i < params.length := by (first | lia | omega)
      have hx : params[i]? = some params[i] := List.getElem?_eq_getElem hip
      refine ⟨params[i], v, ?_, lookup_zip_rev hndp hx v1, VR.mono (.of_keep k1) _ _ v2⟩
      have h2 : (names.take params.length)[i]? = some params[i] := hp ▸ hx
      rw [List.getElem?_take_of_lt hip] at h2
      exact h2
    · rw [List.getElem?_append_right (by simpa using hi), List.getElem?_replicate] at e
      split at e <;> cases e⟩
  refine codeAny_func (wpN (hb (q := qual) (f := f) (cd := cdv) (A := A.deeper _) rm.deeper R1 hw) fun fl s₂ ⟨g, m₂, st₂, R₂, F₂, X₂, st₃, hle, q₂⟩ => ?_)
  obtain ⟨R₃, tk⟩ := hout _ _ _ _ _ R₂
  have X : Ext s s₂ := ⟨tk, X₂.gens, X₂.os⟩
  cases g with
  | next => cases F₂; exact ⟨.none, st₃, R₃.le (.rfl' _) hle, rfl, X, q₂⟩
  | brk => cases F₂; exact ⟨.none, st₃, R₃.le (.rfl' _) hle, rfl, X, q₂⟩
  | cont => cases F₂; exact ⟨.none, st₃, R₃.le (.rfl' _) hle, rfl, X, q₂⟩
  | ret p => obtain ⟨v, rfl, hv⟩ := F₂; exact ⟨p, st₃, R₃.le (.rfl' _) hle, hv, X, q₂⟩
theorem CallOk.fn {f : Addr} {params : List Str} {body : List Stmt} {w : WS} {S : Spec} (F : FnAt c.K f params body scope) (hp : params = names.take params.length) (hnd : names.Nodup) (hk : scope.kind = .function) (hcell : ∀ x ∈ scope.names, x.2 ≠ .cell)
    (hloc : ∀ x ∈ params, scope.names.lookup x = some .local) (hco : scope.isCoroutine = false) (hgen : scope.isGenerator = false) (hb : SS c n names scope body w)
    (hS : ∀ ps st Q, S ps st Q → ps.length = params.length ∧ w (frame0 names ps) st (fun fl _ st' => ∃ st'', Le st'' st' ∧ Q (retOf fl) st'')) : CallOk c (n + 1) (.ref f) S :=
  CodeOk.call (CodeOk.fn F hp hnd hk hcell hloc hco hgen hb hS)
end
end Mine
namespace Mine

/-- a place in a sequence of a length -/
@[simp] noncomputable def idx (ps : List PV) (k : Int) : Option PV := if 0 ≤ k then ps[k.toNat]? else if -(ps.length : Int) ≤ k then ps[(k + ps.length).toNat]? else none
@[simp] noncomputable def getT : PV → PV → Option PV | .tup ps, .int k => idx ps k | _, _ => none
@[simp] noncomputable def getL (st : St) : PV → PV → Option PV
  | .ref a, .int k => (match st.ls a with | some ps => idx ps k | none => none)
  | _, _ => none
@[simp] noncomputable def getDi (st : St) : PV → PV → Option PV
  | .ref a, .int k => (match st.di a with | some f => f.2 k | none => none)
  | _, _ => none
theorem getL_some {st : St} {p i r : PV} (h : getL st p i = some r) : ∃ a k ps, p = .ref a ∧ i = .int k ∧ st.ls a = some ps ∧ idx ps k = some r := by
  unfold getL at h
  split at h
  · split at h
    · exact ⟨_, _, _, rfl, rfl, by assumption, h⟩
    · cases h
  · cases h
theorem getDi_some {st : St} {p i r : PV} (h : getDi st p i = some r) : ∃ a k f, p = .ref a ∧ i = .int k ∧ st.di a = some f ∧ f.2 k = some r := by
  unfold getDi at h
  split at h
  · split at h
    · exact ⟨_, _, _, rfl, rfl, by assumption, h⟩
    · cases h
  · cases h
theorem getT_some {p i r : PV} (h : getT p i = some r) : ∃ ps k, p = .tup ps ∧ i = .int k ∧ idx ps k = some r := by
  unfold getT at h
  split at h
  · exact ⟨_, _, rfl, rfl, h⟩
  · cases h
theorem idx_cases {ps : List PV} {k : Int} {r : PV} (h : idx ps k = some r) : (0 ≤ k ∧ k < ps.length ∧ ps[k.toNat]? = some r ∧ seqIndex? k ps.length = some k.toNat) ∨
    (k < 0 ∧ -(ps.length : Int) ≤ k ∧ ps[(k + ps.length).toNat]? = some r ∧ seqIndex? k ps.length = some (k + ps.length).toNat) := by
  unfold idx at h
  have lt : ∀ {j : Nat}, ps[j]? = some r → j < ps.length := fun e => (List.getElem?_eq_some_iff.mp e).1
  split at h
  · rename_i h0
    have hl := lt h
    refine .inl ⟨h0, by (first | lia | omega), h, ?_⟩
    unfold seqIndex?
    have : ¬ k < 0 := by (first | lia | omega)
    simp only [this, if_false]
    rw [if_pos (by simp only [Bool.and_eq_true, decide_eq_true_eq]; (first | lia | omega))]
  · split at h
    · rename_i h0 h1
      exact .inr ⟨by (first | lia | omega), h1, h, seqIndex_neg (by (first | lia | omega)) h1⟩
    · cases h

section
variable {c : Cx} {n : Nat} {names : List Str} {scope : Scope}
variable {P : Prot} {L : Addr} {q : Str} {f : Addr} {cd : Value} {A : Around} {s : Shared} {m : Fm} {st : St}

theorem VR.tup_is {h : Heap} {ps : List PV} {v : Value} (x : VR h (.tup ps) v) : ∃ a vs, v = .ref a ∧ IsTup h a vs.toArray ∧ vs.length ≤ lim ∧ VRs h ps vs := by
  obtain ⟨a, vs, n, rfl, e, l, r⟩ := x
  exact ⟨a, vs, rfl, ⟨_, e, rfl, n, rfl⟩, l, r⟩
theorem Rep.list {a : Addr} {ps : List PV} (R : Rep c P L names s.heap m st) (h : st.ls a = some ps) : ∃ vs k, s.heap.get? a = some (lstO vs k) ∧ vs.length ≤ lim ∧ VRs s.heap ps vs := by
  obtain ⟨δ, x, _⟩ := R.obj (mo := .list ps) h
  exact x
theorem isList_of {h : Heap} {a : Addr} {vs : List Value} {k : Nat} (e : h.get? a = some (lstO vs k)) : h.IsList a vs.toArray := ⟨_, e, rfl, k, rfl⟩

theorem getItemT {a : Addr} {vs : List Value} {ps : List PV} {k : Int} {t : Tok} {r : PV} {Q : Value → Shared → Prop} (ht : IsTup s.heap a vs.toArray) (hl : vs.length ≤ lim) (hv : VRs s.heap ps vs) (hi : idx ps k = some r) (h : ∀ y, VR s.heap r y → Q y s) :
    wpAny (model c.prog c.w) A (getItem (.ref a) (.int k t)) Q noE s := by
  have hlen : ps.length ≤ 16000000 := by rw [← hv.length]; exact hl
  rcases idx_cases hi with ⟨h0, h1, h2, h3⟩ | ⟨h0, h1, h2, h3⟩
  · obtain ⟨y, y1, y2⟩ := hv.get h2
    exact PyProof.Rows.getItem_tuple ht (by (first | lia | omega)) (by (first | lia | omega)) (by rw [List.size_toArray, hv.length]; exact h3) (by simpa using y1) (h y y2)
  · obtain ⟨y, y1, y2⟩ := hv.get h2
    exact PyProof.Rows.getItem_tuple ht (by (first | lia | omega)) (by (first | lia | omega)) (by rw [List.size_toArray, hv.length]; exact h3) (by simpa using y1) (h y y2)
theorem getItemL {a : Addr} {ps : List PV} {k : Int} {t : Tok} {r : PV} {Q : Value → Shared → Prop} (R : Rep c P L names s.heap m st) (ho : st.ls a = some ps) (hi : idx ps k = some r) (h : ∀ y, VR s.heap r y → Q y s) :
    wpAny (model c.prog c.w) A (getItem (.ref a) (.int k t)) Q noE s := by
  obtain ⟨vs, d, e, hl, hv⟩ := R.list ho
  have hvl := hv.length
  have hlen : ps.length ≤ 16000000 := by rw [← hv.length]; exact hl
  rcases idx_cases hi with ⟨h0, h1, h2, h3⟩ | ⟨h0, h1, h2, h3⟩
  · obtain ⟨y, y1, y2⟩ := hv.get h2
    exact wpAny_getItem_list (isList_of e) (by (first | lia | omega)) (by (first | lia | omega)) (by simpa using y1) (h y y2)
  · obtain ⟨y, y1, y2⟩ := hv.get h2
    exact wpAny_getItem_list_neg (isList_of e) h0 (by rw [List.size_toArray]; (first | lia | omega)) (by (first | lia | omega)) (by rw [List.size_toArray, hvl]; simpa using y1) (h y y2)
theorem getItemDi {a : Addr} {fn : Nat × (Int → Option PV)} {k : Int} {t : Tok} {r : PV} {Q : Value → Shared → Prop} (R : Rep c P L names s.heap m st) (ho : st.di a = some fn) (hi : fn.2 k = some r) (h : ∀ y tk, VR s.heap r y → Q y { s with toks := tk }) :
    wpAny (model c.prog c.w) A (getItem (.ref a) (.int k t)) Q noE s := by
  obtain ⟨δ, ⟨g, hg, _, hr⟩, _⟩ := R.obj (mo := .di fn) ho
  have := hr k
  rw [hi] at this
  cases hv : valueAt g k with
  | none => rw [hv] at this; exact this.elim
  | some y =>
    rw [hv] at this
    exact wpAny_getItem_of (intKind_is c.prog c.w k t) hg.mapOf hv (h y _ this)

/-! reading by a place -/
@[simp] noncomputable def W.subT (e i : WE) : WE := fun m st Q => e m st fun p st₁ => i m st₁ fun u st₂ => orF (getT p u) fun r => Q r st₂
@[simp] noncomputable def W.subL (e i : WE) : WE := fun m st Q => e m st fun p st₁ => i m st₁ fun u st₂ => orF (getL st₂ p u) fun r => Q r st₂
@[simp] noncomputable def W.subDi (e i : WE) : WE := fun m st Q => e m st fun p st₁ => i m st₁ fun u st₂ => orF (getDi st₂ p u) fun r => Q r st₂
/-- the slice's node is no slice -/
noncomputable def NoSl (i : Expr) : Prop := ∀ (o v : Value), subscripted i false o v = operate [o, v] (getItem o v)
theorem SE.subT {e i : Expr} {pos : Pos} {we wi : WE} (hn : NoSl i) (he : SE c n names scope e we) (hi : SE c n names scope i wi) : SE c n names scope (.Subscript e i pos) (W.subT we wi) := fun _ _ _ _ _ _ _ _ _ _ rm R hw => by
  refine Subscript_ (wpM (he rm R hw) fun v s₁ ⟨p, st₁, R₁, V₁, X₁, q₁⟩ => wpM (hi rm R₁ q₁) fun u s₂ ⟨pu, st₂, R₂, V₂, X₂, q₂⟩ => ?_)
  obtain ⟨r, e, q₃⟩ := orF.elim q₂
  obtain ⟨ps, k, rfl, rfl, e2⟩ := getT_some e
  obtain ⟨a, vs, rfl, ht, hl, hv⟩ := (VR.mono X₂.tk _ _ V₁).tup_is
  obtain ⟨t, rfl⟩ := V₂
  exact tail_any ht.typeIs slot_tuple_getitem.lookup (getItemT ht hl hv e2 fun y hy => ⟨r, st₂, R₂, hy, X₁.trans X₂, q₃⟩) (hn _ _)
theorem SE.subL {e i : Expr} {pos : Pos} {we wi : WE} (hn : NoSl i) (he : SE c n names scope e we) (hi : SE c n names scope i wi) : SE c n names scope (.Subscript e i pos) (W.subL we wi) := fun _ _ _ _ _ _ _ _ _ _ rm R hw => by
  refine Subscript_ (wpM (he rm R hw) fun v s₁ ⟨p, st₁, R₁, V₁, X₁, q₁⟩ => wpM (hi rm R₁ q₁) fun u s₂ ⟨pu, st₂, R₂, V₂, X₂, q₂⟩ => ?_)
  obtain ⟨r, e, q₃⟩ := orF.elim q₂
  obtain ⟨a, k, ps, rfl, rfl, e1, e2⟩ := getL_some e
  cases V₁
  obtain ⟨t, rfl⟩ := V₂
  obtain ⟨vs, d, e3, _⟩ := R₂.list e1
  exact tail_any (isList_of e3).typeIs slot_list_getitem.lookup (getItemL R₂ e1 e2 fun y hy => ⟨r, st₂, R₂, hy, X₁.trans X₂, q₃⟩) (hn _ _)
theorem SE.subDi {e i : Expr} {pos : Pos} {we wi : WE} (hn : NoSl i) (he : SE c n names scope e we) (hi : SE c n names scope i wi) : SE c n names scope (.Subscript e i pos) (W.subDi we wi) := fun _ _ _ _ _ _ _ _ _ _ rm R hw => by
  refine Subscript_ (wpM (he rm R hw) fun v s₁ ⟨p, st₁, R₁, V₁, X₁, q₁⟩ => wpM (hi rm R₁ q₁) fun u s₂ ⟨pu, st₂, R₂, V₂, X₂, q₂⟩ => ?_)
  obtain ⟨r, e, q₃⟩ := orF.elim q₂
  obtain ⟨a, k, ps, rfl, rfl, e1, e2⟩ := getDi_some e
  cases V₁
  obtain ⟨t, rfl⟩ := V₂
  obtain ⟨ob, e3, e4, _⟩ := ok_isDi R₂ (a := a) (by unfold isDi; rw [e1]; rfl)
  exact tail_any ⟨ob, e3, e4⟩ slot_dict_getitem.lookup (getItemDi R₂ e1 e2 fun y tk hy => ⟨r, st₂, R₂, hy, (X₁.trans X₂).trans (.toks _ _), q₃⟩) (hn _ _)

/-! storing by a place -/
@[simp] noncomputable def setIdx (ps : List PV) (k : Int) (p : PV) : Option (List PV) := if 0 ≤ k ∧ k < ps.length then some (ps.set k.toNat p) else none
@[simp] noncomputable def putL' (st : St) (u i p : PV) : Option (Addr × List PV) := match u, i with
  | .ref a, .int k => (match st.ls a with | some ps => (setIdx ps k p).map fun x => (a, x) | none => none)
  | _, _ => none
theorem putL'_some {st : St} {u i p : PV} {a : Addr} {x : List PV} (h : putL' st u i p = some (a, x)) : ∃ k ps, u = .ref a ∧ i = .int k ∧ st.ls a = some ps ∧ 0 ≤ k ∧ k < ps.length ∧ x = ps.set k.toNat p := by
  unfold putL' at h
  split at h
  · split at h
    · rename_i b k x0 ps e
      obtain ⟨y, y1, y2⟩ := Option.map_eq_some_iff.mp h
      cases y2
      unfold setIdx at y1
      split at y1
      · rename_i hk; cases y1; exact ⟨k, ps, rfl, rfl, e, hk.1, hk.2, rfl⟩
      · cases y1
    · cases h
  · cases h
theorem setItemL {a : Addr} {ps : List PV} {k : Int} {t : Tok} {p : PV} {v : Value} {Q : Unit → Shared → Prop} (R : Rep c P L names s.heap m st) (ho : st.ls a = some ps) (h0 : 0 ≤ k) (h1 : k < ps.length) (hv : VR s.heap p v)
    (h : ∀ h' tk, Rep c P L names h' m (st.setL a (ps.set k.toNat p)) → TK s.heap h' → Q () { s with heap := h', toks := tk }) : wpAny (model c.prog c.w) A (setItem (.ref a) (.int k t) v) Q noE s := by
  obtain ⟨vs, d, e, hl, hvs⟩ := R.list ho
  have hvl := hvs.length
  have hlen : ps.length ≤ 16000000 := by rw [← hvl]; exact hl
  have hup := Heap.get?_update_self (Obj.mapSeq (·.setIfInBounds k.toNat v)) e rfl
  have hseq : Obj.mapSeq (·.setIfInBounds k.toNat v) (lstO vs d) = lstO (vs.set k.toNat v) d := by
    have : vs.toArray.setIfInBounds k.toNat v = (vs.set k.toNat v).toArray := by apply Array.toList_inj.mp; simp
    simp [Obj.mapSeq]
  rw [hseq] at hup
  have hb := (Heap.SameBut.update s.heap a (Obj.mapSeq (·.setIfInBounds k.toNat v))).extBut
  exact ki_setAt e h0 (by (first | lia | omega)) (by rw [List.size_toArray, hvl]; (first | lia | omega)) (h _ s.toks (R.setL ho hb hup (by rw [List.length_set]; exact hl) (hvs.set _ hv)) (R.tk (mo := .list ps) ho hb))

@[simp] noncomputable def W.putL (eo ei e : WE) : WS := fun m st Q => e m st fun p st₁ => eo m st₁ fun u st₂ => ei m st₂ fun i st₃ => orF (putL' st₃ u i p) fun r => Q .next m (st₃.setL r.1 r.2)
theorem SX.putL {o i e : Expr} {pos' pos : Pos} {wo wi w : WE} (hs : ∀ env, swapsWith e (some (.Subscript o i pos')) pos.line env = pure false) (ho : SE c n names scope o wo) (hi : SE c n names scope i wi) (h : SE c n names scope e w) :
    SX c n names scope (.Assign [.Subscript o i pos'] e pos) (W.putL wo wi w) := fun _ _ _ _ _ _ _ _ _ _ rm R hw => by
  refine wpAny_Assign_Subscript (wpM (h rm R hw) fun v s₁ ⟨p, st₁, R₁, V₁, X₁, q₁⟩ => wpM (ho rm R₁ q₁) fun u s₂ ⟨pu, st₂, R₂, V₂, X₂, q₂⟩ => wpM (hi rm R₂ q₂) fun x s₃ ⟨pi, st₃, R₃, V₃, X₃, q₃⟩ => ?_) (hs _)
  obtain ⟨⟨a, y⟩, e, q₄⟩ := orF.elim q₃
  obtain ⟨k, ps, rfl, rfl, e1, h0, h1, rfl⟩ := putL'_some e
  cases V₂
  obtain ⟨t, rfl⟩ := V₃
  have X := (X₁.trans X₂).trans X₃
  exact setItemL R₃ e1 h0 h1 (VR.mono (X₂.trans X₃).tk _ _ V₁) fun h' tk R' t => ⟨.next, _, _, R', rfl, X.trans ⟨t, rfl, rfl⟩, q₄⟩
/-- x[i] op= e, in a list -/
@[simp] noncomputable def W.augL (g : PV → PV → Option PV) (eo ei e : WE) : WS := fun m st Q => eo m st fun u st₁ => ei m st₁ fun i st₂ => orF (getL st₂ u i) fun old => e m st₂ fun p st₃ => orF (g old p) fun r => orF (putL' st₃ u i r) fun x => Q .next m (st₃.setL x.1 x.2)
theorem SX.augL {o i e : Expr} {op : Operator} {g : PV → PV → Option PV} {pos' pos : Pos} {wo wi w : WE} (hop : OpOk c (inplaceOp op) g) (ha : ∀ ov iv new, augStore i ov iv new = (do holding [new, ov, iv] (setItem ov iv new); release [new, ov, iv] []; pure .next))
    (ho : SE c n names scope o wo) (hi : SE c n names scope i wi) (h : SE c n names scope e w) : SX c n names scope (.AugAssign (.Subscript o i pos') op e pos) (W.augL g wo wi w) := fun _ _ _ _ _ _ _ _ _ _ rm R hw => by
  refine wpAny_AugAssign_SubscriptAny (wpM (ho rm R hw) fun u s₁ ⟨pu, st₁, R₁, V₁, X₁, q₁⟩ => wpM (hi rm R₁ q₁) fun x s₂ ⟨pi, st₂, R₂, V₂, X₂, q₂⟩ => ?_) ha
  obtain ⟨old, e1, q₃⟩ := orF.elim q₂
  obtain ⟨a, k, ps, rfl, rfl, e2, e3⟩ := getL_some e1
  cases V₁
  obtain ⟨t, rfl⟩ := V₂
  refine getItemL R₂ e2 e3 fun y hy => wpM (h rm R₂ q₃) fun v s₃ ⟨p, st₃, R₃, V₃, X₃, q₄⟩ => ?_
  obtain ⟨r, e4, q₅⟩ := orF.elim q₄
  obtain ⟨⟨a', xs⟩, e5, q₆⟩ := orF.elim q₅
  obtain ⟨k', ps', h1, h2, e6, h0, hlt, rfl⟩ := putL'_some e5
  cases h1; cases h2
  have X := (X₁.trans X₂).trans X₃
  exact hop rm ⟨_, _, _, _, _, R₃⟩ (VR.mono X₃.tk _ _ hy) V₃ e4 fun z tk hz => setItemL (s := { s₃ with toks := tk }) R₃ e6 h0 hlt hz fun h' tk' R' t => ⟨.next, _, _, R', rfl, X.trans ⟨t, rfl, rfl⟩, q₆⟩

/-! dicts -/
theorem valueAt_stored {K : Type} [DecidableEq K] {k : K} {v : Value} : ∀ (kvs : List (K × Value)) (x : K), valueAt (stored kvs k v) x = if x = k then some v else valueAt kvs x := by
  intro kvs x
  unfold stored
  split
  · rename_i hany
    unfold valueAt
    have gen : ∀ l : List (K × Value), ((l.map (fun kv => if kv.1 = k then (kv.1, v) else kv)).find? fun kv => kv.1 = x).map (·.2) = if x = k ∧ (l.any fun kv => kv.1 = k) = true then some v else (l.find? fun kv => kv.1 = x).map (·.2) := by
      intro l
      induction l with
      | nil => simp
      | cons y r ih =>
        simp only [List.map_cons, List.find?_cons, List.any_cons]
        by_cases hy : y.1 = k
        · by_cases hx : x = k
          · subst hx; simp [hy]
          · have : ¬ y.1 = x := fun e => hx (e.symm.trans hy)
            simp only [hy, if_true, decide_true, Bool.true_or]
            simp only [hx, false_and, if_false] at ih ⊢
            have h2 : ¬ k = x := fun e => hx e.symm
            simp only [h2, decide_false]
            exact ih
        · simp only [hy, if_false, decide_false, Bool.false_or]
          by_cases hyx : y.1 = x
          · have hx : ¬ x = k := fun e => hy (hyx.trans e)
            simp [hyx, hx]
          · simp only [hyx, decide_false]
            exact ih
    rw [gen]
    by_cases hx : x = k
    · rw [if_pos ⟨hx, hany⟩, if_pos hx]
    · rw [if_neg (fun z => hx z.1), if_neg hx]
  · rename_i hany
    unfold valueAt
    rw [List.find?_append]
    by_cases hx : x = k
    · subst hx
      have : kvs.find? (fun kv => decide (kv.1 = x)) = none := by
        rw [List.find?_eq_none]; intro y hy he
        exact hany (List.any_eq_true.mpr ⟨y, hy, he⟩)
      rw [this]; simp
    · have h2 : ¬ k = x := fun e => hx e.symm
      simp [hx, h2]
noncomputable def upd {K : Type} [DecidableEq K] (f : K → Option PV) (k : K) (p : PV) : K → Option PV := fun x => if x = k then some p else f x
theorem ORel.stored {K : Type} [DecidableEq K] {h : Heap} {f : K → Option PV} {g : List (K × Value)} {k : K} {p : PV} {v : Value} (hr : ∀ x, ORel h (f x) (valueAt g x)) (hv : VR h p v) : ∀ x, ORel h (upd f k p x) (valueAt (PySem.stored g k v) x) := fun x => by
  rw [valueAt_stored]
  unfold upd
  by_cases hx : x = k
  · rw [if_pos hx, if_pos hx]; exact hv
  · rw [if_neg hx, if_neg hx]; exact hr x
theorem setItemDi {a : Addr} {fn : Nat × (Int → Option PV)} {k : Int} {t : Tok} {p : PV} {v : Value} {Q : Unit → Shared → Prop} (R : Rep c P L names s.heap m st) (ho : st.di a = some fn) (hn : fn.1 ≤ 1000) (hv : VR s.heap p v)
    (h : ∀ h' tk, Rep c P L names h' m (st.setDi a (fn.1 + 1, upd fn.2 k p)) → TK s.heap h' → Q () { s with heap := h', toks := tk }) : wpAny (model c.prog c.w) A (setItem (.ref a) (.int k t) v) Q noE s := by
  obtain ⟨δ, ⟨g, hg, hl, hr⟩, _⟩ := R.obj (mo := .di fn) ho
  refine wpAny_setItem_pairs (intKind_is c.prog c.w k t) hg (fun h' hd hs => ?_) (by rw [sizeLine_eq]; (first | lia | omega))
  exact h _ _ (R.setDi ho hs.extBut hd (Nat.le_trans (stored_length_le ..) (by show g.length + 1 ≤ fn.1 + 1; (first | lia | omega))) (ORel.stored hr hv)) (R.tk (mo := .di fn) ho hs.extBut)
theorem setItemDk {a : Addr} {fn : Nat × (Str → Option PV)} {k : Str} {t : Tok} {p : PV} {v : Value} {Q : Unit → Shared → Prop} (R : Rep c P L names s.heap m st) (ho : st.dk a = some fn) (hn : fn.1 ≤ 1000) (hv : VR s.heap p v)
    (h : ∀ h' tk, Rep c P L names h' m (st.setDk a (fn.1 + 1, upd fn.2 k p)) → TK s.heap h' → Q () { s with heap := h', toks := tk }) : wpAny (model c.prog c.w) A (setItem (.ref a) (.str k t) v) Q noE s := by
  obtain ⟨δ, ⟨g, hg, hl, hr⟩, _⟩ := R.obj (mo := .dk fn) ho
  refine wpAny_setItem_pairs (strKind_is c.prog c.w k t) hg (fun h' hd hs => ?_) (by rw [sizeLine_eq]; (first | lia | omega))
  exact h _ _ (R.setDk ho hs.extBut hd (Nat.le_trans (stored_length_le ..) (by show g.length + 1 ≤ fn.1 + 1; (first | lia | omega))) (ORel.stored hr hv)) (R.tk (mo := .dk fn) ho hs.extBut)
end
end Mine
namespace Mine

theorem mine_isi_sub_int : isSubtype (.type "int") (.type "tuple") = pure false := by rw [isSubtype_type]; kernel_rfl
theorem mine_isi_sub_str : isSubtype (.type "str") (.type "tuple") = pure false := by rw [isSubtype_type]; kernel_rfl
theorem mine_isi_sub_tup : isSubtype (.type "tuple") (.type "tuple") = pure true := by rw [isSubtype_type]; kernel_rfl
theorem mine_isi_meta : typeOf (.type "tuple") = pure (.type "type") := by kernel_rfl

section
variable {c : Cx} {n : Nat} {names : List Str} {scope : Scope}
variable {P : Prot} {L : Addr} {q : Str} {f : Addr} {cd : Value} {A : Around} {s : Shared} {m : Fm} {st : St}

/-! ### built-in functions, as specs -/
@[simp] noncomputable def gLen (st : St) : List PV → Option PV
  | [.tup ps] => some (.int ps.length)
  | [.ref a] => (match st.ls a with | some ps => some (.int ps.length) | none => none)
  | _ => none
@[simp] noncomputable def Sp.fn (g : St → List PV → Option PV) : Spec := fun ps st Q => orF (g st ps) fun r => Q r st
theorem vrs1 {h : Heap} {p : PV} {vs : List Value} (x : VRs h [p] vs) : ∃ v, vs = [v] ∧ VR h p v := by
  obtain ⟨v, vs', rfl, a, rfl⟩ := x; exact ⟨v, rfl, a⟩
theorem vrs2 {h : Heap} {p u : PV} {vs : List Value} (x : VRs h [p, u] vs) : ∃ v w, vs = [v, w] ∧ VR h p v ∧ VR h u w := by
  obtain ⟨v, vs', rfl, a, w, vs'', rfl, b, rfl⟩ := x; exact ⟨v, w, rfl, a, b⟩
theorem vrs3 {h : Heap} {p u r : PV} {vs : List Value} (x : VRs h [p, u, r] vs) : ∃ v w y, vs = [v, w, y] ∧ VR h p v ∧ VR h u w ∧ VR h r y := by
  obtain ⟨v, vs', rfl, a, w, vs'', rfl, b, y, vs3, rfl, d, rfl⟩ := x; exact ⟨v, w, y, rfl, a, b, d⟩

theorem ok_len : CallOk c n (.builtin "len") (Sp.fn gLen) := fun ⦃P L names A s m st Q ps vs⦄ rm R V hs => by
  obtain ⟨r, e, q⟩ := orF.elim hs
  unfold gLen at e
  split at e
  · cases e
    obtain ⟨v, rfl, hv⟩ := vrs1 V
    obtain ⟨a, ws, rfl, ht, hl, hws⟩ := hv.tup_is
    have hlen := hws.length
    refine PyProof.Rows.len_tuple ht (by rw [List.size_toArray]; unfold lim at hl; (first | lia | omega)) ⟨_, st, R, ?_, .toks _ _, q⟩
    rw [List.size_toArray, hlen]; exact .int_ _ _ _
  · split at e
    · rename_i a x ps' e1
      cases e
      obtain ⟨v, rfl, hv⟩ := vrs1 V
      cases hv
      obtain ⟨ws, d, e2, hl, hws⟩ := R.list e1
      have hlen := hws.length
      refine Calls.call_len_list (isList_of e2) (by rw [List.size_toArray]; unfold lim at hl; (first | lia | omega)) ⟨_, st, R, ?_, .toks _ _, q⟩
      rw [List.size_toArray, hlen]; exact .int_ _ _ _
    · cases e
  · cases e

@[simp] noncomputable def gMax (_ : St) : List PV → Option PV
  | [.int i, .int j] => some (.int (if j > i then j else i))
  | _ => none
theorem ok_max : CallOk c n (.builtin "max") (Sp.fn gMax) := fun ⦃P L names A s m st Q ps vs⦄ rm R V hs => by
  obtain ⟨r, e, q⟩ := orF.elim hs
  unfold gMax at e
  split at e
  · cases e
    obtain ⟨v, w, rfl, ⟨t, rfl⟩, ⟨u, rfl⟩⟩ := vrs2 V
    refine max_two_ints rm.h fun h' tk k => ?_
    rename_i i j
    refine ⟨_, st, R.keep k, ?_, Ext.keep k, q⟩
    by_cases hij : j > i
    · rw [if_pos hij, if_pos hij]; exact .int_ _ _ _
    · rw [if_neg hij, if_neg hij]; exact .int_ _ _ _
  · cases e

@[simp] noncomputable def gIsTup (_ : St) : List PV → Option PV
  | [.tup _] => some (.bool true)
  | [.int _] => some (.bool false)
  | [.str _] => some (.bool false)
  | _ => none
theorem isi_ {x : Value} {p r : PV} {Q : Value → Shared → Prop} (V : VR s.heap p x) (e : gIsTup st [p] = some r) (h : ∀ v tk, VR s.heap r v → Q v { s with toks := tk }) :
    wpAny (model c.prog c.w) A (call (.builtin "isinstance") [x, .type "tuple"]) Q noE s := by
  unfold gIsTup at e
  split at e
  · rename_i hh; cases e; cases hh
    obtain ⟨a, ws, rfl, ht, hl, hws⟩ := V.tup_is
    exact PyProof.Rows.call_isinstance_yes ht.typeIs mine_isi_meta mine_isi_sub_tup (h _ s.toks rfl)
  · rename_i hh; cases e; cases hh
    obtain ⟨t, rfl⟩ := V
    exact PySem.call_isinstance (isinstance_false_int (by decide) mine_isi_meta mine_isi_sub_int) (h _ _ rfl)
  · rename_i hh; cases e; cases hh
    obtain ⟨t, rfl⟩ := V
    exact PySem.call_isinstance (isinstance_false_str (by decide) mine_isi_meta mine_isi_sub_str) (h _ _ rfl)
  · cases e
/-- isinstance(x, tuple): the class is no value of ours -/
@[simp] noncomputable def W.isTup (e : WE) : WE := fun m st Q => e m st fun p st₁ => orF (gIsTup st₁ [p]) fun r => Q r st₁
theorem SE.isTup {e : Expr} {np tp pos : Pos} {w : WE} (hx : nsIn c.K mainGlobals "isinstance" = some none) (ht : nsIn c.K mainGlobals "tuple" = some none) (hst : NoStar [e, .Name "tuple" tp]) (he : ∀ env, starEach [e, .Name "tuple" tp] env = (false, eval e env) :: starEach [.Name "tuple" tp] env) (hk : scope.kind = .function)
    (hl : scope.names.lookup ("isinstance" : Str) = some .globalImplicit) (hlt : scope.names.lookup ("tuple" : Str) = some .globalImplicit) (h : SE c n names scope e w) : SE c n names scope (.Call (.Name "isinstance" np) [e, .Name "tuple" tp] [] pos) (W.isTup w) := fun ⦃P L q f cd A s m st Q⦄ rm R hw => by
  refine wpAny_Call_ofName (Calls.Name_function_global hk hl (Calls.loadGlobal_builtin (c.g.keeps R.keeps₀) (mg_none_of c.X c.g hx) (c.b.keeps R.keeps₀) (v := .builtin "isinstance") (c.bi "isinstance" (by decide)) ?_) (by decide))
  refine Calls.callWith_builtin (backTo_any hst) (evalArgs_es hst ?_)
  refine wpAny_items_cons (wpM (h rm R hw) fun v s₁ ⟨p, st₁, R₁, V₁, X₁, q₁⟩ => ?_) (he _)
  refine wpAny_items_cons (rest := []) (env := envOf q scope L f cd) (Calls.Name_function_global hk hlt (Calls.loadGlobal_builtin (c.g.keeps R₁.keeps₀) (mg_none_of c.X c.g ht) (c.b.keeps R₁.keeps₀) (v := .type "tuple") (c.bi "tuple" (by decide)) ?_) (by decide)) rfl
  refine wpAny_items_nil ?_
  obtain ⟨r, e, q⟩ := orF.elim q₁
  exact isi_ V₁ e fun v tk hv => ⟨r, st₁, R₁, hv, X₁.trans (.toks _ _), q⟩
end
end Mine
namespace Mine

section
variable {c : Cx} {n : Nat} {names : List Str} {scope : Scope}
variable {P : Prot} {L : Addr} {q : Str} {f : Addr} {cd : Value} {A : Around} {s : Shared} {m : Fm} {st : St}

/-! ### methods of lists -/
@[simp] noncomputable def Sp.append : Spec := fun ps st Q => ∃ a p xs, ps = [.ref a, p] ∧ st.ls a = some xs ∧ xs.length < 1000000 ∧ Q .none (st.setL a (xs ++ [p]))
theorem ok_append : CallOk c n (.builtin "list.append") Sp.append := fun ⦃P L names A s m st Q ps vs⦄ rm R V hs => by
  obtain ⟨a, p, xs, rfl, e, hl, hq⟩ := hs
  obtain ⟨v, w, rfl, v1, v2⟩ := vrs2 V
  cases v1
  obtain ⟨ws, d, e2, hl2, hws⟩ := R.list e
  have hlen := hws.length
  refine PyProof.Rows.append_at e2 (fun h' hsb hn => ?_) (by rw [List.size_toArray, sizeLine_eq]; (first | lia | omega))
  have hn' : h'.get? a = some (lstO (ws ++ [w]) (d + 1)) := by rw [hn]; simp [lstO]
  exact ⟨.none, _, R.setL e hsb.extBut hn' (by rw [List.length_append, List.length_singleton]; unfold lim; (first | lia | omega)) (hws.append (.one v2)), rfl, ⟨R.tk (mo := .list xs) e hsb.extBut, rfl, rfl⟩, hq⟩
theorem vrs_dropLast {h : Heap} : ∀ {ps : List PV} {vs : List Value}, VRs h ps vs → VRs h ps.dropLast vs.dropLast := fun {ps vs} x => by
  rw [List.dropLast_eq_take, List.dropLast_eq_take, x.length]; exact x.take _
@[simp] noncomputable def Sp.pop : Spec := fun ps st Q => ∃ a xs p, ps = [.ref a] ∧ st.ls a = some (xs ++ [p]) ∧ Q p (st.setL a xs)
theorem ok_pop : CallOk c n (.builtin "list.pop") Sp.pop := fun ⦃P L names A s m st Q ps vs⦄ rm R V hs => by
  obtain ⟨a, xs, p, rfl, e, hq⟩ := hs
  obtain ⟨v, rfl, v1⟩ := vrs1 V
  cases v1
  obtain ⟨ws, d, e2, hl2, hws⟩ := R.list e
  have hlen := hws.length
  rw [List.length_append, List.length_singleton] at hlen
  obtain ⟨y, y1, y2⟩ := hws.get (i := xs.length) (p := p) (by simp)
  have hup := Heap.get?_update_self (Obj.mapSeq fun xs => xs.eraseIdxIfInBounds (ws.toArray.size - 1)) e2 rfl
  have her : ws.toArray.eraseIdxIfInBounds (ws.toArray.size - 1) = (ws.take xs.length).toArray := by
    have h1 : ws.toArray.size - 1 < ws.toArray.size := by rw [List.size_toArray]; (first | lia | omega)
    unfold Array.eraseIdxIfInBounds
    rw [dif_pos h1]
    apply Array.toList_inj.mp
    rw [Array.toList_eraseIdx]
    simp only [List.size_toArray]
    rw [show ws.length - 1 = xs.length from by (first | lia | omega), List.eraseIdx_eq_take_drop_succ]
    rw [List.drop_eq_nil_of_le (by (first | lia | omega)), List.append_nil]
  have hup' : ∃ k, (s.heap.update a (Obj.mapSeq fun xs => xs.eraseIdxIfInBounds (ws.toArray.size - 1))).get? a = some (lstO (ws.take xs.length) k) := by
    rw [hup]
    simp only [Obj.mapSeq, lstO, her]
    exact ⟨_, rfl⟩
  obtain ⟨k, hn⟩ := hup'
  have hsb := (Heap.SameBut.update s.heap a (Obj.mapSeq fun xs => xs.eraseIdxIfInBounds (ws.toArray.size - 1))).extBut
  have t := R.tk (mo := .list _) e hsb
  have hw2 : VRs s.heap xs (ws.take xs.length) := by have := hws.take xs.length; simpa using this
  refine call_meets F.slot_list_pop (⟨_, e2, rfl⟩ : s.TypeIs (.ref a) "list") F.entry_list_pop (F.args_list_pop_1 _) (MeetsSeq.list_pop_last a ws.toArray d y (by simpa [hlen] using y1) (by rw [List.size_toArray, sizeLine_eq]; unfold lim at hl2; (first | lia | omega))) ⟨e2, ?_⟩
  exact ⟨p, _, R.setL e hsb hn (by rw [List.length_take]; (first | lia | omega)) hw2, VR.mono t _ _ y2, ⟨t, rfl, rfl⟩, hq⟩

/-! ### methods of dicts -/
theorem valueAt_rel {K : Type} [DecidableEq K] {h : Heap} {fn : K → Option PV} {g : List (K × Value)} (hr : ∀ k, ORel h (fn k) (valueAt g k)) {d : PV} {dv : Value} (hd : VR h d dv) (k : K) : VR h ((fn k).getD d) ((valueAt g k).getD dv) := by
  have := hr k
  cases h1 : fn k <;> cases h2 : valueAt g k <;> rw [h1, h2] at this
  · exact hd
  · exact this.elim
  · exact this.elim
  · exact this
@[simp] noncomputable def gGetDi (st : St) : List PV → Option PV
  | [.ref a, .int k, d] => (st.di a).map fun x => (x.2 k).getD d
  | _ => none
@[simp] noncomputable def gGetDk (st : St) : List PV → Option PV
  | [.ref a, .str k, d] => (st.dk a).map fun x => (x.2 k).getD d
  | _ => none
@[simp] noncomputable def gGetDt (st : St) : List PV → Option PV
  | [.ref a, .tup [.int i, .int j], d] => (st.dt a).map fun x => (x.2 [i, j]).getD d
  | _ => none
theorem ok_getDi : CallOk c n (.builtin "dict.get") (Sp.fn gGetDi) := fun ⦃P L names A s m st Q ps vs⦄ rm R V hs => by
  obtain ⟨r, e, q⟩ := orF.elim hs
  unfold gGetDi at e
  split at e
  · obtain ⟨fn, e1, e2⟩ := Option.map_eq_some_iff.mp e
    subst e2
    obtain ⟨v, w, y, rfl, v1, ⟨t, rfl⟩, v3⟩ := vrs3 V
    cases v1
    rename_i a k d
    obtain ⟨δ, ⟨g, hg, _, hr⟩, lo⟩ := R.obj (mo := .di fn) e1
    exact call_meetsIn F.slot_dict_get hg.typeIs F.entry_dict_get (F.args_dict_get_3 _ _ _) (meets_dict_get_default (knd := intKind c.prog c.w) a (intKind_is c.prog c.w _ t) (lo rfl) _)
      ⟨valueAt g, hg.mapOf, _, st, R, valueAt_rel hr v3 _, .toks _ _, q⟩
  · cases e
theorem ok_getDk : CallOk c n (.builtin "dict.get") (Sp.fn gGetDk) := fun ⦃P L names A s m st Q ps vs⦄ rm R V hs => by
  obtain ⟨r, e, q⟩ := orF.elim hs
  unfold gGetDk at e
  split at e
  · obtain ⟨fn, e1, e2⟩ := Option.map_eq_some_iff.mp e
    subst e2
    obtain ⟨v, w, y, rfl, v1, ⟨t, rfl⟩, v3⟩ := vrs3 V
    cases v1
    rename_i a k d
    obtain ⟨δ, ⟨g, hg, _, hr⟩, lo⟩ := R.obj (mo := .dk fn) e1
    exact call_meetsIn F.slot_dict_get hg.typeIs F.entry_dict_get (F.args_dict_get_3 _ _ _) (meets_dict_get_default (knd := strKind c.prog c.w) a (strKind_is c.prog c.w _ t) (lo rfl) _)
      ⟨valueAt g, hg.mapOf, _, st, R, valueAt_rel hr v3 _, .toks _ _, q⟩
  · cases e
theorem VR.pair {h : Heap} {i j : Int} {v : Value} (x : VR h (.tup [.int i, .int j]) v) (prog : Program) (w : World) : ∃ a, v = .ref a ∧ IsTupleKey (intKind prog w) h [i, j] a := by
  obtain ⟨a, vs, k, rfl, e, _, r⟩ := x
  obtain ⟨v1, v2, rfl, ⟨t, rfl⟩, ⟨u, rfl⟩⟩ := vrs2 r
  exact ⟨a, rfl, _, _, _, e, rfl, rfl, .cons (intKind_is prog w i t) (.cons (intKind_is prog w j u) .nil)⟩
theorem Room.in1 {A : Around} (r : Room n A) : A.in1.units < cLine := by
  have := r.u
  unfold cLine
  show A.units + 1 < 9900
  (first | lia | omega)
theorem ok_getDt : CallOk c n (.builtin "dict.get") (Sp.fn gGetDt) := fun ⦃P L names A s m st Q ps vs⦄ rm R V hs => by
  obtain ⟨r, e, q⟩ := orF.elim hs
  unfold gGetDt at e
  split at e
  · obtain ⟨fn, e1, e2⟩ := Option.map_eq_some_iff.mp e
    subst e2
    obtain ⟨v, w, y, rfl, v1, v2, v3⟩ := vrs3 V
    cases v1
    rename_i a i j d
    obtain ⟨b, rfl, hk⟩ := v2.pair c.prog c.w
    obtain ⟨δ, ⟨g, hg, _, hr⟩, lo⟩ := R.obj (mo := .dt fn) e1
    refine call_meetsIn F.slot_dict_get hg.typeIs F.entry_dict_get (F.args_dict_get_3 _ _ _) (meetsH_dict_get_default (knd := tupleKind (intKind c.prog c.w)) a b (lo rfl) _)
      ⟨rm.in1, [i, j], g, hk, hg, _, st, R, ?_, .toks _ _, q⟩
    have := hr [i, j]
    cases h1 : fn.2 [i, j] <;> cases h2 : (atKey g [i, j]).map (·.2) <;> rw [h1, h2] at this
    · exact v3
    · exact this.elim
    · exact this.elim
    · exact this
  · cases e
@[simp] noncomputable def Sp.setdef : Spec := fun ps st Q => ∃ a k d fn, ps = [.ref a, .int k, d] ∧ st.di a = some fn ∧ fn.1 ≤ 1000 ∧ (∀ v, fn.2 k = some v → Q v st) ∧ (fn.2 k = none → Q d (st.setDi a (fn.1 + 1, upd fn.2 k d)))
theorem ok_setdef : CallOk c n (.builtin "dict.setdefault") Sp.setdef := fun ⦃P L names A s m st Q ps vs⦄ rm R V hs => by
  obtain ⟨a, k, d, fn, rfl, e, hl, q1, q2⟩ := hs
  obtain ⟨v, w, y, rfl, v1, ⟨t, rfl⟩, v3⟩ := vrs3 V
  cases v1
  obtain ⟨δ, ⟨g, hg, hgl, hr⟩, lo⟩ := R.obj (mo := .di fn) e
  refine call_meetsIn F.slot_dict_setdefault hg.typeIs F.entry_dict_setdefault (F.args_dict_setdefault_3 _ _ _) (kt_meets_setdefault (intKind c.prog c.w) a (intKind_is c.prog c.w k t) (lo rfl) _)
    ⟨g, hg, by rw [sizeLine_eq]; (first | lia | omega), fun v hv => ?_, fun hn h' hd hs => ?_⟩
  · have := hr k
    rw [hv] at this
    cases h1 : fn.2 k with
    | none => rw [h1] at this; exact this.elim
    | some p => rw [h1] at this; exact ⟨p, st, R, this, .toks _ _, q1 p h1⟩
  · have := hr k
    rw [hn] at this
    cases h1 : fn.2 k with
    | some p => rw [h1] at this; exact this.elim
    | none =>
      have t := R.tk (mo := .di fn) e hs.extBut
      exact ⟨d, _, R.setDi e hs.extBut hd (Nat.le_trans (stored_length_le ..) (by show g.length + 1 ≤ fn.1 + 1; (first | lia | omega))) (ORel.stored hr v3), VR.mono t _ _ v3, ⟨t, rfl, rfl⟩, q2 h1⟩

/-! storing in dicts -/
theorem atKey_stored {xs : List (List Int × Addr × Value)} {k : List Int} {a : Addr} {v : Value} (x : List Int) : (atKey (storedH xs k a v) x).map (·.2) = if x = k then some v else (atKey xs x).map (·.2) := by
  cases hk : atKey xs k with
  | none =>
    rw [storedH_new hk]
    unfold atKey
    rw [List.find?_append]
    by_cases hx : x = k
    · subst hx
      unfold atKey at hk
      rw [Option.map_eq_none_iff] at hk
      rw [hk]
      simp
    · have h2 : ¬ k = x := fun e => hx e.symm
      simp [hx, h2]
  | some p =>
    rw [storedH_old hk]
    unfold atKey at hk ⊢
    have gen : ∀ l : List (List Int × Addr × Value), (((l.map (putAt k v)).find? fun y => decide (y.1 = x)).map (·.2)).map (·.2) = if x = k ∧ (l.find? fun y => decide (y.1 = k)).isSome then some v else ((l.find? fun y => decide (y.1 = x)).map (·.2)).map (·.2) := by
      intro l
      induction l with
      | nil => simp
      | cons y r ih =>
        rw [List.map_cons, List.find?_cons, List.find?_cons, List.find?_cons]
        unfold putAt
        by_cases hy : y.1 = k
        · by_cases hx : x = k
          · subst hx; simp [hy]
          · have : ¬ y.1 = x := fun e => hx (e.symm.trans hy)
            have h2 : ¬ k = x := fun e => hx e.symm
            simp only [hy, if_true, h2, decide_false]
            simp only [hx, false_and, if_false] at ih ⊢
            exact ih
        · simp only [hy, if_false, decide_false]
          by_cases hyx : y.1 = x
          · have hx : ¬ x = k := fun e => hy (hyx.trans e)
            simp [hyx, hx]
          · simp only [hyx, decide_false]
            exact ih
    rw [gen]
    have hs : (xs.find? fun y => decide (y.1 = k)).isSome = true := by
      cases h3 : xs.find? (fun y => decide (y.1 = k)) with
      | none => rw [h3] at hk; cases hk
      | some _ => rfl
    by_cases hx : x = k
    · rw [if_pos ⟨hx, hs⟩, if_pos hx]
    · rw [if_neg (fun z => hx z.1), if_neg hx]
theorem storedH_len {xs : List (List Int × Addr × Value)} {k : List Int} {a : Addr} {v : Value} : (storedH xs k a v).length ≤ xs.length + 1 := by
  unfold storedH; split <;> simp
theorem setItemDt {a b : Addr} {fn : Nat × (List Int → Option PV)} {k : List Int} {p : PV} {v : Value} {Q : Unit → Shared → Prop} (rm : Room n A) (R : Rep c P L names s.heap m st) (ho : st.dt a = some fn) (hn : fn.1 ≤ 1000) (hk : IsTupleKey (intKind c.prog c.w) s.heap k b) (hv : VR s.heap p v)
    (h : ∀ h' tk, Rep c P L names h' m (st.setDt a (fn.1 + 1, upd fn.2 k p)) → TK s.heap h' → Q () { s with heap := h', toks := tk }) : wpAny (model c.prog c.w) A (setItem (.ref a) (.ref b) v) Q noE s := by
  obtain ⟨δ, ⟨g, hg, hl, hr⟩, _⟩ := R.obj (mo := .dt fn) ho
  refine wpAny_setItem_heap rm.in1 hk hg (fun h' hd hs => ?_) (by rw [sizeLine_eq]; (first | lia | omega))
  refine h _ _ (R.setDt ho hs.extBut hd (Nat.le_trans storedH_len (by show g.length + 1 ≤ fn.1 + 1; (first | lia | omega))) fun x => ?_) (R.tk (mo := .dt fn) ho hs.extBut)
  rw [atKey_stored]
  show ORel s.heap (upd fn.2 k p x) _
  unfold upd
  by_cases hx : x = k
  · rw [if_pos hx, if_pos hx]; exact hv
  · rw [if_neg hx, if_neg hx]; exact hr x

@[simp] noncomputable def W.putDi (eo ei e : WE) : WS := fun m st Q => e m st fun p st₁ => eo m st₁ fun u st₂ => ei m st₂ fun i st₃ => ∃ a k fn, u = .ref a ∧ i = .int k ∧ st₃.di a = some fn ∧ fn.1 ≤ 1000 ∧ Q .next m (st₃.setDi a (fn.1 + 1, upd fn.2 k p))
@[simp] noncomputable def W.putDk (eo ei e : WE) : WS := fun m st Q => e m st fun p st₁ => eo m st₁ fun u st₂ => ei m st₂ fun i st₃ => ∃ a k fn, u = .ref a ∧ i = .str k ∧ st₃.dk a = some fn ∧ fn.1 ≤ 1000 ∧ Q .next m (st₃.setDk a (fn.1 + 1, upd fn.2 k p))
@[simp] noncomputable def W.putDt (eo ei e : WE) : WS := fun m st Q => e m st fun p st₁ => eo m st₁ fun u st₂ => ei m st₂ fun i st₃ => ∃ a k l fn, u = .ref a ∧ i = .tup [.int k, .int l] ∧ st₃.dt a = some fn ∧ fn.1 ≤ 1000 ∧ Q .next m (st₃.setDt a (fn.1 + 1, upd fn.2 [k, l] p))
section
variable {o i e : Expr} {pos' pos : Pos} {wo wi w : WE} (hs : ∀ env, swapsWith e (some (.Subscript o i pos')) pos.line env = pure false) (ho : SE c n names scope o wo) (hi : SE c n names scope i wi) (h : SE c n names scope e w)
include hs ho hi h
theorem SX.putDi : SX c n names scope (.Assign [.Subscript o i pos'] e pos) (W.putDi wo wi w) := fun _ _ _ _ _ _ _ _ _ _ rm R hw => by
  refine wpAny_Assign_Subscript (wpM (h rm R hw) fun v s₁ ⟨p, st₁, R₁, V₁, X₁, q₁⟩ => wpM (ho rm R₁ q₁) fun u s₂ ⟨pu, st₂, R₂, V₂, X₂, q₂⟩ => wpM (hi rm R₂ q₂) fun x s₃ ⟨pi, st₃, R₃, V₃, X₃, q₃⟩ => ?_) (hs _)
  obtain ⟨a, k, fn, rfl, rfl, e1, hl, q₄⟩ := q₃
  cases V₂
  obtain ⟨t, rfl⟩ := V₃
  have X := (X₁.trans X₂).trans X₃
  exact setItemDi R₃ e1 hl (VR.mono (X₂.trans X₃).tk _ _ V₁) fun h' tk R' t => ⟨.next, _, _, R', rfl, X.trans ⟨t, rfl, rfl⟩, q₄⟩
theorem SX.putDk : SX c n names scope (.Assign [.Subscript o i pos'] e pos) (W.putDk wo wi w) := fun _ _ _ _ _ _ _ _ _ _ rm R hw => by
  refine wpAny_Assign_Subscript (wpM (h rm R hw) fun v s₁ ⟨p, st₁, R₁, V₁, X₁, q₁⟩ => wpM (ho rm R₁ q₁) fun u s₂ ⟨pu, st₂, R₂, V₂, X₂, q₂⟩ => wpM (hi rm R₂ q₂) fun x s₃ ⟨pi, st₃, R₃, V₃, X₃, q₃⟩ => ?_) (hs _)
  obtain ⟨a, k, fn, rfl, rfl, e1, hl, q₄⟩ := q₃
  cases V₂
  obtain ⟨t, rfl⟩ := V₃
  have X := (X₁.trans X₂).trans X₃
  exact setItemDk R₃ e1 hl (VR.mono (X₂.trans X₃).tk _ _ V₁) fun h' tk R' t => ⟨.next, _, _, R', rfl, X.trans ⟨t, rfl, rfl⟩, q₄⟩
theorem SX.putDt : SX c n names scope (.Assign [.Subscript o i pos'] e pos) (W.putDt wo wi w) := fun _ _ _ _ _ _ _ _ _ _ rm R hw => by
  refine wpAny_Assign_Subscript (wpM (h rm R hw) fun v s₁ ⟨p, st₁, R₁, V₁, X₁, q₁⟩ => wpM (ho rm R₁ q₁) fun u s₂ ⟨pu, st₂, R₂, V₂, X₂, q₂⟩ => wpM (hi rm R₂ q₂) fun x s₃ ⟨pi, st₃, R₃, V₃, X₃, q₃⟩ => ?_) (hs _)
  obtain ⟨a, k, l, fn, rfl, rfl, e1, hl, q₄⟩ := q₃
  cases V₂
  obtain ⟨b, rfl, hk⟩ := V₃.pair c.prog c.w
  have X := (X₁.trans X₂).trans X₃
  exact setItemDt rm R₃ e1 hl hk (VR.mono (X₂.trans X₃).tk _ _ V₁) fun h' tk R' t => ⟨.next, _, _, R', rfl, X.trans ⟨t, rfl, rfl⟩, q₄⟩
end

/-! displays and conversions -/
@[simp] noncomputable def W.dictDi : WE := fun m st Q => ∀ a, st.free a → Q (.ref a) (st.setDi a (0, fun _ => none))
@[simp] noncomputable def W.dictDk : WE := fun m st Q => ∀ a, st.free a → Q (.ref a) (st.setDk a (0, fun _ => none))
@[simp] noncomputable def W.dictDt : WE := fun m st Q => ∀ a, st.free a → Q (.ref a) (st.setDt a (0, fun _ => none))
theorem SE.dictDi {pos : Pos} : SE c n names scope (.Dict [] [] pos) W.dictDi := fun ⦃P L q f cd A s m st Q⦄ rm R hw => by
  obtain ⟨hf, R'⟩ := R.newDi (a := s.heap.objs.size) (Nat.le_refl _) (keepPush _) (Heap.DictOf.new _)
  exact wpAny_Dict_empty ⟨.ref _, _, R', rfl, Ext.keep (keepPush _), hw _ hf⟩
theorem SE.dictDk {pos : Pos} : SE c n names scope (.Dict [] [] pos) W.dictDk := fun ⦃P L q f cd A s m st Q⦄ rm R hw => by
  obtain ⟨hf, R'⟩ := R.newDk (a := s.heap.objs.size) (Nat.le_refl _) (keepPush _) (Heap.DictOf.new _)
  exact wpAny_Dict_empty ⟨.ref _, _, R', rfl, Ext.keep (keepPush _), hw _ hf⟩
theorem SE.dictDt {pos : Pos} : SE c n names scope (.Dict [] [] pos) W.dictDt := fun ⦃P L q f cd A s m st Q⦄ rm R hw => by
  obtain ⟨hf, R'⟩ := R.newDt (a := s.heap.objs.size) (Nat.le_refl _) (keepPush _) (Heap.DictOfH.new _)
  exact wpAny_Dict_empty ⟨.ref _, _, R', rfl, Ext.keep (keepPush _), hw _ hf⟩
@[simp] noncomputable def Sp.listOf : Spec := fun ps st Q => ∃ xs, ps = [.tup xs] ∧ ∀ a, st.free a → Q (.ref a) (st.setL a xs)
theorem ok_list : CallOk c n (.type "list") Sp.listOf := fun ⦃P L names A s m st Q ps vs⦄ rm R V hs => by
  obtain ⟨xs, rfl, hq⟩ := hs
  obtain ⟨v, rfl, v1⟩ := vrs1 V
  obtain ⟨a, ws, k, rfl, e, hl, hws⟩ := v1
  refine call_list_seq a (.inr rfl) e rfl rfl (fun h' k' keep hn => ?_) (by rw [List.size_toArray, sizeLine_eq]; unfold lim at hl; (first | lia | omega))
  obtain ⟨hf, R'⟩ := R.newL (a := s.heap.objs.size) (Nat.le_refl _) keep hn hl hws
  exact ⟨.ref _, _, R', rfl, ⟨.of_keep keep, rfl, rfl⟩, hq _ hf⟩
@[simp] noncomputable def Sp.tupOf : Spec := fun ps st Q => ∃ a xs, ps = [.ref a] ∧ st.ls a = some xs ∧ Q (.tup xs) st
theorem ok_tuple : CallOk c n (.type "tuple") Sp.tupOf := fun ⦃P L names A s m st Q ps vs⦄ rm R V hs => by
  obtain ⟨a, xs, rfl, e, hq⟩ := hs
  obtain ⟨v, rfl, v1⟩ := vrs1 V
  cases v1
  obtain ⟨ws, d, e2, hl, hws⟩ := R.list e
  refine call_tuple_list (isList_of e2) (fun h' keep => ?_) (by rw [List.size_toArray, sizeLine_eq]; unfold lim at hl; (first | lia | omega))
  have k2 : ∀ b o, s.heap.get? b = some o → (h'.push { cls := .type "tuple", data := .seq ws.toArray }).get? b = some o := fun b o e => Heap.get?_push_of_some _ (keep b o e)
  exact ⟨.tup xs, st, R.keep k2, ⟨_, ws, 0, rfl, Heap.get?_push_size _ rfl, hl, VRs.mono (.of_keep k2) _ _ hws⟩, ⟨.of_keep k2, rfl, rfl⟩, hq⟩
@[simp] noncomputable def Sp.set0 : Spec := fun ps st Q => ps = [] ∧ ∀ a, Q (.ref a) st
theorem ok_set : CallOk c n (.type "set") Sp.set0 := fun ⦃P L names A s m st Q ps vs⦄ rm R V hs => by
  obtain ⟨rfl, hq⟩ := hs
  cases V
  exact call_set_0 fun led => ⟨.ref _, st, R.keep (keepPush _), rfl, ⟨.of_keep (keepPush _), rfl, rfl⟩, hq _⟩
end
end Mine
namespace Mine

section
variable {c : Cx} {n : Nat} {names : List Str} {scope : Scope}
variable {P : Prot} {L : Addr} {q : Str} {f : Addr} {cd : Value} {A : Around} {s : Shared} {m : Fm} {st : St}

/-! ### slices -/
theorem pushes {h : Heap} (x y : Obj) : ∀ b o, h.get? b = some o → ((h.push x).push y).get? b = some o := fun b o e => Heap.get?_push_of_some _ (Heap.get?_push_of_some _ e)
@[simp] noncomputable def W.listTake (e u : WE) : WE := fun m st Q => e m st fun p st₁ => u m st₁ fun k st₂ => ∃ a ps k', p = .ref a ∧ k = .int k' ∧ 0 ≤ k' ∧ st₂.ls a = some ps ∧ ∀ b, st₂.free b → Q (.ref b) (st₂.setL b (ps.take k'.toNat))
@[simp] noncomputable def W.listDrop (e u : WE) : WE := fun m st Q => e m st fun p st₁ => u m st₁ fun k st₂ => ∃ a ps k', p = .ref a ∧ k = .int k' ∧ 0 ≤ k' ∧ st₂.ls a = some ps ∧ ∀ b, st₂.free b → Q (.ref b) (st₂.setL b (ps.drop k'.toNat))
theorem SE.listTake {e u : Expr} {p pos : Pos} {we wu : WE} (htmp : ∀ o r, letTemporaryGo e o r = pure ()) (he : SE c n names scope e we) (hu : SE c n names scope u wu) : SE c n names scope (.Subscript e (.Slice none (some u) none p) pos) (W.listTake we wu) := fun ⦃P L q f cd A s m st Q⦄ rm R hw => by
  refine wpAny_Subscript_list_slice (wpM (he rm R hw) fun v s₁ ⟨pv, st₁, R₁, V₁, X₁, q₁⟩ => ?_) htmp
  refine wpAny_pure (wpM (hu rm R₁ q₁) fun k s₂ ⟨pk, st₂, R₂, V₂, X₂, q₂⟩ => ?_)
  obtain ⟨a, ps, k', rfl, rfl, h0, e1, q₃⟩ := q₂
  cases V₁
  obtain ⟨t, rfl⟩ := V₂
  obtain ⟨vs, d, e2, hl, hv⟩ := R₂.list e1
  refine ⟨a, vs.toArray, none, some k', rfl, isList_of e2, by rw [List.size_toArray, sizeLine_eq]; unfold lim at hl; (first | lia | omega), .none, .int _ _, ?_⟩
  obtain ⟨j, rfl⟩ := Int.eq_ofNat_of_zero_le h0
  rw [slicePick_upto', List.toList_toArray]
  have hn : ((s₂.heap.push { cls := .type "slice", data := .fields #[.none, .int (j : Int) t, .none] }).push { cls := .type "list", data := .seq (vs.take j).toArray }).get? (s₂.heap.objs.size + 1) = some (lstO (vs.take j) 0) := by
    have := Heap.get?_push_size (s₂.heap.push { cls := .type "slice", data := .fields #[.none, .int (j : Int) t, .none] }) (o := { cls := .type "list", data := .seq (vs.take j).toArray }) rfl
    rw [Heap.size_push] at this
    exact this
  obtain ⟨hf, R'⟩ := R₂.newL (a := s₂.heap.objs.size + 1) (Nat.le_succ _) (pushes _ _) hn (by rw [List.length_take]; (first | lia | omega)) (hv.take j)
  exact ⟨.ref _, _, R', rfl, (X₁.trans X₂).trans ⟨.of_keep (pushes _ _), rfl, rfl⟩, q₃ _ hf⟩
theorem SE.listDrop {e u : Expr} {p pos : Pos} {we wu : WE} (htmp : ∀ o r, letTemporaryGo e o r = pure ()) (he : SE c n names scope e we) (hu : SE c n names scope u wu) : SE c n names scope (.Subscript e (.Slice (some u) none none p) pos) (W.listDrop we wu) := fun ⦃P L q f cd A s m st Q⦄ rm R hw => by
  refine wpAny_Subscript_list_slice (wpM (he rm R hw) fun v s₁ ⟨pv, st₁, R₁, V₁, X₁, q₁⟩ => ?_) htmp
  refine wpM (hu rm R₁ q₁) fun k s₂ ⟨pk, st₂, R₂, V₂, X₂, q₂⟩ => wpAny_pure ?_
  obtain ⟨a, ps, k', rfl, rfl, h0, e1, q₃⟩ := q₂
  cases V₁
  obtain ⟨t, rfl⟩ := V₂
  obtain ⟨vs, d, e2, hl, hv⟩ := R₂.list e1
  refine ⟨a, vs.toArray, some k', none, rfl, isList_of e2, by rw [List.size_toArray, sizeLine_eq]; unfold lim at hl; (first | lia | omega), .int _ _, .none, ?_⟩
  obtain ⟨j, rfl⟩ := Int.eq_ofNat_of_zero_le h0
  rw [slicePick_from', List.toList_toArray]
  have hn : ((s₂.heap.push { cls := .type "slice", data := .fields #[.int (j : Int) t, .none, .none] }).push { cls := .type "list", data := .seq (vs.drop j).toArray }).get? (s₂.heap.objs.size + 1) = some (lstO (vs.drop j) 0) := by
    have := Heap.get?_push_size (s₂.heap.push { cls := .type "slice", data := .fields #[.int (j : Int) t, .none, .none] }) (o := { cls := .type "list", data := .seq (vs.drop j).toArray }) rfl
    rw [Heap.size_push] at this
    exact this
  obtain ⟨hf, R'⟩ := R₂.newL (a := s₂.heap.objs.size + 1) (Nat.le_succ _) (pushes _ _) hn (by rw [List.length_drop]; (first | lia | omega)) (hv.drop j)
  exact ⟨.ref _, _, R', rfl, (X₁.trans X₂).trans ⟨.of_keep (pushes _ _), rfl, rfl⟩, q₃ _ hf⟩
@[simp] noncomputable def W.tupRest (e : WE) : WE := fun m st Q => e m st fun p st₁ => ∃ ps, p = .tup ps ∧ 1 ≤ ps.length ∧ Q (.tup (ps.drop 1)) st₁
theorem SE.tupRest {e : Expr} {k : Nat} {p p' pos : Pos} {we : WE} (htmp : ∀ o r, letTemporaryGo e o r = pure ()) (he : SE c n names scope e we) : SE c n names scope (.Subscript e (.Slice (some (.Constant (.int 1) k p')) none none p) pos) (W.tupRest we) := fun ⦃P L q f cd A s m st Q⦄ rm R hw => by
  refine wpAny_Subscript_Slice (T := "tuple") slot_tuple_getitem.lookup (wpM (he rm R hw) fun v s₁ ⟨pv, st₁, R₁, V₁, X₁, q₁⟩ => ?_) htmp
  refine wpAny_Slice (wpAny_Constant_int (k := k) (pos := p') (wpAny_pure (wpAny_pure ?_)))
  obtain ⟨ps, rfl, h1, q₂⟩ := q₁
  obtain ⟨a, vs, rfl, ht, hl, hv⟩ := V₁.tup_is
  have hlen := hv.length
  have ht' := (ht : s₁.heap.IsTuple a vs.toArray)
  refine ⟨?_, ?_⟩
  · obtain ⟨o, e1, e2, _⟩ := ht
    exact ⟨o, Heap.get?_push_of_some _ e1, e2⟩
  obtain ⟨o, e1, e2, nn, e3⟩ := ht
  refine getItem_tuple_from (items := vs.toArray) (a := 1) ⟨o, Heap.get?_push_of_some _ e1, e2, nn, e3⟩ (Heap.IsSliceOf.new _ _ _ _) (by decide) (by rw [List.size_toArray]; (first | lia | omega)) ?_ (by rw [List.size_toArray, sizeLine_eq]; unfold lim at hl; (first | lia | omega))
  rw [List.toList_toArray]
  refine ⟨.tup (ps.drop 1), st₁, R₁.keep (pushes _ _), ⟨_, vs.drop 1, 0, rfl, Heap.get?_push_size _ rfl, by rw [List.length_drop]; (first | lia | omega), VRs.mono (.of_keep (pushes _ _)) _ _ (hv.drop 1)⟩, X₁.trans ⟨.of_keep (pushes _ _), rfl, rfl⟩, q₂⟩
@[simp] noncomputable def W.addL (a b : WE) : WE := fun m st Q => a m st fun p st₁ => b m st₁ fun u st₂ => ∃ x y ps us, p = .ref x ∧ u = .ref y ∧ st₂.ls x = some ps ∧ st₂.ls y = some us ∧ ps.length + us.length ≤ 1000000 ∧ ∀ d, st₂.free d → Q (.ref d) (st₂.setL d (ps ++ us))
theorem SE.addL {l r : Expr} {pos : Pos} {wl wr : WE} (hl : SE c n names scope l wl) (hr : SE c n names scope r wr) : SE c n names scope (.BinOp l .Add r pos) (W.addL wl wr) := fun _ _ _ _ _ _ _ _ _ _ rm R hw => by
  refine wpAny_BinOp (wpM (hl rm R hw) fun v s₁ ⟨p, st₁, R₁, V₁, X₁, q₁⟩ => ?_)
  refine wpM (hr rm R₁ q₁) fun x s₂ ⟨u, st₂, R₂, V₂, X₂, q₂⟩ => ?_
  obtain ⟨a, b, ps, us, rfl, rfl, e1, e2, hz, q₃⟩ := q₂
  cases V₁; cases V₂
  obtain ⟨vs, d, e3, hl3, hv⟩ := R₂.list e1
  obtain ⟨ws, d', e4, hl4, hw⟩ := R₂.list e2
  have h1 := hv.length
  have h2 := hw.length
  refine PySem.P.add_list e3 e4 ?_ (by rw [List.size_toArray, List.size_toArray, sizeLine_eq]; (first | lia | omega))
  rw [List.append_toArray]
  obtain ⟨hf, R'⟩ := R₂.newL (a := s₂.heap.objs.size) (Nat.le_refl _) (keepPush _) (Heap.get?_push_size _ rfl : _ = some (lstO (vs ++ ws) 0)) (by rw [List.length_append]; unfold lim; (first | lia | omega)) (hv.append hw)
  exact ⟨.ref _, _, R', rfl, (X₁.trans X₂).trans ⟨.of_keep (keepPush _), rfl, rfl⟩, q₃ _ hf⟩

/-! ### comparisons of compounds -/
@[simp] noncomputable def W.neT2 (a b : WE) : WT := fun m st Q => a m st fun p st₁ => b m st₁ fun u st₂ => ∃ i j k l, p = .tup [.int i, .int j] ∧ u = .tup [.int k, .int l] ∧ Q (!(decide (i = k) && decide (j = l))) st₂
theorem ST.neT2 {l r : Expr} {pos : Pos} {wl wr : WE} (hl : SE c n names scope l wl) (hr : SE c n names scope r wr) (hm : behindInMarks .NotEq r = false) : ST c n names scope (.Compare l [.NotEq] [r] pos) (W.neT2 wl wr) := fun ⦃P L q f cd A s m st Q⦄ rm R hw => by
  refine wpAny_isTrue_Compare1 (wpM (hl rm R hw) fun v s₁ ⟨p, st₁, R₁, V₁, X₁, q₁⟩ => ?_) hm
  refine wpM (hr rm R₁ q₁) fun x s₂ ⟨u, st₂, R₂, V₂, X₂, q₂⟩ => ?_
  obtain ⟨i, j, k, l, rfl, rfl, q₃⟩ := q₂
  obtain ⟨a, vs, rfl, ha, _, hv⟩ := (VR.mono X₂.tk _ _ V₁).tup_is
  obtain ⟨b, ws, rfl, hb, _, hw⟩ := V₂.tup_is
  obtain ⟨v1, v2, rfl, ⟨t1, rfl⟩, ⟨t2, rfl⟩⟩ := vrs2 hv
  obtain ⟨w1, w2, rfl, ⟨t3, rfl⟩, ⟨t4, rfl⟩⟩ := vrs2 hw
  have hu : A.units < cLine := by have := rm.u; unfold cLine; (first | lia | omega)
  refine SeqAt.RcNeAt.tuples (A := A) (e := fun z => if z = 0 then (i == k) else (j == l)) (ha : s₂.heap.IsTuple a _) (hb : s₂.heap.IsTuple b _) hu (fun z h1 h2 => ?_) _ _ _ _ (wpAny_truthy_bool ⟨st₂, R₂, X₁.trans X₂, ?_⟩)
  · match z, h1 with
    | 0, _ => exact SeqAt.EqAt.int_int _ _ _ _
    | 1, _ => exact SeqAt.EqAt.int_int _ _ _ _
  · have : (!((List.range (min (#[Value.int i t1, Value.int j t2]).size (#[Value.int k t3, Value.int l t4]).size)).all (fun z => if z = 0 then (i == k) else (j == l)) && (#[Value.int i t1, Value.int j t2]).size == (#[Value.int k t3, Value.int l t4]).size)) = !(decide (i = k) && decide (j = l)) := by
      have hr : List.range (min (#[Value.int i t1, Value.int j t2]).size (#[Value.int k t3, Value.int l t4]).size) = [0, 1] := rfl
      rw [hr]
      simp [beq_dec]
    rw [this]
    exact q₃

/-- a pair of a text and a number, not among others such -/
@[simp] noncomputable def W.notInT (a b : WE) : WT := fun m st Q => a m st fun p st₁ => b m st₁ fun u st₂ => ∃ (x : Str) (i : Int) (d : Addr) (ns : List Int), p = .tup [.str x, .int i] ∧ u = .ref d ∧ st₂.ls d = some (ns.map fun j => .tup [.str x, .int j]) ∧ Q (!(decide (i ∈ ns))) st₂
theorem pair_eq {h : Heap} {x : Str} {i j : Int} {v : Value} (a : VR h (.tup [.str x, .int i]) v) (b : VR h (.tup [.str x, .int j]) v) : i = j := by
  obtain ⟨y, vs, k, rfl, e, _, r⟩ := a
  obtain ⟨y', vs', k', e1, e', _, r'⟩ := b
  cases e1
  rw [e] at e'
  have h1 := congrArg (fun o => o.map Obj.data) e'
  simp only [Option.map_some, tupO, Option.some.injEq, Data.seq.injEq] at h1
  have h2 : vs = vs' := by simpa using h1.1
  subst h2
  obtain ⟨v1, v2, rfl, _, ⟨t, rfl⟩⟩ := vrs2 r
  obtain ⟨w1, w2, hh, _, ⟨u, hu⟩⟩ := vrs2 r'
  cases hh
  cases hu
  rfl
theorem pair_eqAt {x : Str} {i j : Int} {v y : Value} (rm : A.in1.units < cLine) (hv : VR s.heap (.tup [.str x, .int i]) v) (hy : VR s.heap (.tup [.str x, .int j]) y) : SeqAt.EqAt A.in1 s y v (decide (i = j)) := by
  obtain ⟨a, vs, rfl, ha, _, hvs⟩ := hv.tup_is
  obtain ⟨b, ws, rfl, hb, _, hws⟩ := hy.tup_is
  by_cases hab : b = a
  · subst hab
    have := pair_eq hv hy
    subst this
    simp only [decide_true]
    exact SeqAt.EqAt.same _
  · obtain ⟨v1, v2, rfl, ⟨t1, rfl⟩, ⟨t2, rfl⟩⟩ := vrs2 hvs
    obtain ⟨w1, w2, rfl, ⟨t3, rfl⟩, ⟨t4, rfl⟩⟩ := vrs2 hws
    have key := SeqAt.RcAt.tuples (A := A.in1) (s := s) (e := fun z => if z = 0 then (x == x) else (j == i)) (hb : s.heap.IsTuple b _) (ha : s.heap.IsTuple a _) rm (fun z h1 h2 => by
      match z, h1 with
      | 0, _ => exact SeqAt.EqAt.str_str _ _ _ _
      | 1, _ => exact SeqAt.EqAt.int_int _ _ _ _)
    have e : ((List.range (min (#[Value.str x t3, Value.int j t4]).size (#[Value.str x t1, Value.int i t2]).size)).all (fun z => if z = 0 then (x == x) else (j == i)) && (#[Value.str x t3, Value.int j t4]).size == (#[Value.str x t1, Value.int i t2]).size) = decide (i = j) := by
      have hr : List.range (min (#[Value.str x t3, Value.int j t4]).size (#[Value.str x t1, Value.int i t2]).size) = [0, 1] := rfl
      rw [hr]
      simp [beq_dec, eq_comm]
    rw [e] at key
    exact .of_refs hab key
theorem ST.notInT {l r : Expr} {pos : Pos} {wl wr : WE} (hl : SE c n names scope l wl) (hr : SE c n names scope r wr) (hm : behindInMarks .NotIn r = false) : ST c n names scope (.Compare l [.NotIn] [r] pos) (W.notInT wl wr) := fun ⦃P L q f cd A s m st Q⦄ rm R hw => by
  classical
  refine wpAny_isTrue_Compare1 (wpM (hl rm R hw) fun v s₁ ⟨p, st₁, R₁, V₁, X₁, q₁⟩ => ?_) hm
  refine wpM (hr rm R₁ q₁) fun y s₂ ⟨u, st₂, R₂, V₂, X₂, q₂⟩ => ?_
  obtain ⟨x, i, d, ns, rfl, rfl, e1, q₃⟩ := q₂
  cases V₂
  have V₁' := VR.mono X₂.tk _ _ V₁
  obtain ⟨vs, k, e2, hl2, hv⟩ := R₂.list e1
  have hlen := hv.length
  have each : ∀ z ∈ vs, ∃ j ∈ ns, VR s₂.heap (.tup [.str x, .int j]) z := fun z hz => by
    obtain ⟨ix, hix⟩ := List.getElem?_of_mem hz
    obtain ⟨p, p1, p2⟩ := hv.nth hix
    rw [List.getElem?_map] at p1
    obtain ⟨j, j1, rfl⟩ := Option.map_eq_some_iff.mp p1
    exact ⟨j, List.mem_of_getElem? j1, p2⟩
  refine SeqAt.notIn_listAt (fun z => decide (VR s₂.heap (.tup [.str x, .int i]) z)) (isList_of e2) (fun z hz => ?_) (wpAny_truthy_bool ⟨st₂, R₂, X₁.trans X₂, ?_⟩)
  · obtain ⟨j, hj, hzr⟩ := each z (by simpa using hz)
    have h2 := pair_eqAt rm.in1 V₁' hzr
    have : (decide (VR s₂.heap (.tup [.str x, .int i]) z)) = decide (i = j) := by
      by_cases h : i = j
      · subst h; simp [hzr]
      · have : ¬ VR s₂.heap (.tup [.str x, .int i]) z := fun h3 => h (pair_eq h3 hzr)
        simp [h, this]
    rw [this]; exact h2
  · have : (vs.toArray.any fun z => decide (VR s₂.heap (.tup [.str x, .int i]) z)) = decide (i ∈ ns) := by
      rw [List.any_toArray]
      by_cases h : i ∈ ns
      · rw [decide_eq_true h, List.any_eq_true]
        obtain ⟨ix, hix⟩ := List.getElem?_of_mem h
        obtain ⟨z, z1, z2⟩ := hv.get (i := ix) (p := .tup [.str x, .int i]) (by rw [List.getElem?_map, hix]; rfl)
        exact ⟨z, List.mem_of_getElem? z1, by simpa using z2⟩
      · rw [decide_eq_false h, List.any_eq_false]
        intro z hz hc
        obtain ⟨j, hj, hzr⟩ := each z hz
        exact h (by have := pair_eq (of_decide_eq_true hc) hzr; exact this ▸ hj)
    rw [this]; exact q₃
/-- a number, not a key -/
@[simp] noncomputable def W.notInDi (a b : WE) : WT := fun m st Q => a m st fun p st₁ => b m st₁ fun u st₂ => ∃ (k : Int) (d : Addr) (fn : Nat × (Int → Option PV)), p = .int k ∧ u = .ref d ∧ st₂.di d = some fn ∧ Q (!(fn.2 k).isSome) st₂
theorem ST.notInDi {l r : Expr} {pos : Pos} {wl wr : WE} (hl : SE c n names scope l wl) (hr : SE c n names scope r wr) (hm : behindInMarks .NotIn r = false) : ST c n names scope (.Compare l [.NotIn] [r] pos) (W.notInDi wl wr) := fun ⦃P L q f cd A s m st Q⦄ rm R hw => by
  refine wpAny_isTrue_Compare1 (wpM (hl rm R hw) fun v s₁ ⟨p, st₁, R₁, V₁, X₁, q₁⟩ => ?_) hm
  refine wpM (hr rm R₁ q₁) fun y s₂ ⟨u, st₂, R₂, V₂, X₂, q₂⟩ => ?_
  obtain ⟨k, d, fn, rfl, rfl, e1, q₃⟩ := q₂
  obtain ⟨t, rfl⟩ := V₁
  cases V₂
  obtain ⟨δ, ⟨g, hg, _, hr⟩, lo⟩ := R₂.obj (mo := .di fn) e1
  refine wpAny_notIn_of (intKind_is c.prog c.w k t) (lo rfl) hg.mapOf (wpAny_truthy_bool ⟨st₂, R₂, (X₁.trans X₂).trans (.toks _ _), ?_⟩)
  have := hr k
  have e : (valueAt g k).isSome = (fn.2 k).isSome := by
    cases h1 : fn.2 k <;> cases h2 : valueAt g k <;> rw [h1, h2] at this
    · rfl
    · exact this.elim
    · exact this.elim
    · rfl
  rw [e]; exact q₃
end
end Mine
namespace Mine

section
variable {c : Cx} {n : Nat} {names : List Str} {scope : Scope}
variable {P : Prot} {L : Addr} {q : Str} {f : Addr} {cd : Value} {A : Around} {s : Shared} {m : Fm} {st : St}

/-! ### targets -/
@[simp] noncomputable def W.tName (i : Nat) : WA := fun p m st Q => Q (m.set i (some p)) st
@[simp] noncomputable def W.tPair (i j : Nat) : WA := fun p m st Q => ∃ a b, p = .tup [a, b] ∧ Q ((m.set i (some a)).set j (some b)) st
theorem SA.name {x : Str} {pos : Pos} {i : Nat} (hi : names[i]? = some x) (hnd : names.Nodup) (hk : scope.kind = .function) (hx : scope.names.lookup x = some .local) : SA c n names scope (.Name x pos) (W.tName i) := fun _ _ _ _ _ _ _ _ _ _ _ _ rm R V hw =>
  wpAny_assign_Name (storeName_ hi hnd hk hx R V fun h' tk R' t => ⟨_, _, R', ⟨t, rfl, rfl⟩, hw⟩)
theorem SA.pair {x y : Str} {px py pos : Pos} {k i j : Nat} (hi : names[i]? = some x) (hj : names[j]? = some y) (hnd : names.Nodup) (hk : scope.kind = .function) (hx : scope.names.lookup x = some .local) (hy : scope.names.lookup y = some .local) :
    SA c n names scope (.Tuple [.Name x px, .Name y py] k pos) (W.tPair i j) := fun ⦃P L q f cd A s m st Q p v⦄ rm R V hw => by
  obtain ⟨a, b, rfl, hq⟩ := hw
  obtain ⟨t, vs, rfl, ht, _, hv⟩ := V.tup_is
  obtain ⟨v1, v2, rfl, hv1, hv2⟩ := vrs2 hv
  refine wpAny_assign_Tuple rm.h (ht : s.heap.IsTuple t _) rfl rfl fun h' hs => ?_
  have kp : ∀ b o, s.heap.get? b = some o → h'.get? b = some o := fun b o e => hs b o (Nat.ne_of_lt (Heap.lt_size e)) e
  refine wpAny_assignInOrder_more (wpAny_assign_Name (storeName_ (s := { s with heap := h' }) hi hnd hk hx (R.keep kp) (VR.mono (.of_keep kp) _ _ hv1) fun h2 tk R2 t2 => ?_))
  refine wpAny_assignInOrder_more (wpAny_assign_Name (storeName_ (s := { s with heap := h2, toks := tk }) hj hnd hk hy R2 (VR.mono ((TK.of_keep kp).trans t2) _ _ hv2) fun h3 tk3 R3 t3 => ?_))
  exact wpAny_assignInOrder_none ⟨_, _, R3, ⟨((TK.of_keep kp).trans t2).trans t3, rfl, rfl⟩, hq⟩
@[simp] noncomputable def W.asgT (t : WA) (e : WE) : WS := fun m st Q => e m st fun p st₁ => t p m st₁ fun m₂ st₂ => Q .next m₂ st₂
theorem SX.asgT {elts : List Expr} {k : Nat} {tpos pos : Pos} {e : Expr} {w : WE} {t : WA} (hs : ∀ env, swapsWithSole [.Tuple elts k tpos] e pos.line env = pure false) (hw : ∀ env, swappedStores [.Tuple elts k tpos] e env = pure none)
    (ht : SA c n names scope (.Tuple elts k tpos) t) (h : SE c n names scope e w) : SX c n names scope (.Assign [.Tuple elts k tpos] e pos) (W.asgT t w) := fun _ _ _ _ _ _ _ _ _ _ rm R hw' =>
  Assign_Tuple (wpM (h rm R hw') fun v s₁ ⟨p, st₁, R₁, V₁, X₁, q₁⟩ => wpM (ht rm R₁ V₁ q₁) fun _ s₂ ⟨m₂, st₂, R₂, X₂, q₂⟩ => ⟨.next, m₂, st₂, R₂, rfl, X₁.trans X₂, q₂⟩) (hs _) (hw _)

/-! ### loops -/
theorem Rep.other {t : Addr} {h h' : Heap} {o : Obj} {T : String} (R : Rep c P L names h m st) (ht : h.get? t = some o) (hc : o.cls = .type T) (h1 : T ≠ "list") (h2 : T ≠ "dict") (h3 : T ≠ "tuple") (h4 : T ≠ "code") (hP : P t = none) (hL : L ≠ t) (hs : Heap.ExtBut t h h') :
    Rep c P L names h' m st ∧ TK h h' := by
  obtain ⟨δ, S⟩ := R.s
  have k : TK h h' := .of_extBut hs ht (nfz hc (fun z => by cases z; exact h3 rfl) (fun z => by cases z; exact h4 rfl))
  have ne : ∀ a mo, st.has a mo → a ≠ t := fun a mo q => by
    rintro rfl
    have z := (S.obj a mo q).1
    have key : ∀ {o' : Obj} {v : Value}, h.get? a = some o' → o'.cls = v → v = .type T := fun e1 e2 => by rw [ht] at e1; cases e1; rw [← e2, hc]
    cases mo with
    | list ps => obtain ⟨vs, n, e1, _⟩ := z; have := key e1 rfl; cases this; exact h1 rfl
    | inst C fs => obtain ⟨es, n, e1, _⟩ := z; have := key e1 rfl; cases this
    | di f => obtain ⟨g, ⟨o1, es, ep, e1, q1, _⟩, _⟩ := z; have := key e1 q1.1; cases this; exact h2 rfl
    | dk f => obtain ⟨g, ⟨o1, es, ep, e1, q1, _⟩, _⟩ := z; have := key e1 q1.1; cases this; exact h2 rfl
    | dt f => obtain ⟨g, ⟨o1, es, ep, e1, q1, _⟩, _⟩ := z; have := key e1 q1.1; cases this; exact h2 rfl
    | tab => obtain ⟨ps, e1, _⟩ := z; have := key e1 rfl; cases this
  have ned : ∀ a C fs, st.ins a = some (C, fs) → δ a ≠ t := fun a C fs q z => by
    obtain ⟨⟨es, n, _, e2, _⟩, _⟩ := S.obj a (.inst C fs) q
    rw [z, ht] at e2; cases e2; cases hc; exact h2 rfl
  refine ⟨⟨⟨δ, S.base, fun b o e => hs b o (fun z => by rw [z, hP] at e; cases e) (S.sub b o e), S.PL, fun a mo q => ⟨(S.obj a mo q).1.step k (fun o e => hs a o (ne a mo q) e) (fun C fs z o e => hs _ o (ned a C fs (by subst z; exact q)) e), (S.obj a mo q).2⟩, S.dct, S.inj, S.uniq⟩, R.f.but hs hL k⟩, k⟩

inductive ItK where
  | tup (a : Addr) (vs : List Value) | list (a : Addr) | range (n : Nat)
noncomputable def ItAt (h : Heap) (it : Addr) (ps : List PV) (i : Nat) : ItK → Prop
  | .tup a vs => h.IsTupleIter it a i ∧ h.IsTuple a vs.toArray ∧ VRs h ps vs
  | .list a => h.IsListIter it a i
  | .range n => IsRangeIter h it i ((n : Int) - i) 1 ∧ ps = (List.range n).map fun (j : Nat) => PV.int j
noncomputable def ItSt (st : St) (ps : List PV) : ItK → Prop
  | .list a => st.ls a = some ps
  | _ => True
noncomputable def itNames : List String := ["tuple_iterator", "list_iterator", "range_iterator"]
theorem ItAt.obj {h : Heap} {it : Addr} {ps : List PV} {i : Nat} {k : ItK} (x : ItAt h it ps i k) : ∃ o T, h.get? it = some o ∧ o.cls = .type T ∧ T ∈ itNames := by
  cases k with
  | tup a vs => obtain ⟨⟨o, e, c, _⟩, _⟩ := x; exact ⟨o, _, e, c, by decide⟩
  | list a => obtain ⟨o, e, c, _⟩ := x; exact ⟨o, _, e, c, by decide⟩
  | range n => obtain ⟨e, _⟩ := x; exact ⟨_, _, e, rfl, by decide⟩
theorem itNames_ne {T : String} (h : T ∈ itNames) : T ≠ "list" ∧ T ≠ "dict" ∧ T ≠ "tuple" ∧ T ≠ "code" := by
  simp only [itNames, List.mem_cons, List.not_mem_nil, or_false] at h
  rcases h with rfl | rfl | rfl <;> decide
theorem IsTuple.tk {h h' : Heap} {a : Addr} {vs : List Value} (k : TK h h') (x : h.IsTuple a vs.toArray) : h'.IsTuple a vs.toArray := by
  obtain ⟨o, e, hc, n, hd⟩ := x
  exact ⟨o, k a o e (.inl ⟨hc, _, _, hd⟩), hc, n, hd⟩
/-- the iterator's own object kept, and what stays -/
theorem ItAt.keep {h h' : Heap} {it : Addr} {ps : List PV} {i : Nat} {k : ItK} (x : ItAt h it ps i k) (t : TK h h') (e : ∀ o, h.get? it = some o → h'.get? it = some o) : ItAt h' it ps i k := by
  cases k with
  | tup a vs => obtain ⟨⟨o, e1, r⟩, y, z⟩ := x; exact ⟨⟨o, e _ e1, r⟩, IsTuple.tk t y, VRs.mono t _ _ z⟩
  | list a => obtain ⟨o, e1, r⟩ := x; exact ⟨o, e _ e1, r⟩
  | range n => obtain ⟨e1, r⟩ := x; exact ⟨e _ e1, r⟩
theorem pyNext_ {it : Addr} {ps : List PV} {i : Nat} {k : ItK} {Q : Option Value → Shared → Prop} {E : Value → Shared → Prop} (hh : A.handled = none) (hI : ItAt s.heap it ps i k) (hS : ItSt st ps k) (R : Rep c P L names s.heap m st) (hP : P it = none) (hL : L ≠ it)
    (hi : ∀ x, ps[i]? = some x → ∀ v h' tk, Rep c P L names h' m st → TK s.heap h' → VR h' x v → ItAt h' it ps (i + 1) k → Q (some v) { s with heap := h', toks := tk })
    (he : ps[i]? = none → ∀ h' tk, Rep c P L names h' m st → TK s.heap h' → Q none { s with heap := h', toks := tk }) : wpAny (model c.prog c.w) A (pyNext (.ref it)) Q E s := by
  obtain ⟨o, T, e1, e2, e3⟩ := hI.obj
  obtain ⟨n1, n2, n3, n4⟩ := itNames_ne e3
  have step : ∀ h', Heap.ExtBut it s.heap h' → Rep c P L names h' m st ∧ TK s.heap h' := fun h' hs => R.other e1 e2 n1 n2 n3 n4 hP hL hs
  cases k with
  | tup a vs =>
    obtain ⟨h1, h2, h3⟩ := hI
    cases hx : ps[i]? with
    | some x =>
      obtain ⟨v, v1, v2⟩ := h3.get hx
      refine wpAny_pyNext_tuple_item h1 h2 (by simpa using v1) fun h' hit hs => ?_
      obtain ⟨R', t⟩ := step h' hs.extBut
      exact hi x hx v h' _ R' t (VR.mono t _ _ v2) ⟨hit, IsTuple.tk t h2, VRs.mono t _ _ h3⟩
    | none =>
      have : vs.toArray[i]? = none := by rw [List.getElem?_eq_none_iff] at hx; simpa [h3.length] using hx
      refine wpAny_pyNext_tuple_end hh h1 h2 this fun h' hs => ?_
      obtain ⟨R', t⟩ := step h' hs
      exact he hx h' _ R' t
  | list a =>
    obtain ⟨vs, d, e4, hl, h3⟩ := R.list hS
    have h2 := isList_of e4
    have h1 : s.heap.IsListIter it a i := hI
    cases hx : ps[i]? with
    | some x =>
      obtain ⟨v, v1, v2⟩ := h3.get hx
      refine wpAny_pyNext_list_item h1 h2 (by simpa using v1) fun h' hit hs => ?_
      obtain ⟨R', t⟩ := step h' hs.extBut
      exact hi x hx v h' _ R' t (VR.mono t _ _ v2) hit
    | none =>
      have : vs.toArray[i]? = none := by rw [List.getElem?_eq_none_iff] at hx; simpa [h3.length] using hx
      refine wpAny_pyNext_list_end hh h1 h2 this fun h' hs => ?_
      obtain ⟨R', t⟩ := step h' hs
      exact he hx h' _ R' t
  | range N =>
    obtain ⟨h1, rfl⟩ := hI
    by_cases hlt : i < N
    · refine wpAny_pyNext_range_item h1 (by (first | lia | omega)) fun h' hit hs => ?_
      obtain ⟨R', t⟩ := step h' hs.extBut
      refine hi (.int i) (by simp [hlt]) _ h' _ R' t (.int_ _ _ _) ⟨?_, rfl⟩
      have e5 : ((N : Int) - i - 1) = ((N : Int) - ((i + 1 : Nat) : Int)) := by push_cast; (first | lia | omega)
      have e6 : ((i : Int) + 1) = ((i + 1 : Nat) : Int) := by push_cast; rfl
      rw [← e5, ← e6]
      exact hit
    · refine wpAny_pyNext_range_end hh h1 (by (first | lia | omega)) fun h' hs => ?_
      obtain ⟨R', t⟩ := step h' hs
      exact he (by simp; (first | lia | omega)) h' _ R' t
theorem owned_ {target : Expr} {it : Addr} {v : Value} {ps : List PV} {i : Nat} {k : ItK} {Q : Unit → Shared → Prop} {E : Value → Shared → Prop} {M : Model} (hI : ItAt s.heap it ps i k) (h : Q () s) : wpAny M A (letOwnedTupleGo target (.ref it) v) Q E s := by
  obtain ⟨o, T, e1, e2, e3⟩ := hI.obj
  unfold letOwnedTupleGo
  split
  case h_3 => exact wpAny_pure h
  all_goals
    split
    · rename_i r a hr
      cases hr
      refine wpAny_bind (wpAny_load e1 ?_)
      rw [e2]
      cases o.data <;> first | exact wpAny_pure h | skip
      dsimp only
      refine wpAny_of_eq (if_neg fun q => ?_) h
      rw [Bool.and_eq_true] at q
      simp only [itNames, List.mem_cons, List.not_mem_nil, or_false] at e3
      rcases e3 with rfl | rfl | rfl <;> exact absurd q.1 (by decide)
    · exact wpAny_pure h

noncomputable abbrev LoopPost (Q : Fl → Fm → St → Prop) (I : Fm → St → Prop) : Fl → Fm → St → Prop := fun fl m₂ st₂ => match fl with
  | .next | .cont => ∃ m' st', LeF m' m₂ ∧ Le st' st₂ ∧ I m' st'
  | .brk => Q .next m₂ st₂
  | .ret p => Q (.ret p) m₂ st₂
/-- what a loop over ps asks; Kp is what must hold at each turn -/
noncomputable def W.loop (Kp : St → Prop) (ps : List PV) (t : WA) (b : WS) (m : Fm) (st : St) (Q : Fl → Fm → St → Prop) (_ : Box (PProd.mk t (PProd.mk b Q))) : Prop := ∃ I : Nat → Fm → St → Prop, I 0 m st ∧ ∀ i m st, I i m st → Kp st ∧
  (∀ x, ps[i]? = some x → t x m st fun m₁ st₁ => b m₁ st₁ (LoopPost Q (I (i + 1)))) ∧ (ps[i]? = none → Q .next m st)
theorem forCore {s₀ : Shared} {it : Addr} {ps : List PV} {k : ItK} {target : Expr} {body : List Stmt} {wt : WA} {wb : WS} {Q : Fl → Fm → St → Prop} {E : Value → Shared → Prop} (rm : Room n A) (X₀ : Ext s₀ s) (hI : ItAt s.heap it ps 0 k) (R : Rep c P L names s.heap m st) (hP : P it = none) (hL : L ≠ it)
    (ht : SA c n names scope target wt) (hb : SS c n names scope body wb) (hw : W.loop (fun st => ItSt st ps k) ps wt wb m st Q ⟨⟩) :
    codeAny (model c.prog c.w) A (.forLoop target (.ref it) body [] (envOf q scope L f cd)) (fun r s' => match r with | .ok fl => PostS c P L names Q s₀ fl s' | .error e => cameBackBy (model c.prog c.w) A (envOf q scope L f cd) E e s') s := by
  obtain ⟨I, i0, turn⟩ := hw
  refine codeAny_forLoop_any (fun N s' => ∃ i m' st', N = ps.length - i ∧ Rep c P L names s'.heap m' st' ∧ Ext s₀ s' ∧ ItAt s'.heap it ps i k ∧ I i m' st') (fun N s₁ ⟨i, m₁, st₁, hN, R₁, X₁, It₁, i₁⟩ => ?_) ps.length ⟨0, m, st, by simp, R, X₀, hI, i0⟩
  obtain ⟨kp, tn, ed⟩ := turn i m₁ st₁ i₁
  refine pyNext_ rm.h It₁ kp R₁ hP hL (fun x hx v h' tk R₂ t₂ V₂ It₂ => ?_) (fun hx h' tk R₂ t₂ => ?_)
  · dsimp only
    refine owned_ (s := { s₁ with heap := h', toks := tk }) It₂ ?_
    have X₂ : Ext s₀ { s₁ with heap := h', toks := tk } := X₁.trans ⟨t₂, rfl, rfl⟩
    obtain ⟨P', hPP, hsub, R₃, hmax⟩ := R₂.max
    obtain ⟨o, T, e1, e2, e3⟩ := It₂.obj
    obtain ⟨n1, n2, _, _⟩ := itNames_ne e3
    have hit := hmax it o T e1 e2 n1 n2 (fun z => hL z.symm)
    refine wpN (ht rm R₃ V₂ (tn x hx)) fun _ s₂ ⟨m₃, st₃, R₄, X₄, q₄⟩ => ?_
    refine wpN (hb rm R₄ q₄) fun fl s₃ ⟨g, m₄, st₄, R₅, F₅, X₅, q₅⟩ => ?_
    have X : Ext s₀ s₃ := (X₂.trans X₄).trans X₅
    have R₆ := R₅.lessP R₁.baseP hPP
    have It₃ : ItAt s₃.heap it ps (i + 1) k := It₂.keep (X₄.tk.trans X₅.tk) (fun o' e' => by have z := e1.symm.trans e'; cases z; exact R₅.subP it o hit)
    have hlt : i < ps.length := (List.getElem?_eq_some_iff.mp hx).1
    cases g with
    | next => cases F₅; obtain ⟨m', st', l1, l2, l3⟩ := q₅; exact ⟨ps.length - (i + 1), by (first | lia | omega), i + 1, m', st', rfl, R₆.le l1 l2, X, It₃, l3⟩
    | cont => cases F₅; obtain ⟨m', st', l1, l2, l3⟩ := q₅; exact ⟨ps.length - (i + 1), by (first | lia | omega), i + 1, m', st', rfl, R₆.le l1 l2, X, It₃, l3⟩
    | brk => cases F₅; exact ⟨.next, m₄, st₄, R₆, rfl, X, q₅⟩
    | ret p => obtain ⟨u, rfl, hu⟩ := F₅; exact ⟨.ret p, m₄, st₄, R₆, ⟨u, rfl, hu⟩, X, q₅⟩
  · exact wpAny_execs_nil ⟨.next, m₁, st₁, R₂, rfl, X₁.trans ⟨t₂, rfl, rfl⟩, ed hx⟩

theorem Rep.fresh (R : Rep c P L names s.heap m st) {a : Addr} (ha : s.heap.objs.size ≤ a) : P a = none ∧ L ≠ a := by
  obtain ⟨δ, S⟩ := R.s
  exact ⟨S.Pfree ha, fun z => absurd R.f.lt (by rw [z]; exact Nat.not_lt.mpr ha)⟩
@[simp] noncomputable def W.for (e : WE) (t : WA) (b : WS) : WS := fun m st Q => e m st fun p st₁ => (∃ ps, p = .tup ps ∧ W.loop (fun _ => True) ps t b m st₁ Q ⟨⟩) ∨ (∃ a ps, p = .ref a ∧ st₁.ls a = some ps ∧ W.loop (fun st => st.ls a = some ps) ps t b m st₁ Q ⟨⟩)
theorem SX.for {target iter : Expr} {body : List Stmt} {pos : Pos} {we : WE} {wt : WA} {wb : WS} (hs : ∀ env x, foldedSetIterable iter env x = pure x) (he : SE c n names scope iter we) (ht : SA c n names scope target wt) (hb : SS c n names scope body wb) :
    SX c n names scope (.For target iter body [] pos) (W.for we wt wb) := fun ⦃P L q f cd A s m st Q⦄ rm R hw => by
  refine wpAny_For (wpM (he rm R hw) fun v s₁ ⟨p, st₁, R₁, V₁, X₁, q₁⟩ => ?_) (hs _)
  obtain ⟨hP, hL⟩ := R₁.fresh (Nat.le_refl _)
  rcases q₁ with ⟨ps, rfl, q⟩ | ⟨a, ps, rfl, e, q⟩
  · obtain ⟨a, vs, rfl, ht', hl, hv⟩ := V₁.tup_is
    have ht2 : s₁.heap.IsTuple a vs.toArray := ht'
    exact wpAny_pyIter_tuple ht2 (forCore (s := { s₁ with heap := _ }) (k := .tup a vs) rm (X₁.trans ⟨.of_keep (keepPush _), rfl, rfl⟩) ⟨⟨_, Heap.get?_push_size _ rfl, rfl, rfl⟩, IsTuple.tk (.of_keep (keepPush _)) ht2, VRs.mono (.of_keep (keepPush _)) _ _ hv⟩ (R₁.keep (keepPush _)) hP hL ht hb q)
  · cases V₁
    obtain ⟨vs, d, e2, _⟩ := R₁.list e
    exact wpAny_pyIter_list (isList_of e2) (forCore (s := { s₁ with heap := _ }) (k := .list a) rm (X₁.trans ⟨.of_keep (keepPush _), rfl, rfl⟩) ⟨_, Heap.get?_push_size _ rfl, rfl, rfl⟩ (R₁.keep (keepPush _)) hP hL ht hb q)
noncomputable def natList (n : Nat) : List PV := (List.range n).map fun (j : Nat) => PV.int j
@[simp] noncomputable def W.forR (e : WE) (t : WA) (b : WS) : WS := fun m st Q => e m st fun p st₁ => ∃ n : Nat, p = .int n ∧ n ≤ 1000000 ∧ W.loop (fun _ => True) (natList n) t b m st₁ Q ⟨⟩
theorem SX.forR {target e : Expr} {np cp : Pos} {body : List Stmt} {pos : Pos} {we : WE} {wt : WA} {wb : WS} (hr : nsIn c.K mainGlobals "range" = some none) (hl : scope.names.lookup ("range" : Str) = some .globalImplicit) (hst : NoStar [e]) (hse : ∀ env, starEach [e] env = (false, eval e env) :: starEach [] env) (hk : scope.kind = .function)
    (hs : ∀ env x, foldedSetIterable (.Call (.Name "range" np) [e] [] cp) env x = pure x) (he : SE c n names scope e we) (ht : SA c n names scope target wt) (hb : SS c n names scope body wb) :
    SX c n names scope (.For target (.Call (.Name "range" np) [e] [] cp) body [] pos) (W.forR we wt wb) := fun ⦃P L q f cd A s m st Q⦄ rm R hw => by
  refine wpAny_For ?_ (hs _)
  refine wpAny_Call_ofName (Calls.Name_function_global hk hl (Calls.loadGlobal_builtin (c.g.keeps R.keeps₀) (mg_none_of c.X c.g hr) (c.b.keeps R.keeps₀) (v := .type "range") (c.bi "range" (by decide)) ?_) (by decide))
  refine PyProof.Rows.callWith_type (backTo_any hst) (evalArgs_es hst ?_)
  refine wpAny_items_cons (wpM (he rm R hw) fun v s₁ ⟨p, st₁, R₁, V₁, X₁, q₁⟩ => ?_) (hse _)
  refine wpAny_items_nil ?_
  obtain ⟨N, rfl, hN, q⟩ := q₁
  obtain ⟨t, rfl⟩ := V₁
  refine call_range_1 ?_
  have hsz : Builtin.Range.rangeSize 0 (N : Int) 1 = (N : Int) - (0 : Nat) := by rw [rangeSize_one]; split <;> (first | lia | omega)
  refine wpAny_pyIter_range (s := { s₁ with heap := _, toks := _ }) (IsRange.new _ _ _ _ _ _ _) (small_one (by decide) (by decide) (by (first | lia | omega)) (by (first | lia | omega))) ?_
  rw [hsz]
  have R2 := R₁.keep (pushes { cls := .type "range", data := .fields #[.int 0 s₁.toks, .int N t, .int 1 (s₁.toks + 1)] } { cls := .type "range_iterator", data := .fields #[rawInt 0, rawInt ((N : Int) - (0 : Nat)), rawInt 1] })
  obtain ⟨hP, hL⟩ := R₁.fresh (a := (s₁.heap.push { cls := .type "range", data := .fields #[.int 0 s₁.toks, .int N t, .int 1 (s₁.toks + 1)] }).objs.size) (by rw [Heap.size_push]; exact Nat.le_succ _)
  exact forCore (s := { s₁ with heap := _, toks := _ }) (k := .range N) rm (X₁.trans ⟨.of_keep (pushes _ _), rfl, rfl⟩) ⟨Heap.get?_push_size _ rfl, rfl⟩ R2 hP hL ht hb q
end
end Mine
namespace Mine

section
variable {c : Cx} {n : Nat} {names : List Str} {scope : Scope}
variable {P : Prot} {L : Addr} {q : Str} {f : Addr} {cd : Value} {A : Around} {s : Shared} {m : Fm} {st : St}

/-! ### classes -/
noncomputable def clsOk (K : Frag) (C fI : Addr) : Bool := makesIn K C && findIn K (.ref C) "__init__" == some (some (.ref fI)) && typeIn K (.ref fI) == some (.type "function")
noncomputable def Sp.cls (C : Addr) (S : Spec) : Spec := fun ps st Q => ∀ a, st.free a → S (.ref a :: ps) (st.setI a C []) fun r st' => r = .none ∧ Q (.ref a) st'
theorem Rep.newI {a dx C : Addr} {h h' : Heap} {fs : List (Nat × PV)} {es : List DictEntry} {k : Nat} (R : Rep c P L names h m st) (ha : h.objs.size ≤ a) (hd : h.objs.size ≤ dx) (hne : a ≠ dx) (kp : ∀ b o, h.get? b = some o → h'.get? b = some o)
    (h1 : h'.get? a = some (instObj C dx)) (h2 : h'.get? dx = some (dictOf es k)) (h3 : FRel h' es fs) : st.free a ∧ Rep c P L names h' m (st.setI a C fs) := by
  obtain ⟨δ, S⟩ := R.s
  exact ⟨S.size ha, ⟨_, S.newI R.f.lt ha hd hne kp h1 h2 h3 (fun b x q => (has_setI q).imp (fun z => z) fun z => z.1)⟩, R.f.keep kp⟩
theorem CodeOk.cls {C fI : Addr} {S : Spec} (ok : clsOk c.K C fI = true) (h : CodeOk c n (.ref fI) S) : CodeOk c (n + 1) (.ref C) (Sp.cls C S) := fun ⦃P L names A s m st Q ps vs⦄ rm R V hs => by
  unfold clsOk at ok
  simp only [Bool.and_eq_true, beq_iff_eq] at ok
  obtain ⟨⟨ok1, ok2⟩, ok3⟩ := ok
  obtain ⟨hp, g, d, tk, os⟩ := s
  have kp : ∀ b o, hp.get? b = some o → ((hp.push emptyDict).push (instObj C hp.objs.size)).get? b = some o := pushes _ _
  have e1 : ((hp.push emptyDict).push (instObj C hp.objs.size)).get? (hp.objs.size + 1) = some (instObj C hp.objs.size) := by
    have := Heap.get?_push_size (hp.push emptyDict) (o := instObj C hp.objs.size) rfl
    rw [Heap.size_push] at this
    exact this
  have e2 : ((hp.push emptyDict).push (instObj C hp.objs.size)).get? hp.objs.size = some (dictOf [] 0) := Heap.get?_push_of_some _ (Heap.get?_push_size _ rfl)
  obtain ⟨hf, R'⟩ := R.newI (a := hp.objs.size + 1) (Nat.le_succ _) (Nat.le_refl _) (Nat.succ_ne_self _) kp e1 e2 (rfl : FRel _ [] [])
  refine (make_core (makes_of R.K ok1) (looks_findIn R.K ok2) (fun self => bind_fn R.K self ok3) (.inl rfl) ?_)
  have rm' : Room n (A.under (.builtin "type.__call__" ⟨.ref C :: vs, []⟩)) := by
    refine ⟨rm.h, ?_, ?_⟩
    · have := rm.d
      show A.depth + 1 + 4 * n ≤ 990
      (first | lia | omega)
    · have := rm.u
      have hc : Code.cUnits (.builtin "type.__call__" ⟨.ref C :: vs, []⟩) ≤ 10 := by first | exact (by decide +kernel : (1 : Nat) ≤ 10) | exact (by decide +kernel : (4 : Nat) ≤ 10)
      show A.units + Code.cUnits _ + 20 * n ≤ 9800
      (first | lia | omega)
  refine codeAny_mono (h (s := ⟨(hp.push emptyDict).push (instObj C hp.objs.size), g, d, tk, os⟩) rm' R' (ps := .ref (hp.objs.size + 1) :: ps) (vs := .ref (hp.objs.size + 1) :: vs) ⟨_, _, rfl, rfl, VRs.mono (.of_keep kp) _ _ V⟩ (hs _ hf)) fun r s' z => ?_
  rcases r with e | (v | _ | _ | _)
  · exact z.elim
  · exact z.elim
  · exact z.elim
  · exact z.elim
  · obtain ⟨p, st', R2, V2, X2, rfl, q2⟩ := z
    exact ⟨V2, .ref _, st', R2, rfl, ⟨(TK.of_keep kp).trans X2.tk, X2.gens, X2.os⟩, q2⟩
end
end Mine
namespace Mine

section
variable {c : Cx} {n : Nat} {names : List Str} {scope : Scope}
variable {P : Prot} {L : Addr} {q : Str} {f : Addr} {cd : Value} {A : Around} {s : Shared} {m : Fm} {st : St}

/-! ### a dict without entries -/
theorem Rep.di0 {a : Addr} {fn : Int → Option PV} (R : Rep c P L names s.heap m st) (h : st.di a = some (0, fn)) : s.heap.DictOf (intKind c.prog c.w) a [] ∧ (a == sysModules) = false := by
  obtain ⟨δ, ⟨g, hg, hl, _⟩, lo⟩ := R.obj (mo := .di (0, fn)) h
  cases g with
  | nil => exact ⟨hg, lo rfl⟩
  | cons x r => exact absurd hl (by simp)
@[simp] noncomputable def W.forD0 (e : WE) : WS := fun m st Q => e m st fun p st₁ => ∃ a fn, p = .ref a ∧ st₁.di a = some (0, fn) ∧ Q .next m st₁
theorem SX.forD0 {target iter : Expr} {body : List Stmt} {pos : Pos} {we : WE} (hs : ∀ env x, foldedSetIterable iter env x = pure x) (ht : ∀ it v, letOwnedTupleGo target it v = pure ()) (he : SE c n names scope iter we) :
    SX c n names scope (.For target iter body [] pos) (W.forD0 we) := fun ⦃P L q f cd A s m st Q⦄ rm R hw => by
  refine wpAny_For (wpM (he rm R hw) fun v s₁ ⟨p, st₁, R₁, V₁, X₁, q₁⟩ => ?_) (hs _)
  obtain ⟨a, fn, rfl, e, q₂⟩ := q₁
  cases V₁
  obtain ⟨hd, lo⟩ := R₁.di0 e
  obtain ⟨ep, hat⟩ := hd.dictAt
  obtain ⟨hP, hL⟩ := R₁.fresh (Nat.le_refl _)
  have hlt : a < s₁.heap.objs.size := by obtain ⟨o, es, ho, _⟩ := hat; exact Heap.lt_size ho
  refine wpAny_pyIter_dict lo hat (codeAny_forLoop (fun _ s' => s' = _) (fun _ s' hs' => ?_) 0 rfl (ht _))
  subst hs'
  have R2 := R₁.keep (keepPush { cls := .type "dict_keyiterator", data := .fields #[.ref a, .int 0 0, .int (([] : List (Int × Value)).length : Nat) 0, .int ep 0] })
  have hat2 : (s₁.heap.push { cls := .type "dict_keyiterator", data := .fields #[.ref a, .int 0 0, .int (([] : List (Int × Value)).length : Nat) 0, .int ep 0] }).DictAt (intKind c.prog c.w) a [] ep := by
    obtain ⟨o, es, ho, r⟩ := hat; exact ⟨o, es, Heap.get?_push_of_some _ ho, r⟩
  refine wpAny_pyNext_dict_end (s := { s₁ with heap := _ }) (i := 0) rm.h ⟨_, Heap.get?_push_size _ rfl, rfl, rfl⟩ hat2 rfl fun h' hs' => ?_
  obtain ⟨R3, t⟩ := R2.other (T := "dict_keyiterator") (Heap.get?_push_size _ rfl) rfl (by decide) (by decide) (by decide) (by decide) hP hL hs'
  exact wpAny_execs_nil ⟨.next, m, st₁, R3, rfl, X₁.trans ⟨(TK.of_keep (keepPush _)).trans t, rfl, rfl⟩, q₂⟩

/-- all that stands, told as news upon nothing -/
theorem Rep.asNews {h : Heap} (R : Rep c P L names h m st) : ∃ M news, Fr ({} : Heap) L h M ∧ News ({} : Heap) L h news ∧ (∀ b o, h.get? b = some o → b ≠ L → (b, o) ∈ news) ∧
    ∀ h', h'.Ns L M → (∀ b o, b ≠ L → h.get? b = some o → h'.get? b = some o) → Rep c P L names h' m st ∧ TK h h' := by
  obtain ⟨δ, S⟩ := R.s
  obtain ⟨M, hM, hm⟩ := R.f
  have e0 : ∀ a, ({} : Heap).get? a = none := fun a => by
    cases e : ({} : Heap).get? a with
    | none => rfl
    | some o => exact absurd (Heap.lt_size e) (Nat.not_lt_zero _)
  obtain ⟨oL, eL, es, ep, hd⟩ := Ns.at hM
  refine ⟨M, (List.range h.objs.size).filterMap (fun b => if b = L then none else (h.get? b).map fun o => (b, o)), ⟨hM, fun b o e => (by rw [e0] at e; cases e), Nat.zero_le _⟩, fun p hp => ?_, fun b o e hb => ?_, fun h' hn hk => ?_⟩
  · obtain ⟨b, _, hb⟩ := List.mem_filterMap.mp hp
    by_cases hbL : b = L
    · rw [if_pos hbL] at hb; cases hb
    · rw [if_neg hbL] at hb
      obtain ⟨o, ho, rfl⟩ := Option.map_eq_some_iff.mp hb
      exact ⟨ho, hbL, e0 _⟩
  · exact List.mem_filterMap.mpr ⟨b, List.mem_range.mpr (Heap.lt_size e), by rw [if_neg hb, e]; rfl⟩
  · have k : TK h h' := fun a o e q => hk a o (fun z => by subst z; rw [eL] at e; cases e; exact nfz_data hd q) e
    refine ⟨⟨⟨δ, S.base, fun b o e => hk b o (fun z => by subst z; rw [S.PL] at e; cases e) (S.sub b o e), S.PL, fun a mo q => ?_, S.dct, S.inj, S.uniq⟩, ⟨M, hn, fun i p e => let ⟨x, v, a1, a2, a3⟩ := hm i p e; ⟨x, v, a1, a2, VR.mono k _ _ a3⟩⟩⟩, k⟩
    obtain ⟨z, y⟩ := S.obj a mo q
    exact ⟨z.step k (fun o e => hk a o y.2.1 e) (fun C fs e o e' => by subst e; exact hk _ o (S.dct a C fs q).2.1 e'), y⟩

theorem Rep.newL' {a : Addr} {h h' : Heap} {ps : List PV} {vs : List Value} {k : Nat} (R : Rep c P L names h m st) (hna : h.get? a = none) (kp : ∀ b o, h.get? b = some o → h'.get? b = some o) (hn : h'.get? a = some (lstO vs k)) (hl : vs.length ≤ lim)
    (hv : VRs h ps vs) : st.free a ∧ Rep c P L names h' m (st.setL a ps) := by
  have R2 := R.keep kp
  have t : TK h h' := .of_keep kp
  obtain ⟨δ, x⟩ := R.s
  obtain ⟨M, hM, hm⟩ := R.f
  obtain ⟨oL, eL, _⟩ := Ns.at hM
  have fr : st.free a := fun mo q => by
    obtain ⟨o, e, _⟩ := (x.obj a mo q).1.at'
    rw [hna] at e; cases e
  have pf : P a = none := by
    cases q : P a with
    | none => rfl
    | some o => have := x.sub a o q; rw [hna] at this; cases this
  refine ⟨fr, ?_⟩
  have hst : ∀ b z, (st.setL a ps).has b z → (b = a ∧ z = .list ps) ∨ (b ≠ a ∧ st.has b z) := fun b z q => (has_setL q).imp (fun z => z) fun ⟨u, w⟩ => ⟨fun e => fr z (e ▸ u), u⟩
  refine ⟨⟨δ, x.base, fun b o e => kp b o (x.sub b o e), x.PL, fun b z q => ?_, fun b C fs q => ?_, x.inj, fun b u w e1 e2 => ?_⟩, R2.f⟩
  · rcases hst b z q with ⟨rfl, rfl⟩ | ⟨hb, q⟩
    · exact ⟨⟨vs, k, hn, hl, VRs.mono t _ _ hv⟩, pf, fun z => (by subst z; rw [eL] at hna; cases hna), fun e => nomatch e⟩
    · obtain ⟨z1, z2⟩ := x.obj b z q
      exact ⟨z1.step t (fun o e => kp b o e) (fun C fs e o e' => kp _ o e'), z2⟩
  · obtain ⟨u1, u2, u3⟩ := x.dct b C fs q
    refine ⟨u1, u2, fun mo2 q2 => ?_⟩
    rcases hst _ mo2 q2 with ⟨e, rfl⟩ | ⟨_, q3⟩
    · obtain ⟨⟨es, n, _, e3, _⟩, _⟩ := x.obj b (.inst C fs) q
      rw [e, hna] at e3; cases e3
    · exact u3 _ q3
  · rcases hst b u e1 with ⟨z1, rfl⟩ | ⟨n1, q1⟩ <;> rcases hst b w e2 with ⟨z2, rfl⟩ | ⟨n2, q2⟩
    · rfl
    · exact absurd z1 n2
    · exact absurd z2 n1
    · exact x.uniq b u w q1 q2
/-- a new list, where all but the frame is kept and the frame's names -/
theorem Rep.newL2 {a : Addr} {h h' : Heap} {M : Str → Option Value} {news : List (Addr × Obj)} {ps : List PV} {vs : List Value} {k : Nat} (R : Rep c P L names h m st) (hall : ∀ b o, h.get? b = some o → b ≠ L → (b, o) ∈ news)
    (back : ∀ h', h'.Ns L M → (∀ b o, b ≠ L → h.get? b = some o → h'.get? b = some o) → Rep c P L names h' m st ∧ TK h h') (F : Fr ({} : Heap) L h' M) (N : News ({} : Heap) L h' ((a, lstO vs k) :: news)) (hlt : ∀ q ∈ news, q.1 < a)
    (hl : vs.length ≤ lim) (hv : VRs h ps vs) : st.free a ∧ Rep c P L names h' m (st.setL a ps) ∧ TK h h' := by
  have hk : ∀ b o, b ≠ L → h.get? b = some o → h'.get? b = some o := fun b o hb e => (N (b, o) (.tail _ (hall b o e hb))).1
  obtain ⟨R2, t⟩ := back h' F.ns hk
  obtain ⟨e1, e2, _⟩ := N _ (.head _)
  have hna : h.get? a = none := by
    cases e : h.get? a with
    | none => rfl
    | some o => exact absurd (hlt _ (hall a o e e2)) (Nat.lt_irrefl _)
  obtain ⟨δ, x⟩ := R.s
  have fr : st.free a := fun mo q => by
    obtain ⟨o, e, _⟩ := (x.obj a mo q).1.at'
    rw [hna] at e; cases e
  have pf : P a = none := by
    cases q : P a with
    | none => rfl
    | some o => have := x.sub a o q; rw [hna] at this; cases this
  refine ⟨fr, ?_, t⟩
  obtain ⟨δ', y⟩ := R2.s
  have hst : ∀ b z, (st.setL a ps).has b z → (b = a ∧ z = .list ps) ∨ (b ≠ a ∧ st.has b z) := fun b z q => (has_setL q).imp (fun z => z) fun ⟨u, w⟩ => ⟨fun e => fr z (e ▸ u), u⟩
  refine ⟨⟨δ, x.base, fun b o e => hk b o (fun z => by subst z; rw [x.PL] at e; cases e) (x.sub b o e), x.PL, fun b z q => ?_, fun b C fs q => ?_, x.inj, fun b u w e1 e2 => ?_⟩, R2.f⟩
  · rcases hst b z q with ⟨rfl, rfl⟩ | ⟨hb, q⟩
    · exact ⟨⟨vs, k, e1, hl, VRs.mono t _ _ hv⟩, pf, e2, fun e => nomatch e⟩
    · obtain ⟨z1, z2⟩ := x.obj b z q
      exact ⟨z1.step t (fun o e => hk b o z2.2.1 e) (fun C fs e o e' => by subst e; exact hk _ o (x.dct b C fs q).2.1 e'), z2⟩
  · obtain ⟨u1, u2, u3⟩ := x.dct b C fs q
    refine ⟨u1, u2, fun mo2 q2 => ?_⟩
    rcases hst _ mo2 q2 with ⟨e, rfl⟩ | ⟨_, q3⟩
    · obtain ⟨⟨es, n, _, e3, _⟩, _⟩ := x.obj b (.inst C fs) q
      rw [e, hna] at e3; cases e3
    · exact u3 _ q3
  · rcases hst b u e1 with ⟨z1, rfl⟩ | ⟨n1, q1⟩ <;> rcases hst b w e2 with ⟨z2, rfl⟩ | ⟨n2, q2⟩
    · rfl
    · exact absurd z1 n2
    · exact absurd z2 n1
    · exact x.uniq b u w q1 q2

/-! sorted of a dict without entries -/
@[simp] noncomputable def Sp.sortedD0 : Spec := fun ps st Q => ∃ a fn, ps = [.ref a] ∧ st.di a = some (0, fn) ∧ ∀ b, st.free b → Q (.ref b) (st.setL b [])
theorem ok_sortedD0 : CallOk c n (.builtin "sorted") Sp.sortedD0 := fun ⦃P L names A s m st Q ps vs⦄ rm R V hs => by
  obtain ⟨a, fn, rfl, e, hq⟩ := hs
  obtain ⟨v, rfl, v1⟩ := vrs1 V
  cases v1
  obtain ⟨hd, lo⟩ := R.di0 e
  obtain ⟨M, news, F, N, hall, back⟩ := R.asNews
  refine kdu_sortedD (knd := intKind c.prog c.w) (enc := PyData.int) (D := []) (fun k v hv => by obtain ⟨t, rfl⟩ := Value.isInt_shape hv; exact PyProof.V.Flat.int _ _) rm.h F N ⟨lo, [], hd, .nil⟩ (Nat.zero_le _) fun B h' tk F' N' hB => ?_
  obtain ⟨hBo, hBL, _⟩ := N' _ (.head _)
  refine wpAny_call_entry slot_list_sort ⟨_, hBo, rfl⟩ entry_list_sort (list_sort_tree (vs := []) (ns := []) (n := 0) hBo .nil (by decide) fun out ns' a1 a2 a3 => ⟨.none, rfl, ?_⟩) (PySem.F.args_list_sort_1 _)
  have hz : ns' = [] := a2.eq_nil
  subst hz
  cases out with
  | mk l =>
  cases a1
  obtain ⟨e3, he3⟩ := sortedHeap_at (h := h') (out := #[]) hBo
  have hk2 : ∀ b o, b ≠ B → h'.get? b = some o → (sortedHeap h' B [] #[]).get? b = some o := fun b o hb e => (sortedHeap_old hb (Heap.lt_size e)).trans e
  have N2 : News ({} : Heap) L (sortedHeap h' B [] #[]) ((B, lstO [] e3) :: news) := fun p hp => by
    rcases List.mem_cons.mp hp with rfl | hp
    · exact ⟨he3, hBL, (N' _ (.head _)).2.2⟩
    · obtain ⟨y1, y2, y3⟩ := N' p (.tail _ hp)
      exact ⟨hk2 _ _ (Nat.ne_of_lt (hB p hp)) y1, y2, y3⟩
  have F2 : Fr ({} : Heap) L (sortedHeap h' B [] #[]) M := ⟨F'.ns.at' fun o e => hk2 L o hBL.symm e, fun b o e => absurd (Heap.lt_size e) (Nat.not_lt_zero _), Nat.zero_le _⟩
  obtain ⟨fr, R3, t⟩ := R.newL2 (ps := []) hall back F2 N2 hB (Nat.zero_le _) rfl
  exact ⟨.ref B, _, R3, rfl, ⟨t, rfl, rfl⟩, hq _ fr⟩
end
end Mine
namespace Mine

section
variable {c : Cx} {n : Nat} {names : List Str} {scope : Scope}
variable {P : Prot} {L : Addr} {q : Str} {f : Addr} {cd : Value} {A : Around} {s : Shared} {m : Fm} {st : St}

/-! ### list comprehensions with one test -/
theorem vrs_filter {h : Heap} {g : PV → Bool} {p : Value → Bool} : ∀ {ps : List PV} {vs : List Value}, VRs h ps vs → (∀ x v, x ∈ ps → VR h x v → p v = g x) → VRs h (ps.filter g) (vs.filter p)
  | [], _, x, _ => by cases x; exact rfl
  | y :: ps, _, x, k => by
    obtain ⟨v, vs', rfl, a, r⟩ := x
    have e := k y v (.head _) a
    have ih := vrs_filter r fun x v hx => k x v (.tail _ hx)
    rw [List.filter_cons, List.filter_cons, e]
    cases g y with
    | true => exact ⟨v, _, rfl, a, ih⟩
    | false => exact ih
theorem paired_eq {l₁ l₂ : List Value} (h : Paired (fun v y => y = v) l₁ l₂) : l₂ = l₁ := by
  induction h with
  | nil => rfl
  | cons e _ ih => rw [e, ih]
noncomputable def SeqAt' (h : Heap) (v : Value) (vs : List Value) : Prop := ∃ a, v = .ref a ∧ (h.IsTuple a vs.toArray ∨ h.IsList a vs.toArray)
theorem compCore {env : Env} {iter : Expr} {x : Str} {px px2 : Pos} {test : Expr} {cscope : Scope} {pos : Pos} {Q : Value → Shared → Prop} (hh : A.handled = none)
    (hclos : closureFor cscope env = pure []) (hcell : ∀ y ∈ cscope.names, y.2 ≠ .cell) (hkind : cscope.kind = .function)
    (hnames : ∀ y ∈ cscope.names, y.2 = .local → cscope.names.lookup y.1 = some .local) (hx : cscope.names.lookup x = some .local) (hd : (x == ("__debug__" : Str)) = false) (hs : ∀ x, foldedSetIterable iter env x = pure x)
    (h : wpAny (model c.prog c.w) A (eval iter env) (fun xv s₁ => ∃ (st₁ : St) (vs : List Value) (ps : List PV) (p : Value → Bool) (g : PV → Bool), Rep c P L names s₁.heap m st₁ ∧ SeqAt' s₁.heap xv vs ∧ vs.length ≤ lim ∧ VRs s₁.heap ps vs ∧ (∀ x v, x ∈ ps → VR s₁.heap x v → p v = g x) ∧
      (∀ (C : Addr) (s₃ : Shared) (m₃ : Str → Option Value) (E' : Value → Shared → Prop) (y : PV) (v : Value), y ∈ ps → VR s₁.heap y v → s₃.heap.Ns C m₃ → m₃ x = some v → (∀ b o, s₁.heap.get? b = some o → s₃.heap.get? b = some o) →
        wpAny (model c.prog c.w) A (isTrue test (compEnvC cscope [] C env) (eval test (compEnvC cscope [] C env))) (fun ok s₄ => ok = g y ∧ Keeps s₃ s₄) E' s₃) ∧
      (∀ a h' tk, st₁.free a → Rep c P L names h' m (st₁.setL a (ps.filter g)) → TK s₁.heap h' → Q (.ref a) { s₁ with heap := h', toks := tk })) noE s) :
    wpAny (model c.prog c.w) A (eval (.ListComp (.Name x px2) [⟨.Name x px, iter, [test], 0⟩] cscope pos) env) Q noE s := by
  rw [eval_ListComp]
  refine wpAny_comprehension_free (use := none) rfl hs hclos hkind hnames (wpM h fun xv s₁ ⟨st₁, vs, ps, p, g, R, ⟨a, ea, hseq⟩, hl, hv, hpg, ht, hQ⟩ => ?_)
  subst ea
  have blk : wpAny (model c.prog c.w) A (pyIter (.ref a)) (fun it s₂ => ∃ I fp wr n P St, it = .ref I ∧ Walks c.prog c.w A I fp wr n P St ∧ n ≤ sizeLine ∧ St 0 s₂.heap ∧ (∀ b ∈ fp, b < s₂.heap.objs.size) ∧
      QuietOnC c.prog c.w A env cscope [] x [test] (.Name x px2) wr P p (fun v y => y = v) s₂ ∧
      (∀ D h' tk ys (vs : List Value), s₂.heap.get? D = none → h'.IsList D ys → h'.PlainList D ys → vs.length = n → (∀ j v, vs[j]? = some v → P j v) → Paired (fun v y => y = v) (vs.filter p) ys.toList →
        (∀ b o, b ∉ wr → s₂.heap.get? b = some o → h'.get? b = some o) → Q (.ref D) { s₂ with heap := h', toks := tk })) noE s₁ := ?_
  · refine wpM blk fun it s₂ ⟨I, fp, wr, n, P, St, e1, W, hsz, hst, hfp, hq, hQ⟩ => ?_
    subst e1
    refine comp_block_walkC (RR := fun acc C => compPost (model c.prog c.w) A noE none Q acc C) W hsz p _ hcell hkind hx hst hfp hq ?_
    intro D C h' tk m' ys vs hD hC hDC hn hl hpl hlen hP hF hk
    exact ⟨m', hn, fun h'' hs'' => hQ D h'' tk ys vs hD (hl.extBut hs''.extBut hDC) (hpl.extBut hs''.extBut hDC) hlen hP hF fun b o hbf e => hs''.extBut b o (fun z => by subst z; rw [hC] at e; cases e) (hk b o hbf e)⟩
  have hlen := hv.length
  have hsz : vs.toArray.size ≤ sizeLine := by rw [List.size_toArray, sizeLine_eq]; unfold lim at hl; (first | lia | omega)
  have member : ∀ {i : Nat} {v : Value}, vs.toArray[i]? = some v → ∃ y ∈ ps, VR s₁.heap y v := fun e => by
    obtain ⟨y, y1, y2⟩ := hv.nth (by simpa using e)
    exact ⟨y, List.mem_of_getElem? y1, y2⟩
  have kindOk : ∀ C, (compEnvC cscope [] C env).scope.kind = .function := fun C => hkind
  have quiet : ∀ (s₂ : Shared) (I : Addr), s₁.heap.objs.size ≤ I → (∀ b o, s₁.heap.get? b = some o → s₂.heap.get? b = some o) → QuietOnC c.prog c.w A env cscope [] x [test] (.Name x px2) [I] (fun i v => vs.toArray[i]? = some v) p (fun v y => y = v) s₂ := fun s₂ I hI k₂ => by
    have k₃ : ∀ {s₃ : Shared}, (∀ b o, b ∉ [I] → s₂.heap.get? b = some o → s₃.heap.get? b = some o) → ∀ b o, s₁.heap.get? b = some o → s₃.heap.get? b = some o := fun k b o e =>
      k b o (by rw [List.mem_singleton]; exact Nat.ne_of_lt (Nat.lt_of_lt_of_le (Heap.lt_size e) hI)) (k₂ b o e)
    refine ⟨fun C i v s₃ m₃ E' hC hP hn hm hk htk => ?_, fun C i v s₃ m₃ E' hC hP hp hn hm hk htk => ?_⟩
    · obtain ⟨y, y1, y2⟩ := member hP
      rw [List.forIn_cons]
      refine wpAny_bind ?_
      rw [if_pos rfl]
      refine wpAny_bind (wpAny_mono (ht C s₃ m₃ E' y v y1 y2 hn hm (k₃ hk)) (fun ok s₄ ⟨e1, e2⟩ => wpAny_pure ?_) fun _ _ e => e)
      dsimp only
      rw [List.forIn_nil]
      exact wpAny_pure ⟨e1.trans (hpg y v y1 y2).symm, e2⟩
    · refine wpAny_Name (wpAny_loadName_local (kindOk C) (lookup_relabel_local hx) hn hm ⟨rfl, s₃.heap, s₃.toks, rfl, fun _ _ e => e⟩) hd
  have finish : ∀ (s₂ : Shared) (I : Addr), s₂.gens = s₁.gens → s₂.drawn = s₁.drawn → s₂.os = s₁.os → s₁.heap.objs.size ≤ I → (∀ b o, s₁.heap.get? b = some o → s₂.heap.get? b = some o) →
      ∀ D h' tk ys (vs' : List Value), s₂.heap.get? D = none → h'.IsList D ys → h'.PlainList D ys → vs'.length = vs.toArray.size → (∀ j v, vs'[j]? = some v → vs.toArray[j]? = some v) → Paired (fun v y => y = v) (vs'.filter p) ys.toList →
        (∀ b o, b ∉ [I] → s₂.heap.get? b = some o → h'.get? b = some o) → Q (.ref D) { s₂ with heap := h', toks := tk } := fun s₂ I g1 g2 g3 hI k₂ D h' tk ys vs' hD hl1 hpl hlen' hall hpair hk => by
    have evs : vs' = vs := by
      apply List.ext_getElem?
      intro j
      cases e : vs'[j]? with
      | some v => have := hall j v e; rw [List.getElem?_toArray] at this; exact this.symm
      | none =>
        rw [List.getElem?_eq_none_iff] at e
        have : vs[j]? = none := by rw [List.getElem?_eq_none_iff]; simpa [hlen'] using e
        exact this.symm
    subst evs
    have k3 : ∀ b o, s₁.heap.get? b = some o → h'.get? b = some o := fun b o e =>
      hk b o (by rw [List.mem_singleton]; exact Nat.ne_of_lt (Nat.lt_of_lt_of_le (Heap.lt_size e) hI)) (k₂ b o e)
    obtain ⟨kk, hpl⟩ := hpl
    have eys : ys = (vs'.filter p).toArray := by rw [← paired_eq hpair]
    rw [eys] at hpl
    have hnone : s₁.heap.get? D = none := by
      cases e : s₁.heap.get? D with
      | none => rfl
      | some o => have := k₂ D o e; rw [hD] at this; cases this
    obtain ⟨fr, R'⟩ := R.newL' hnone k3 hpl (Nat.le_trans (List.length_filter_le _ _) hl) (vrs_filter hv hpg)
    have := hQ D h' tk fr R' (.of_keep k3)
    obtain ⟨h2, ge2, d2, t2, o2⟩ := s₂
    dsimp only at g1 g2 g3
    subst g1 g2 g3
    exact this
  rcases hseq with ht' | hl'
  · refine wpAny_pyIter_tuple ht' ⟨s₁.heap.objs.size, [s₁.heap.objs.size, a], [s₁.heap.objs.size], _, _, _, rfl, Walks.tuple hh _ a (by obtain ⟨o, e, _⟩ := ht'; exact Nat.ne_of_lt (Heap.lt_size e)) vs.toArray, hsz, ⟨⟨_, Heap.get?_push_size _ rfl, rfl, rfl⟩, IsTuple.tk (.of_keep (keepPush _)) ht'⟩, ?_, quiet _ _ (Nat.le_refl _) (keepPush _), finish _ _ rfl rfl rfl (Nat.le_refl _) (keepPush _)⟩
    intro b hb
    rw [Heap.size_push]
    simp only [List.mem_cons, List.not_mem_nil, or_false] at hb
    rcases hb with rfl | rfl
    · exact Nat.lt_succ_self _
    · obtain ⟨o, e, _⟩ := ht'; exact Nat.lt_succ_of_lt (Heap.lt_size e)
  · refine wpAny_pyIter_list hl' ⟨s₁.heap.objs.size, [s₁.heap.objs.size, a], [s₁.heap.objs.size], _, _, _, rfl, Walks.list hh _ a (by obtain ⟨o, e, _⟩ := hl'; exact Nat.ne_of_lt (Heap.lt_size e)) vs.toArray, hsz, ⟨⟨_, Heap.get?_push_size _ rfl, rfl, rfl⟩, ?_⟩, ?_, quiet _ _ (Nat.le_refl _) (keepPush _), finish _ _ rfl rfl rfl (Nat.le_refl _) (keepPush _)⟩
    · obtain ⟨o, e, r⟩ := hl'
      exact ⟨o, Heap.get?_push_of_some _ e, r⟩
    intro b hb
    rw [Heap.size_push]
    simp only [List.mem_cons, List.not_mem_nil, or_false] at hb
    rcases hb with rfl | rfl
    · exact Nat.lt_succ_self _
    · obtain ⟨o, e, _⟩ := hl'; exact Nat.lt_succ_of_lt (Heap.lt_size e)

noncomputable def isS : PV → Bool | .tup (.str k :: _) => k == "s" | _ => false
noncomputable def isSv (h : Heap) (v : Value) : Bool := match v with
  | .ref a => (match h.get? a with
    | some o => (match o.data with
      | .seq vs _ => (match vs.toList with
        | .str k _ :: _ => k == "s"
        | _ => false)
      | _ => false)
    | none => false)
  | _ => false
@[simp] noncomputable def W.compS (e : WE) : WE := fun m st Q => e m st fun p st₁ => ∃ ps, p = .tup ps ∧ (∀ x ∈ ps, ∃ k r, x = .tup (.str k :: r)) ∧ ∀ a, st₁.free a → Q (.ref a) (st₁.setL a (ps.filter isS))
theorem SE.compS {iter : Expr} {x : Str} {px px2 px3 p0 ps' pt pos pc : Pos} {k0 k1 : Nat} {cscope : Scope} {we : WE}
    (hclos : ∀ env, closureFor cscope env = pure []) (hcell : ∀ y ∈ cscope.names, y.2 ≠ .cell) (hkind : cscope.kind = .function)
    (hnames : ∀ y ∈ cscope.names, y.2 = .local → cscope.names.lookup y.1 = some .local) (hx : cscope.names.lookup x = some .local) (hd : (x == ("__debug__" : Str)) = false) (hs : ∀ env x, foldedSetIterable iter env x = pure x) (he : SE c n names scope iter we) :
    SE c n names scope (.ListComp (.Name x px2) [⟨.Name x px, iter, [.Compare (.Subscript (.Name x px3) (.Constant (.int 0) k0 p0) ps') [.Eq] [.Constant (.str "s") k1 pt] pc], 0⟩] cscope pos) (W.compS we) := fun ⦃P L q f cd A s m st Q⦄ rm R hw => by
  refine compCore (names := names) (P := P) (L := L) (m := m) rm.h (hclos _) hcell hkind hnames hx hd (hs _) (wpM (he rm R hw) fun v s₁ ⟨p, st₁, R₁, V₁, X₁, q₁⟩ => ?_)
  obtain ⟨ps, rfl, hps, hq⟩ := q₁
  obtain ⟨a, vs, rfl, ht, hl, hv⟩ := V₁.tup_is
  refine ⟨st₁, vs, ps, isSv s₁.heap, isS, R₁, ⟨a, rfl, .inl ht⟩, hl, hv, fun y v hy hyv => ?_, fun C s₃ m₃ E' y v hy hyv hn hm hk => ?_, fun a h' tk fr R' t => ⟨.ref a, _, R', rfl, X₁.trans ⟨t, rfl, rfl⟩, hq a fr⟩⟩
  · obtain ⟨k, r, rfl⟩ := hps y hy
    obtain ⟨b, ws, d, rfl, e, _, hws⟩ := hyv
    obtain ⟨w1, ws', rfl, ⟨t, rfl⟩, _⟩ := hws
    simp [isSv, isS, e, tupO]
  · obtain ⟨k, r, rfl⟩ := hps y hy
    have hyv' := VR.mono (TK.of_keep hk) _ _ hyv
    obtain ⟨b, ws, rfl, ht', hl', hws⟩ := hyv'.tup_is
    refine wpN ?_ fun _ _ z => z
    refine wpAny_isTrue_Compare1 (Subscript_ (wpAny_Name (wpAny_loadName_local (env := compEnvC cscope [] C _) hkind (lookup_relabel_local hx) hn hm ?_) hd)) rfl
    refine wpAny_Constant_int ?_
    refine tail_any (ht' : IsTup _ _ _).typeIs slot_tuple_getitem.lookup (getItemT (s := { s₃ with toks := s₃.toks + 1 }) (c := c) (ps := .str k :: r) ht' hl' hws (r := .str k) rfl fun z hz => ?_) rfl
    obtain ⟨t, rfl⟩ := hz
    refine wpAny_Constant_str (PyProof.Rows.eq_str (wpAny_truthy_bool ⟨?_, _, _, rfl, fun _ _ e => e⟩))
    rfl
/-! the second one: all stay -/
@[simp] noncomputable def W.compO (C : Addr) (e : WE) : WE := fun m st Q => e m st fun p st₁ => ∃ a ps, p = .ref a ∧ st₁.ls a = some ps ∧ (∀ x ∈ ps, ∃ b fs i j, x = .ref b ∧ st₁.ins b = some (C, fs) ∧ getF 22 fs = some (.int i) ∧ getF 21 fs = some (.int j) ∧ j < i) ∧ ∀ d, st₁.free d → Q (.ref d) (st₁.setL d ps)
theorem SE.compO {iter : Expr} {x : Str} {px px2 px3 px4 p0 ps' pc pos : Pos} {cscope : Scope} {we : WE} {C : Addr} (ok1 : attrOk c.K C "stop" = true) (ok2 : attrOk c.K C "start" = true)
    (hclos : ∀ env, closureFor cscope env = pure []) (hcell : ∀ y ∈ cscope.names, y.2 ≠ .cell) (hkind : cscope.kind = .function)
    (hnames : ∀ y ∈ cscope.names, y.2 = .local → cscope.names.lookup y.1 = some .local) (hx : cscope.names.lookup x = some .local) (hd : (x == ("__debug__" : Str)) = false) (hs : ∀ env x, foldedSetIterable iter env x = pure x)
    (hb1 : ∀ env, attributeBase (.Name x px3) "stop" env (eval (.Name x px3) env) = eval (.Name x px3) env) (hb2 : ∀ env, attributeBase (.Name x px4) "start" env (eval (.Name x px4) env) = eval (.Name x px4) env) (he : SE c n names scope iter we) :
    SE c n names scope (.ListComp (.Name x px2) [⟨.Name x px, iter, [.Compare (.Attribute (.Name x px3) "stop" p0) [.Gt] [.Attribute (.Name x px4) "start" ps'] pc], 0⟩] cscope pos) (W.compO C we) := fun ⦃P L q f cd A s m st Q⦄ rm R hw => by
  refine compCore (names := names) (P := P) (L := L) (m := m) rm.h (hclos _) hcell hkind hnames hx hd (hs _) (wpM (he rm R hw) fun v s₁ ⟨p, st₁, R₁, V₁, X₁, q₁⟩ => ?_)
  obtain ⟨a, ps, rfl, e, hps, hq⟩ := q₁
  cases V₁
  obtain ⟨vs, d, e2, hl, hv⟩ := R₁.list e
  refine ⟨st₁, vs, ps, fun _ => true, fun _ => true, R₁, ⟨a, rfl, .inr (isList_of e2)⟩, hl, hv, fun _ _ _ _ => rfl, fun C' s₃ m₃ E' y v hy hyv hn hm hk => ?_, fun a h' tk fr R' t => ⟨.ref a, _, R', rfl, X₁.trans ⟨t, rfl, rfl⟩, ?_⟩⟩
  · obtain ⟨b, fs, i, j, rfl, e3, e4, e5, e6⟩ := hps y hy
    cases hyv
    have R₃ : Rep c P L names s₃.heap m st₁ := R₁.keep hk
    have nm : ∀ {px : Pos} {Q : Value → Shared → Prop} {s₄ : Shared}, s₄.heap = s₃.heap → Q (.ref b) s₄ → wpAny (model c.prog c.w) A (eval (.Name x px) (compEnvC cscope [] C' (envOf q scope L f cd))) Q noE s₄ := fun e h =>
      wpAny_Name (wpAny_loadName_local (env := compEnvC cscope [] C' _) hkind (lookup_relabel_local hx) (by rw [e]; exact hn) hm h) hd
    refine wpN ?_ fun _ _ z => z
    refine wpAny_isTrue_Compare1 (attr_node (hb1 _) (nm rfl (getAttr_ (x := ("stop" : Str)) R₃ e3 (by decide) rfl ok1 e4 fun z hz => ?_))) rfl
    obtain ⟨t, rfl⟩ := hz
    refine attr_node (hb2 _) (nm rfl (getAttr_ (x := ("start" : Str)) (s := { s₃ with toks := _ }) R₃ e3 (by decide) rfl ok2 e5 fun z hz => ?_))
    obtain ⟨t', rfl⟩ := hz
    refine PySem.P.gt_int (wpAny_truthy_bool ⟨?_, _, _, rfl, fun _ _ e => e⟩)
    simpa using e6
  · have e : ps.filter (fun _ => true) = ps := by simp
    rw [e]; exact hq a fr
end
end Mine
namespace Mine

/-! ### the bodies, by their place in the program -/
noncomputable def topAt (i : Nat) : Stmt := PySem.Challenge.pw_sa0159_01.main.body.getD i (.Pass ⟨0, 0, 0, 0⟩)
noncomputable def fBody : Stmt → List Stmt | .FunctionDef _ _ b .. => b | _ => []
noncomputable def fScope : Stmt → Scope | .FunctionDef _ _ _ _ _ _ s .. => s | _ => ⟨.function, [], false, false, []⟩
noncomputable def cAt (i j : Nat) : Stmt := match topAt i with | .ClassDef _ _ _ b .. => b.getD j (.Pass ⟨0, 0, 0, 0⟩) | s => s

noncomputable def isStarB : Expr → Bool | .Starred .. => true | _ => false
theorem star_ne {e : Expr} {es : List Expr} (h : isStarB e = false) (env : Env) : starEach (e :: es) env = (false, eval e env) :: starEach es env := by
  cases e <;> first | rfl | cases h
/-! ### written-out tuples of texts and numbers -/
noncomputable def cE1 : Expr → Option PV
  | .Constant (.str x) _ _ => some (.str x)
  | .Constant (.int i) _ _ => some (.int i)
  | _ => none
noncomputable def cEs1 : List Expr → Option (List PV)
  | [] => some []
  | e :: es => (cE1 e).bind fun p => (cEs1 es).map (p :: ·)
noncomputable def cE2 : Expr → Option PV
  | .Constant (.str x) _ _ => some (.str x)
  | .Constant (.int i) _ _ => some (.int i)
  | .Tuple es _ _ => (cEs1 es).bind fun ps => if lenLe ps 1000 = true then some (.tup ps) else none
  | _ => none
noncomputable def cEs2 : List Expr → Option (List PV)
  | [] => some []
  | e :: es => (cE2 e).bind fun p => (cEs2 es).map (p :: ·)
@[simp] noncomputable def W.consts (ps : List PV) : WEs := fun _ st Q => Q ps st
section
variable {c : Cx} {n : Nat} {names : List Str} {scope : Scope}
theorem SE.c1 {e : Expr} {p : PV} (h : cE1 e = some p) : SE c n names scope e (W.const p) := fun _ _ _ _ _ _ _ _ _ _ rm R hw => by
  unfold cE1 at h
  split at h
  · cases h; exact SE.str rm R hw
  · cases h; exact SE.int rm R hw
  · cases h
theorem cE1_star {e : Expr} {p : PV} (h : cE1 e = some p) : isStarB e = false := by
  unfold cE1 at h
  split at h
  · rfl
  · rfl
  · cases h
theorem SEs.c1 : ∀ {es : List Expr} {ps : List PV}, cEs1 es = some ps → SEs c n names scope es (W.consts ps)
  | [], _, h => by cases h; exact SEs.nil
  | e :: es, _, h => by
    unfold cEs1 at h
    obtain ⟨p, h1, h2⟩ := Option.bind_eq_some_iff.mp h
    obtain ⟨ps, h3, rfl⟩ := Option.map_eq_some_iff.mp h2
    exact SEs.cons (star_ne (cE1_star h1)) (SE.c1 h1) (SEs.c1 h3)
theorem SE.c2 {e : Expr} {p : PV} (h : cE2 e = some p) : SE c n names scope e (W.const p) := fun _ _ _ _ _ _ _ _ _ _ rm R hw => by
  unfold cE2 at h
  split at h
  · cases h; exact SE.str rm R hw
  · cases h; exact SE.int rm R hw
  · obtain ⟨ps, h1, h2⟩ := Option.bind_eq_some_iff.mp h
    split at h2
    · rename_i hl
      cases h2
      exact SE.tup (SEs.c1 h1) rm R (by show br (lenLe ps 1000) _ _; rw [hl]; exact hw)
    · cases h2
  · cases h
theorem cE2_star {e : Expr} {p : PV} (h : cE2 e = some p) : isStarB e = false := by
  unfold cE2 at h
  split at h <;> first | rfl | cases h
theorem SEs.c2 : ∀ {es : List Expr} {ps : List PV}, cEs2 es = some ps → SEs c n names scope es (W.consts ps)
  | [], _, h => by cases h; exact SEs.nil
  | e :: es, _, h => by
    unfold cEs2 at h
    obtain ⟨p, h1, h2⟩ := Option.bind_eq_some_iff.mp h
    obtain ⟨ps, h3, rfl⟩ := Option.map_eq_some_iff.mp h2
    exact SEs.cons (star_ne (cE2_star h1)) (SE.c2 h1) (SEs.c2 h3)
end

/-! ### short forms -/
structure FnOk (names : List Str) (scope : Scope) : Prop where
  nd : names.Nodup
  fn : scope.kind = .function
noncomputable def locOk (names : List Str) (scope : Scope) (i : Nat) (x : Str) : Bool := decide (names[i]? = some x) && decide (scope.names.lookup x = some .local) && !(x == ("__debug__" : Str))
noncomputable def gloOk (scope : Scope) (x : Str) : Bool := decide (scope.names.lookup x = some .globalImplicit) && !(x == ("__debug__" : Str))
theorem locAll {names : List Str} {scope : Scope} {i : Nat} {x : Str} (h : locOk names scope i x = true) : names[i]? = some x ∧ scope.names.lookup x = some .local ∧ (x == ("__debug__" : Str)) = false := by
  unfold locOk at h
  simp only [Bool.and_eq_true, decide_eq_true_eq, Bool.not_eq_true'] at h
  exact ⟨h.1.1, h.1.2, h.2⟩
theorem gloAll {scope : Scope} {x : Str} (h : gloOk scope x = true) : scope.names.lookup x = some .globalImplicit ∧ (x == ("__debug__" : Str)) = false := by
  unfold gloOk at h
  simp only [Bool.and_eq_true, decide_eq_true_eq, Bool.not_eq_true'] at h
  exact h
noncomputable def gOk (K : Frag) (x : Str) (a : Addr) : Bool := nsIn K mainGlobals x == some (some (.ref a)) && keepIn K (.ref a)
noncomputable def gNone (K : Frag) (x : Str) : Prop := nsIn K mainGlobals x = some none
noncomputable def gInt (K : Frag) (x : Str) (i : Int) : Prop := ∃ t, nsIn K mainGlobals x = some (some (.int i t))
noncomputable def notField (x : Str) : Bool := (List.range 25).all fun k => !decide (fname k = x)
theorem notFieldAll {x : Str} (h : notField x = true) : ∀ k, k < 25 → fname k ≠ x := fun k hk e => by
  unfold notField at h
  have := List.all_eq_true.mp h k (List.mem_range.mpr hk)
  simp [e] at this

section
variable {c : Cx} {n : Nat} {names : List Str} {scope : Scope}
theorem SE.l {x : Str} {pos : Pos} {i : Nat} (F : FnOk names scope) (h : locOk names scope i x = true) : SE c n names scope (.Name x pos) (W.loc i) := SE.loc (locAll h).1 F.nd F.fn (locAll h).2.1 (locAll h).2.2
theorem SE.gI {x : Str} {pos : Pos} {i : Int} (F : FnOk names scope) (h : gloOk scope x = true) (g : gInt c.K x i) : SE c n names scope (.Name x pos) (W.const (.int i)) := fun _ _ _ _ _ _ _ _ _ _ rm R hw => by
  obtain ⟨t, g⟩ := g
  exact SE.glob g (fun h => VR.int_ h i t) F.fn (gloAll h).1 (gloAll h).2 rm R hw
theorem SX.a {x : Str} {pos' pos : Pos} {e : Expr} {w : WE} {i : Nat} (F : FnOk names scope) (h : locOk names scope i x = true) (hs : ∀ env, swapsWith e (some (.Name x pos')) pos.line env = pure false) (he : SE c n names scope e w) :
    SX c n names scope (.Assign [.Name x pos'] e pos) (W.asg i w) := SX.asg (locAll h).1 F.nd F.fn (locAll h).2.1 hs he
theorem SX.au {x : Str} {pos' pos : Pos} {op : Operator} {g : PV → PV → Option PV} {e : Expr} {w : WE} {i : Nat} (F : FnOk names scope) (h : locOk names scope i x = true) (ho : OpOk c (inplaceOp op) g) (he : SE c n names scope e w) :
    SX c n names scope (.AugAssign (.Name x pos') op e pos) (W.aug g i w) := SX.aug ho (locAll h).1 F.nd F.fn (locAll h).2.1 he
theorem SA.nm {x : Str} {pos : Pos} {i : Nat} (F : FnOk names scope) (h : locOk names scope i x = true) : SA c n names scope (.Name x pos) (W.tName i) := SA.name (locAll h).1 F.nd F.fn (locAll h).2.1
theorem SA.p {x y : Str} {px py pos : Pos} {k i j : Nat} (F : FnOk names scope) (h1 : locOk names scope i x = true) (h2 : locOk names scope j y = true) : SA c n names scope (.Tuple [.Name x px, .Name y py] k pos) (W.tPair i j) := fun _ _ _ _ _ _ _ _ _ _ _ _ rm R V hw =>
  SA.pair (locAll h1).1 (locAll h2).1 F.nd F.fn (locAll h1).2.1 (locAll h2).2.1 rm R V hw
theorem SX.e {e : Expr} {pos : Pos} {w : WE} (F : FnOk names scope) (hs : ∀ env, swapsWith e none pos.line env = pure false) (h : SE c n names scope e w) : SX c n names scope (.Expr e pos) (W.expr w) := SX.expr h hs F.fn
theorem SE.cK {x : Str} {np pos : Pos} {es : List Expr} {fa : Addr} {S : Spec} {ws : WEs} (F : FnOk names scope) (g : gOk c.K x fa = true) (gl : gloOk scope x = true) (hst : NoStar es) (ha : SEs c n names scope es ws) (hc : CallOk c n (.ref fa) S) :
    SE c n names scope (.Call (.Name x np) es [] pos) (W.call S ws) := fun _ _ _ _ _ _ _ _ _ _ rm R hw => by
  unfold gOk at g
  simp only [Bool.and_eq_true, beq_iff_eq] at g
  exact SE.callK g.1 g.2 hst F.fn (gloAll gl).1 (gloAll gl).2 ha hc rm R hw
theorem SE.cB {x : Str} {np pos : Pos} {es : List Expr} {id : String} {S : Spec} {ws : WEs} (F : FnOk names scope) (g : gNone c.K x) (gl : gloOk scope x = true) (hv : bootBuiltins x = some (.builtin id)) (hn : x ≠ "__name__") (hst : NoStar es) (ha : SEs c n names scope es ws)
    (hc : CallOk c n (.builtin id) S) : SE c n names scope (.Call (.Name x np) es [] pos) (W.call S ws) := SE.callB g hv hn hst F.fn (gloAll gl).1 (gloAll gl).2 ha hc
theorem SE.cT {x : Str} {np pos : Pos} {es : List Expr} {T : String} {S : Spec} {ws : WEs} (F : FnOk names scope) (g : gNone c.K x) (gl : gloOk scope x = true) (hv : bootBuiltins x = some (.type T)) (hn : x ≠ "__name__") (hst : NoStar es) (ha : SEs c n names scope es ws)
    (hc : CallOk c n (.type T) S) : SE c n names scope (.Call (.Name x np) es [] pos) (W.call S ws) := SE.callT g hv hn hst F.fn (gloAll gl).1 (gloAll gl).2 ha hc
theorem SE.iT {e : Expr} {np tp pos : Pos} {w : WE} (F : FnOk names scope) (hx : gNone c.K "isinstance") (ht : gNone c.K "tuple") (hst : NoStar [e, .Name "tuple" tp]) (he : ∀ env, starEach [e, .Name "tuple" tp] env = (false, eval e env) :: starEach [.Name "tuple" tp] env)
    (h1 : gloOk scope "isinstance" = true) (h2 : gloOk scope "tuple" = true) (h : SE c n names scope e w) : SE c n names scope (.Call (.Name "isinstance" np) [e, .Name "tuple" tp] [] pos) (W.isTup w) := SE.isTup hx ht hst he F.fn (gloAll h1).1 (gloAll h2).1 h
theorem SX.fR {target e : Expr} {np cp : Pos} {body : List Stmt} {pos : Pos} {we : WE} {wt : WA} {wb : WS} (F : FnOk names scope) (hr : gNone c.K "range") (hl : gloOk scope "range" = true) (hst : NoStar [e]) (hse : ∀ env, starEach [e] env = (false, eval e env) :: starEach [] env)
    (hs : ∀ env x, foldedSetIterable (.Call (.Name "range" np) [e] [] cp) env x = pure x) (he : SE c n names scope e we) (ht : SA c n names scope target wt) (hb : SS c n names scope body wb) :
    SX c n names scope (.For target (.Call (.Name "range" np) [e] [] cp) body [] pos) (W.forR we wt wb) := SX.forR hr (gloAll hl).1 hst hse F.fn hs he ht hb
theorem SE.me {o : Expr} {x : Str} {apos pos : Pos} {es : List Expr} {C fa : Addr} {S : Spec} {wo : WE} {ws : WEs} (ok : methOk c.K C x fa = true) (hn : notField x = true) (hb : ∀ env, attributeBase o x env (eval o env) = eval o env) (hst : NoStar es) (hlen : es.length < 25)
    (hline : (apos.endLine == pos.line) = true) (ho : SE c n names scope o wo) (ha : SEs c n names scope es ws) (hc : CallOk c n (.ref fa) S) : SE c n names scope (.Call (.Attribute o x apos) es [] pos) (W.meth C S wo ws) := SE.meth ok (notFieldAll hn) hb hst hlen hline ho ha hc
theorem FRel.missF {h : Heap} {name : Str} : ∀ {es : List DictEntry} {fs : List (Nat × PV)}, (∀ p ∈ fs, fname p.1 ≠ name) → FRel h es fs → es.find? (·.key.isStr name) = none
  | [], _, _, _ => rfl
  | e :: es, _, hn, x => by
    obtain ⟨k, q, fs', t, rfl, hk, hkey, hv, r⟩ := x
    rw [List.find?_cons, hkey]
    have : (Value.str (fname k) t).isStr name = false := by
      show (fname k == name) = false
      exact beq_eq_false_iff_ne.mpr (hn (k, q) (.head _))
    rw [this]
    exact FRel.missF (fun p hp => hn p (.tail _ hp)) r
theorem FRel.missFL {h : Heap} {name : Str} {es : List DictEntry} {fs : List (Nat × PV)} (hn : ∀ p ∈ fs, fname p.1 ≠ name) (x : FRel h es fs) : PySem.W.getL name es = some none := by
  unfold PySem.W.getL
  rw [x.missF hn, x.noRef]
  rfl
noncomputable def noneNamed (x : Str) (fs : List (Nat × PV)) : Bool := fs.all fun p => !decide (fname p.1 = x)
/-- a method whose name is also a field's of another class -/
@[simp] noncomputable def W.methF (C : Addr) (x : Str) (S : Spec) (eo : WE) (ws : WEs) : WE := fun m st Q => eo m st fun u st₁ => orF (insOf C st₁ u) fun r => noneNamed x r.2 = true ∧ ws m st₁ fun ps st₂ => S (.ref r.1 :: ps) st₂ Q
theorem SE.mf {o : Expr} {x : Str} {apos pos : Pos} {es : List Expr} {C fa : Addr} {S : Spec} {wo : WE} {ws : WEs} (ok : methOk c.K C x fa = true) (hb : ∀ env, attributeBase o x env (eval o env) = eval o env) (hst : NoStar es) (hlen : es.length < 25)
    (hline : (apos.endLine == pos.line) = true) (ho : SE c n names scope o wo) (ha : SEs c n names scope es ws) (hc : CallOk c n (.ref fa) S) : SE c n names scope (.Call (.Attribute o x apos) es [] pos) (W.methF C x S wo ws) := fun ⦃P L q f cd A s m st Q⦄ rm R hw => by
  unfold methOk at ok
  simp only [Bool.and_eq_true, beq_iff_eq] at ok
  obtain ⟨⟨⟨ok1, ok2⟩, ok3⟩, ok4⟩ := ok
  refine meth_node (hb _) hst hlen hline (wpM (ho rm R hw) fun v s₁ ⟨p, st₁, R₁, V₁, X₁, q₁⟩ pl => ?_)
  obtain ⟨⟨a, fs⟩, e, hno, q₂⟩ := orF.elim q₁
  obtain ⟨rfl, e1⟩ := insOf_some e
  cases V₁
  obtain ⟨dx, des, d, I, r⟩ := R₁.inst e1
  have hn : ∀ p ∈ fs, fname p.1 ≠ x := fun p hp e => by
    have := List.all_eq_true.mp hno p hp
    simp [e] at this
  refine method_fn R₁.K I (plainGet_of ok1).1 (plainGet_of ok1).2 ok2 (beq_iff_eq.mp ok3) (by show (PySem.W.lookIn x (dictOf des d)).map _ = _; rw [PySem.W.lookIn_dict, r.missFL hn]; rfl) ?_
  refine PySem.W.callWith_of (P := fun h => c.K.In h) (by rw [backTo_any hst]; rfl) (PySem.W.keeps_K ok4) (evalArgs_es hst ?_)
  exact wpM (ha rm R₁ q₂) fun vs s₂ ⟨ps, st₂, R₂, V₂, X₂, q₃⟩ => ⟨R₂.K, PostE.ofCall (ps := .ref a :: ps) hc rm R₂ ⟨_, _, rfl, rfl, V₂⟩ (X₁.trans X₂) q₃⟩
section
variable {o : Expr} {apos pos : Pos} {es : List Expr} {wo : WE} {ws : WEs} (hst : NoStar es) (hlen : es.length < 25) (hline : (apos.endLine == pos.line) = true) (ho : SE c n names scope o wo) (ha : SEs c n names scope es ws)
include hst hlen hline ho ha
theorem SE.mApp (hb : ∀ env, attributeBase o "append" env (eval o env) = eval o env) : SE c n names scope (.Call (.Attribute o "append" apos) es [] pos) (W.methB isL Sp.append wo ws) := SE.methB (fun R h => ok_isL R h) F.plainAttrs_list F.slot_list_append F.type_list_append hb hst hlen hline ho ha ok_append
theorem SE.mPop (hb : ∀ env, attributeBase o "pop" env (eval o env) = eval o env) : SE c n names scope (.Call (.Attribute o "pop" apos) es [] pos) (W.methB isL Sp.pop wo ws) := SE.methB (fun R h => ok_isL R h) F.plainAttrs_list F.slot_list_pop F.type_list_pop hb hst hlen hline ho ha ok_pop
theorem SE.mGetDi (hb : ∀ env, attributeBase o "get" env (eval o env) = eval o env) : SE c n names scope (.Call (.Attribute o "get" apos) es [] pos) (W.methB isDi (Sp.fn gGetDi) wo ws) := SE.methB (fun R h => ok_isDi R h) F.plainAttrs_dict F.slot_dict_get F.type_dict_get hb hst hlen hline ho ha ok_getDi
theorem SE.mGetDk (hb : ∀ env, attributeBase o "get" env (eval o env) = eval o env) : SE c n names scope (.Call (.Attribute o "get" apos) es [] pos) (W.methB isDk (Sp.fn gGetDk) wo ws) := SE.methB (fun R h => ok_isDk R h) F.plainAttrs_dict F.slot_dict_get F.type_dict_get hb hst hlen hline ho ha ok_getDk
theorem SE.mGetDt (hb : ∀ env, attributeBase o "get" env (eval o env) = eval o env) : SE c n names scope (.Call (.Attribute o "get" apos) es [] pos) (W.methB isDt (Sp.fn gGetDt) wo ws) := SE.methB (fun R h => ok_isDt R h) F.plainAttrs_dict F.slot_dict_get F.type_dict_get hb hst hlen hline ho ha ok_getDt
theorem SE.mSetd (hb : ∀ env, attributeBase o "setdefault" env (eval o env) = eval o env) : SE c n names scope (.Call (.Attribute o "setdefault" apos) es [] pos) (W.methB isDi Sp.setdef wo ws) := SE.methB (fun R h => ok_isDi R h) F.plainAttrs_dict F.slot_dict_setdefault F.type_dict_setdefault hb hst hlen hline ho ha ok_setdef
end
end
end Mine
namespace Mine
noncomputable def pv_fixed_atoms : List PV := [.str "[]", .str ".", .str "{}", .str "-", .str "+", .str "*", .str "/", .str ",", .str "|", .str ";", .str "->", .str "\\+", .str ":-", .str "?-", .str "-->", .str "!", .str "true", .str "fail", .str "false", .str "call", .str "=", .str "^", .str "error", .str "", .str "end_of_file", .str "system", .str "$VAR", .str "catch", .str "throw"]
noncomputable abbrev nm_fixed_atoms : List Str := []
noncomputable abbrev pm_fixed_atoms : List Str := []
noncomputable def bd_fixed_atoms : List Stmt := fBody (topAt 10)
noncomputable def sc_fixed_atoms : Scope := fScope (topAt 10)
theorem F_fixed_atoms : FnOk nm_fixed_atoms sc_fixed_atoms := ⟨by decide +kernel, by decide +kernel⟩
noncomputable def pv_fixed_functors : List PV := [.tup [.str ".", .int 2], .tup [.str ",", .int 2], .tup [.str ";", .int 2], .tup [.str "->", .int 2], .tup [.str "\\+", .int 1], .tup [.str ":-", .int 2], .tup [.str ":-", .int 1], .tup [.str "?-", .int 1], .tup [.str "-->", .int 2], .tup [.str "{}", .int 1], .tup [.str "=", .int 2], .tup [.str "^", .int 2], .tup [.str "-", .int 1], .tup [.str "-", .int 2], .tup [.str "+", .int 2], .tup [.str "/", .int 2], .tup [.str "error", .int 2], .tup [.str "$VAR", .int 1], .tup [.str "catch", .int 3], .tup [.str "throw", .int 1], .tup [.str "!", .int 0], .tup [.str "true", .int 0], .tup [.str "fail", .int 0], .tup [.str "false", .int 0], .tup [.str "call", .int 1], .tup [.str "call", .int 2], .tup [.str "call", .int 3], .tup [.str "call", .int 4], .tup [.str "call", .int 5], .tup [.str "call", .int 6], .tup [.str "call", .int 7], .tup [.str "call", .int 8]]
noncomputable abbrev nm_fixed_functors : List Str := []
noncomputable abbrev pm_fixed_functors : List Str := []
noncomputable def bd_fixed_functors : List Stmt := fBody (topAt 11)
noncomputable def sc_fixed_functors : Scope := fScope (topAt 11)
theorem F_fixed_functors : FnOk nm_fixed_functors sc_fixed_functors := ⟨by decide +kernel, by decide +kernel⟩
noncomputable abbrev nm_Sym_init : List Str := ["self", "text", "row"]
noncomputable abbrev pm_Sym_init : List Str := ["self"]
noncomputable def bd_Sym_init : List Stmt := fBody (cAt 12 0)
noncomputable def sc_Sym_init : Scope := fScope (cAt 12 0)
theorem F_Sym_init : FnOk nm_Sym_init sc_Sym_init := ⟨by decide +kernel, by decide +kernel⟩
noncomputable abbrev nm_atom : List Str := ["self", "text", "found", "number"]
noncomputable abbrev pm_atom : List Str := ["self", "text"]
noncomputable def bd_atom : List Stmt := fBody (cAt 12 1)
noncomputable def sc_atom : Scope := fScope (cAt 12 1)
theorem F_atom : FnOk nm_atom sc_atom := ⟨by decide +kernel, by decide +kernel⟩
noncomputable abbrev nm_functor : List Str := ["self", "atom", "arity", "key", "found", "number"]
noncomputable abbrev pm_functor : List Str := ["self", "atom", "arity"]
noncomputable def bd_functor : List Stmt := fBody (cAt 12 3)
noncomputable def sc_functor : Scope := fScope (cAt 12 3)
theorem F_functor : FnOk nm_functor sc_functor := ⟨by decide +kernel, by decide +kernel⟩
noncomputable abbrev nm_func : List Str := ["self", "text", "arity"]
noncomputable abbrev pm_func : List Str := ["self", "text", "arity"]
noncomputable def bd_func : List Stmt := fBody (cAt 12 4)
noncomputable def sc_func : Scope := fScope (cAt 12 4)
theorem F_func : FnOk nm_func sc_func := ⟨by decide +kernel, by decide +kernel⟩
noncomputable abbrev nm_constant_cell : List Str := ["term"]
noncomputable abbrev pm_constant_cell : List Str := ["term"]
noncomputable def bd_constant_cell : List Stmt := fBody (topAt 16)
noncomputable def sc_constant_cell : Scope := fScope (topAt 16)
theorem F_constant_cell : FnOk nm_constant_cell sc_constant_cell := ⟨by decide +kernel, by decide +kernel⟩
noncomputable abbrev nm_CS_init : List Str := ["self", "kernel", "plan"]
noncomputable abbrev pm_CS_init : List Str := ["self", "kernel", "plan"]
noncomputable def bd_CS_init : List Stmt := fBody (cAt 17 0)
noncomputable def sc_CS_init : Scope := fScope (cAt 17 0)
theorem F_CS_init : FnOk nm_CS_init sc_CS_init := ⟨by decide +kernel, by decide +kernel⟩
noncomputable abbrev nm_emit : List Str := ["self", "instruction"]
noncomputable abbrev pm_emit : List Str := ["self", "instruction"]
noncomputable def bd_emit : List Stmt := fBody (cAt 17 1)
noncomputable def sc_emit : Scope := fScope (cAt 17 1)
theorem F_emit : FnOk nm_emit sc_emit := ⟨by decide +kernel, by decide +kernel⟩
noncomputable abbrev nm_new_temporary : List Str := ["self", "number"]
noncomputable abbrev pm_new_temporary : List Str := ["self"]
noncomputable def bd_new_temporary : List Stmt := fBody (cAt 17 2)
noncomputable def sc_new_temporary : Scope := fScope (cAt 17 2)
theorem F_new_temporary : FnOk nm_new_temporary sc_new_temporary := ⟨by decide +kernel, by decide +kernel⟩
noncomputable abbrev nm_match : List Str := ["self", "term", "source", "waiting", "node", "register"]
noncomputable abbrev pm_match : List Str := ["self", "term", "source"]
noncomputable def bd_match : List Stmt := fBody (cAt 18 1)
noncomputable def sc_match : Scope := fScope (cAt 18 1)
theorem F_match : FnOk nm_match sc_match := ⟨by decide +kernel, by decide +kernel⟩
noncomputable abbrev nm_match_arguments : List Str := ["self", "args", "waiting", "nested", "voids", "arg", "temporary"]
noncomputable abbrev pm_match_arguments : List Str := ["self", "args", "waiting"]
noncomputable def bd_match_arguments : List Stmt := fBody (cAt 18 2)
noncomputable def sc_match_arguments : Scope := fScope (cAt 18 2)
theorem F_match_arguments : FnOk nm_match_arguments sc_match_arguments := ⟨by decide +kernel, by decide +kernel⟩
noncomputable abbrev nm_build : List Str := ["self", "term", "target", "work", "built", "ready", "node", "pieces", "register"]
noncomputable abbrev pm_build : List Str := ["self", "term", "target"]
noncomputable def bd_build : List Stmt := fBody (cAt 19 0)
noncomputable def sc_build : Scope := fScope (cAt 19 0)
theorem F_build : FnOk nm_build sc_build := ⟨by decide +kernel, by decide +kernel⟩
noncomputable abbrev nm_wait_for_nested : List Str := ["self", "args", "work", "last", "at"]
noncomputable abbrev pm_wait_for_nested : List Str := ["self", "args", "work"]
noncomputable def bd_wait_for_nested : List Stmt := fBody (cAt 19 1)
noncomputable def sc_wait_for_nested : Scope := fScope (cAt 19 1)
theorem F_wait_for_nested : FnOk nm_wait_for_nested sc_wait_for_nested := ⟨by decide +kernel, by decide +kernel⟩
noncomputable abbrev nm_take_nested : List Str := ["self", "args", "built", "pieces", "last", "at"]
noncomputable abbrev pm_take_nested : List Str := ["self", "args", "built"]
noncomputable def bd_take_nested : List Stmt := fBody (cAt 19 2)
noncomputable def sc_take_nested : Scope := fScope (cAt 19 2)
theorem F_take_nested : FnOk nm_take_nested sc_take_nested := ⟨by decide +kernel, by decide +kernel⟩
noncomputable abbrev nm_set_arguments : List Str := ["self", "pieces", "voids", "piece"]
noncomputable abbrev pm_set_arguments : List Str := ["self", "pieces"]
noncomputable def bd_set_arguments : List Stmt := fBody (cAt 19 3)
noncomputable def sc_set_arguments : Scope := fScope (cAt 19 3)
theorem F_set_arguments : FnOk nm_set_arguments sc_set_arguments := ⟨by decide +kernel, by decide +kernel⟩
noncomputable abbrev nm_KC_init : List Str := ["self", "functor", "args", "goals", "count"]
noncomputable abbrev pm_KC_init : List Str := ["self", "functor", "args", "goals", "count"]
noncomputable def bd_KC_init : List Stmt := fBody (cAt 28 0)
noncomputable def sc_KC_init : Scope := fScope (cAt 28 0)
theorem F_KC_init : FnOk nm_KC_init sc_KC_init := ⟨by decide +kernel, by decide +kernel⟩
noncomputable abbrev nm_CP_init : List Str := ["self", "infos", "chunks", "needs_env", "env_size", "live_after"]
noncomputable abbrev pm_CP_init : List Str := ["self", "infos", "chunks", "needs_env", "env_size", "live_after"]
noncomputable def bd_CP_init : List Stmt := fBody (cAt 33 0)
noncomputable def sc_CP_init : Scope := fScope (cAt 33 0)
theorem F_CP_init : FnOk nm_CP_init sc_CP_init := ⟨by decide +kernel, by decide +kernel⟩
noncomputable abbrev nm_chunk_numbers : List Str := ["goals", "chunks", "chunk", "goal"]
noncomputable abbrev pm_chunk_numbers : List Str := ["goals"]
noncomputable def bd_chunk_numbers : List Stmt := fBody (topAt 34)
noncomputable def sc_chunk_numbers : Scope := fScope (topAt 34)
theorem F_chunk_numbers : FnOk nm_chunk_numbers sc_chunk_numbers := ⟨by decide +kernel, by decide +kernel⟩
noncomputable abbrev nm_Sv_init : List Str := ["self"]
noncomputable abbrev pm_Sv_init : List Str := ["self"]
noncomputable def bd_Sv_init : List Stmt := fBody (cAt 35 0)
noncomputable def sc_Sv_init : Scope := fScope (cAt 35 0)
theorem F_Sv_init : FnOk nm_Sv_init sc_Sv_init := ⟨by decide +kernel, by decide +kernel⟩
noncomputable abbrev nm_terms : List Str := ["self", "terms", "place", "goal", "chunk", "term", "counts", "k"]
noncomputable abbrev pm_terms : List Str := ["self", "terms", "place", "goal", "chunk"]
noncomputable def bd_terms : List Stmt := fBody (cAt 35 2)
noncomputable def sc_terms : Scope := fScope (cAt 35 2)
theorem F_terms : FnOk nm_terms sc_terms := ⟨by decide +kernel, by decide +kernel⟩
noncomputable abbrev nm_slot_order : List Str := ["infos", "order", "k", "info", "at"]
noncomputable abbrev pm_slot_order : List Str := ["infos"]
noncomputable def bd_slot_order : List Stmt := fBody (topAt 37)
noncomputable def sc_slot_order : Scope := fScope (topAt 37)
theorem F_slot_order : FnOk nm_slot_order sc_slot_order := ⟨by decide +kernel, by decide +kernel⟩
noncomputable abbrev nm_classify : List Str := ["kernel", "goals", "chunks", "survey", "needs_env", "at", "goal", "special", "infos", "k", "order", "info", "live_after", "live"]
noncomputable abbrev pm_classify : List Str := ["kernel"]
noncomputable def bd_classify : List Stmt := fBody (topAt 38)
noncomputable def sc_classify : Scope := fScope (topAt 38)
theorem F_classify : FnOk nm_classify sc_classify := ⟨by decide +kernel, by decide +kernel⟩
noncomputable abbrev nm_operand_roles : List Str := ["instruction", "name"]
noncomputable abbrev pm_operand_roles : List Str := ["instruction"]
noncomputable def bd_operand_roles : List Stmt := fBody (topAt 43)
noncomputable def sc_operand_roles : Scope := fScope (topAt 43)
theorem F_operand_roles : FnOk nm_operand_roles sc_operand_roles := ⟨by decide +kernel, by decide +kernel⟩
noncomputable abbrev nm_ends_arguments : List Str := ["instruction", "name"]
noncomputable abbrev pm_ends_arguments : List Str := ["instruction"]
noncomputable def bd_ends_arguments : List Stmt := fBody (topAt 44)
noncomputable def sc_ends_arguments : Scope := fScope (topAt 44)
theorem F_ends_arguments : FnOk nm_ends_arguments sc_ends_arguments := ⟨by decide +kernel, by decide +kernel⟩
noncomputable abbrev nm_Oc_init : List Str := ["self", "kind", "number", "start", "stop"]
noncomputable abbrev pm_Oc_init : List Str := ["self", "kind", "number", "start", "stop"]
noncomputable def bd_Oc_init : List Stmt := fBody (cAt 45 0)
noncomputable def sc_Oc_init : Scope := fScope (cAt 45 0)
theorem F_Oc_init : FnOk nm_Oc_init sc_Oc_init := ⟨by decide +kernel, by decide +kernel⟩
noncomputable abbrev nm_overlaps : List Str := ["self", "other"]
noncomputable abbrev pm_overlaps : List Str := ["self", "other"]
noncomputable def bd_overlaps : List Stmt := fBody (cAt 45 1)
noncomputable def sc_overlaps : Scope := fScope (cAt 45 1)
theorem F_overlaps : FnOk nm_overlaps sc_overlaps := ⟨by decide +kernel, by decide +kernel⟩
noncomputable abbrev nm_intervals : List Str := ["instrs", "arity", "found", "incoming", "number", "outgoing", "temporaries", "at", "instruction", "role", "operand"]
noncomputable abbrev pm_intervals : List Str := ["instrs", "arity"]
noncomputable def bd_intervals : List Stmt := fBody (topAt 46)
noncomputable def sc_intervals : Scope := fScope (topAt 46)
theorem F_intervals : FnOk nm_intervals sc_intervals := ⟨by decide +kernel, by decide +kernel⟩
noncomputable abbrev nm_wishes : List Str := ["instrs", "table", "instruction", "name", "target", "source"]
noncomputable abbrev pm_wishes : List Str := ["instrs"]
noncomputable def bd_wishes : List Stmt := fBody (topAt 47)
noncomputable def sc_wishes : Scope := fScope (topAt 47)
theorem F_wishes : FnOk nm_wishes sc_wishes := ⟨by decide +kernel, by decide +kernel⟩
noncomputable abbrev nm_RF_init : List Str := ["self"]
noncomputable abbrev pm_RF_init : List Str := ["self"]
noncomputable def bd_RF_init : List Stmt := fBody (cAt 48 0)
noncomputable def sc_RF_init : Scope := fScope (cAt 48 0)
theorem F_RF_init : FnOk nm_RF_init sc_RF_init := ⟨by decide +kernel, by decide +kernel⟩
noncomputable abbrev nm_occupy : List Str := ["self", "register", "occupation"]
noncomputable abbrev pm_occupy : List Str := ["self", "register", "occupation"]
noncomputable def bd_occupy : List Stmt := fBody (cAt 48 1)
noncomputable def sc_occupy : Scope := fScope (cAt 48 1)
theorem F_occupy : FnOk nm_occupy sc_occupy := ⟨by decide +kernel, by decide +kernel⟩
noncomputable abbrev nm_is_free : List Str := ["self", "register", "occupation", "other"]
noncomputable abbrev pm_is_free : List Str := ["self", "register", "occupation"]
noncomputable def bd_is_free : List Stmt := fBody (cAt 48 2)
noncomputable def sc_is_free : Scope := fScope (cAt 48 2)
theorem F_is_free : FnOk nm_is_free sc_is_free := ⟨by decide +kernel, by decide +kernel⟩
noncomputable abbrev nm_wished : List Str := ["self", "occupation", "operands", "operand", "register"]
noncomputable abbrev pm_wished : List Str := ["self", "occupation", "operands"]
noncomputable def bd_wished : List Stmt := fBody (cAt 48 3)
noncomputable def sc_wished : Scope := fScope (cAt 48 3)
theorem F_wished : FnOk nm_wished sc_wished := ⟨by decide +kernel, by decide +kernel⟩
noncomputable abbrev nm_place : List Str := ["self", "occupation", "operands", "register"]
noncomputable abbrev pm_place : List Str := ["self", "occupation", "operands"]
noncomputable def bd_place : List Stmt := fBody (cAt 48 4)
noncomputable def sc_place : Scope := fScope (cAt 48 4)
theorem F_place : FnOk nm_place sc_place := ⟨by decide +kernel, by decide +kernel⟩
noncomputable abbrev nm_real_operand : List Str := ["operand", "home"]
noncomputable abbrev pm_real_operand : List Str := ["operand", "home"]
noncomputable def bd_real_operand : List Stmt := fBody (topAt 50)
noncomputable def sc_real_operand : Scope := fScope (topAt 50)
theorem F_real_operand : FnOk nm_real_operand sc_real_operand := ⟨by decide +kernel, by decide +kernel⟩
noncomputable abbrev nm_allocate : List Str := ["symbols", "instrs", "arity", "limit", "file", "temporaries", "taken", "wanted", "real", "instruction", "parts", "operand"]
noncomputable abbrev pm_allocate : List Str := ["symbols", "instrs", "arity", "limit"]
noncomputable def bd_allocate : List Stmt := fBody (topAt 51)
noncomputable def sc_allocate : Scope := fScope (topAt 51)
theorem F_allocate : FnOk nm_allocate sc_allocate := ⟨by decide +kernel, by decide +kernel⟩
noncomputable abbrev nm_greatest : List Str := ["instrs", "most", "instruction", "role", "operand"]
noncomputable abbrev pm_greatest : List Str := ["instrs"]
noncomputable def bd_greatest : List Stmt := fBody (topAt 52)
noncomputable def sc_greatest : Scope := fScope (topAt 52)
theorem F_greatest : FnOk nm_greatest sc_greatest := ⟨by decide +kernel, by decide +kernel⟩
noncomputable abbrev nm_l_digit : List Str := ["tape", "limit", "cell", "figure", "rest"]
noncomputable abbrev pm_l_digit : List Str := ["tape", "limit"]
noncomputable def bd_l_digit : List Stmt := fBody (topAt 54)
noncomputable def sc_l_digit : Scope := fScope (topAt 54)
theorem F_l_digit : FnOk nm_l_digit sc_l_digit := ⟨by decide +kernel, by decide +kernel⟩
noncomputable abbrev nm_l_tree : List Str := ["tape", "left", "parts", "lap", "inner"]
noncomputable abbrev pm_l_tree : List Str := ["tape", "left"]
noncomputable def bd_l_tree : List Stmt := fBody (topAt 55)
noncomputable def sc_l_tree : Scope := fScope (topAt 55)
theorem F_l_tree : FnOk nm_l_tree sc_l_tree := ⟨by decide +kernel, by decide +kernel⟩
noncomputable abbrev nm_l_nested : List Str := ["tree"]
noncomputable abbrev pm_l_nested : List Str := ["tree"]
noncomputable def bd_l_nested : List Stmt := fBody (topAt 56)
noncomputable def sc_l_nested : Scope := fScope (topAt 56)
theorem F_l_nested : FnOk nm_l_nested sc_l_nested := ⟨by decide +kernel, by decide +kernel⟩
noncomputable abbrev nm_l_totals : List Str := ["tree", "rows", "compounds_", "part", "inner_rows", "inner_compounds"]
noncomputable abbrev pm_l_totals : List Str := ["tree"]
noncomputable def bd_l_totals : List Stmt := fBody (topAt 57)
noncomputable def sc_l_totals : Scope := fScope (topAt 57)
theorem F_l_totals : FnOk nm_l_totals sc_l_totals := ⟨by decide +kernel, by decide +kernel⟩
noncomputable abbrev nm_l_apart : List Str := ["tree", "parts", "most", "spot"]
noncomputable abbrev pm_l_apart : List Str := ["tree"]
noncomputable def bd_l_apart : List Stmt := fBody (topAt 58)
noncomputable def sc_l_apart : Scope := fScope (topAt 58)
theorem F_l_apart : FnOk nm_l_apart sc_l_apart := ⟨by decide +kernel, by decide +kernel⟩
noncomputable abbrev nm_l_together : List Str := ["tree", "parts", "most", "spot"]
noncomputable abbrev pm_l_together : List Str := ["tree"]
noncomputable def bd_l_together : List Stmt := fBody (topAt 59)
noncomputable def sc_l_together : Scope := fScope (topAt 59)
theorem F_l_together : FnOk nm_l_together sc_l_together := ⟨by decide +kernel, by decide +kernel⟩
noncomputable abbrev nm_l_right : List Str := ["names", "code", "tree", "due", "found", "row", "part"]
noncomputable abbrev pm_l_right : List Str := ["names", "code", "tree", "due"]
noncomputable def bd_l_right : List Stmt := fBody (topAt 60)
noncomputable def sc_l_right : Scope := fScope (topAt 60)
theorem F_l_right : FnOk nm_l_right sc_l_right := ⟨by decide +kernel, by decide +kernel⟩
noncomputable abbrev nm_law : List Str := ["script", "tape", "names", "tree", "clause_", "plan", "taker", "maker"]
noncomputable abbrev pm_law : List Str := ["script"]
noncomputable def bd_law : List Stmt := fBody (topAt 61)
noncomputable def sc_law : Scope := fScope (topAt 61)
theorem F_law : FnOk nm_law sc_law := ⟨by decide +kernel, by decide +kernel⟩
/-- what is asked of the written part of the heap -/
structure KF (K : Frag) : Prop where
  f_fixed_atoms : FnAt K 60 pm_fixed_atoms bd_fixed_atoms sc_fixed_atoms
  f_fixed_functors : FnAt K 67 pm_fixed_functors bd_fixed_functors sc_fixed_functors
  s_154_texts : storeOk' K 154 "texts" = true
  s_154_atom_numbers : storeOk' K 154 "atom_numbers" = true
  s_154_functors : storeOk' K 154 "functors" = true
  s_154_functor_numbers : storeOk' K 154 "functor_numbers" = true
  m_atom : methOk K 154 "atom" 88 = true
  g_fixed_atoms : gOk K "fixed_atoms" 60 = true
  m_func : methOk K 154 "func" 109 = true
  g_fixed_functors : gOk K "fixed_functors" 67 = true
  f_Sym_init : FnAt K 81 pm_Sym_init bd_Sym_init sc_Sym_init
  a_154_atom_numbers : attrOk K 154 "atom_numbers" = true
  a_154_texts : attrOk K 154 "texts" = true
  n_len : gNone K "len"
  f_atom : FnAt K 88 pm_atom bd_atom sc_atom
  a_154_functor_numbers : attrOk K 154 "functor_numbers" = true
  a_154_functors : attrOk K 154 "functors" = true
  f_functor : FnAt K 102 pm_functor bd_functor sc_functor
  m_functor : methOk K 154 "functor" 102 = true
  f_func : FnAt K 109 pm_func bd_func sc_func
  i_CON : gInt K "CON" 4
  i_INT : gInt K "INT" 5
  f_constant_cell : FnAt K 165 pm_constant_cell bd_constant_cell sc_constant_cell
  s_306_kernel : storeOk' K 306 "kernel" = true
  s_306_plan : storeOk' K 306 "plan" = true
  s_306_code : storeOk' K 306 "code" = true
  n_set : gNone K "set"
  s_306_seen : storeOk' K 306 "seen" = true
  s_306_local : storeOk' K 306 "local" = true
  a_367_count : attrOk K 367 "count" = true
  s_306_next_temporary : storeOk' K 306 "next_temporary" = true
  f_CS_init : FnAt K 179 pm_CS_init bd_CS_init sc_CS_init
  a_306_code : attrOk K 306 "code" = true
  f_emit : FnAt K 186 pm_emit bd_emit sc_emit
  a_306_next_temporary : attrOk K 306 "next_temporary" = true
  f_new_temporary : FnAt K 193 pm_new_temporary bd_new_temporary sc_new_temporary
  i_F_DOT : gInt K "F_DOT" 0
  m_emit : methOk K 306 "emit" 186 = true
  m_match_arguments : methOk K 306 "match_arguments" 249 = true
  f_match : FnAt K 242 pm_match bd_match sc_match
  m_new_temporary : methOk K 306 "new_temporary" 193 = true
  g_constant_cell : gOk K "constant_cell" 165 = true
  f_match_arguments : FnAt K 249 pm_match_arguments bd_match_arguments sc_match_arguments
  m_wait_for_nested : methOk K 306 "wait_for_nested" 282 = true
  m_take_nested : methOk K 306 "take_nested" 289 = true
  m_set_arguments : methOk K 306 "set_arguments" 296 = true
  f_build : FnAt K 275 pm_build bd_build sc_build
  f_wait_for_nested : FnAt K 282 pm_wait_for_nested bd_wait_for_nested sc_wait_for_nested
  n_list : gNone K "list"
  f_take_nested : FnAt K 289 pm_take_nested bd_take_nested sc_take_nested
  f_set_arguments : FnAt K 296 pm_set_arguments bd_set_arguments sc_set_arguments
  s_367_functor : storeOk' K 367 "functor" = true
  s_367_args : storeOk' K 367 "args" = true
  s_367_goals : storeOk' K 367 "goals" = true
  s_367_count : storeOk' K 367 "count" = true
  f_KC_init : FnAt K 364 pm_KC_init bd_KC_init sc_KC_init
  s_458_infos : storeOk' K 458 "infos" = true
  s_458_chunks : storeOk' K 458 "chunks" = true
  s_458_needs_env : storeOk' K 458 "needs_env" = true
  s_458_env_size : storeOk' K 458 "env_size" = true
  s_458_live_after : storeOk' K 458 "live_after" = true
  f_CP_init : FnAt K 420 pm_CP_init bd_CP_init sc_CP_init
  f_chunk_numbers : FnAt K 469 pm_chunk_numbers bd_chunk_numbers sc_chunk_numbers
  s_500_infos : storeOk' K 500 "infos" = true
  f_Sv_init : FnAt K 483 pm_Sv_init bd_Sv_init sc_Sv_init
  f_terms : FnAt K 497 pm_terms bd_terms sc_terms
  n_sorted : gNone K "sorted"
  f_slot_order : FnAt K 518 pm_slot_order bd_slot_order sc_slot_order
  a_367_goals : attrOk K 367 "goals" = true
  g_chunk_numbers : gOk K "chunk_numbers" 469 = true
  g_Survey : gOk K "Survey" 500 = true
  a_367_args : attrOk K 367 "args" = true
  m_terms : methOk K 500 "terms" 497 = true
  n_range : gNone K "range"
  a_500_infos : attrOk K 500 "infos" = true
  g_slot_order : gOk K "slot_order" 518 = true
  g_ClausePlan : gOk K "ClausePlan" 458 = true
  f_classify : FnAt K 525 pm_classify bd_classify sc_classify
  i_READS : gInt K "READS" 1
  i_WRITES : gInt K "WRITES" 2
  i_UPDATES : gInt K "UPDATES" 3
  f_operand_roles : FnAt K 532 pm_operand_roles bd_operand_roles sc_operand_roles
  f_ends_arguments : FnAt K 539 pm_ends_arguments bd_ends_arguments sc_ends_arguments
  s_563_kind : storeOk' K 563 "kind" = true
  s_563_number : storeOk' K 563 "number" = true
  s_563_start : storeOk' K 563 "start" = true
  s_563_stop : storeOk' K 563 "stop" = true
  f_Oc_init : FnAt K 553 pm_Oc_init bd_Oc_init sc_Oc_init
  a_563_start : attrOk K 563 "start" = true
  a_563_stop : attrOk K 563 "stop" = true
  f_overlaps : FnAt K 560 pm_overlaps bd_overlaps sc_overlaps
  g_ends_arguments : gOk K "ends_arguments" 539 = true
  g_Occupation : gOk K "Occupation" 563 = true
  g_operand_roles : gOk K "operand_roles" 532 = true
  f_intervals : FnAt K 572 pm_intervals bd_intervals sc_intervals
  f_wishes : FnAt K 579 pm_wishes bd_wishes sc_wishes
  s_624_taken : storeOk' K 624 "taken" = true
  s_624_home : storeOk' K 624 "home" = true
  f_RF_init : FnAt K 593 pm_RF_init bd_RF_init sc_RF_init
  a_624_taken : attrOk K 624 "taken" = true
  f_occupy : FnAt K 600 pm_occupy bd_occupy sc_occupy
  m_overlaps : methOk K 563 "overlaps" 560 = true
  f_is_free : FnAt K 607 pm_is_free bd_is_free sc_is_free
  f_wished : FnAt K 614 pm_wished bd_wished sc_wished
  m_wished : methOk K 624 "wished" 614 = true
  m_is_free : methOk K 624 "is_free" 607 = true
  m_occupy : methOk K 624 "occupy" 600 = true
  a_624_home : attrOk K 624 "home" = true
  a_563_number : attrOk K 563 "number" = true
  f_place : FnAt K 621 pm_place bd_place sc_place
  n_isinstance : gNone K "isinstance"
  n_tuple : gNone K "tuple"
  f_real_operand : FnAt K 642 pm_real_operand bd_real_operand sc_real_operand
  g_RegisterFile : gOk K "RegisterFile" 624 = true
  a_563_kind : attrOk K 563 "kind" = true
  g_intervals : gOk K "intervals" 572 = true
  g_wishes : gOk K "wishes" 579 = true
  m_place : methOk K 624 "place" 621 = true
  g_by_start : gOk K "by_start" 635 = true
  g_real_operand : gOk K "real_operand" 642 = true
  g_greatest : gOk K "greatest" 656 = true
  f_allocate : FnAt K 649 pm_allocate bd_allocate sc_allocate
  f_greatest : FnAt K 656 pm_greatest bd_greatest sc_greatest
  f_l_digit : FnAt K 663 pm_l_digit bd_l_digit sc_l_digit
  g_l_digit : gOk K "_law_digit" 663 = true
  g_l_tree : gOk K "_law_tree" 670 = true
  i_F_MINUS1 : gInt K "F_MINUS1" 12
  i_F_CALL3 : gInt K "F_CALL3" 26
  f_l_tree : FnAt K 670 pm_l_tree bd_l_tree sc_l_tree
  f_l_nested : FnAt K 675 pm_l_nested bd_l_nested sc_l_nested
  g_l_totals : gOk K "_law_totals" 682 = true
  g_l_nested : gOk K "_law_nested" 675 = true
  f_l_totals : FnAt K 682 pm_l_totals bd_l_totals sc_l_totals
  n_max : gNone K "max"
  g_l_apart : gOk K "_law_apart" 689 = true
  f_l_apart : FnAt K 689 pm_l_apart bd_l_apart sc_l_apart
  g_l_together : gOk K "_law_together" 696 = true
  f_l_together : FnAt K 696 pm_l_together bd_l_together sc_l_together
  g_allocate : gOk K "allocate" 649 = true
  f_l_right : FnAt K 703 pm_l_right bd_l_right sc_l_right
  g_Symbols : gOk K "Symbols" 154 = true
  i_F_CALL1 : gInt K "F_CALL1" 24
  g_KernelClause : gOk K "KernelClause" 367 = true
  g_classify : gOk K "classify" 525 = true
  g_Builder : gOk K "Builder" 306 = true
  m_match : methOk K 306 "match" 242 = true
  g_l_right : gOk K "_law_right" 703 = true
  m_build : methOk K 306 "build" 275 = true
  f_law : FnAt K 710 pm_law bd_law sc_law
  c_154 : clsOk K 154 81 = true
  c_306 : clsOk K 306 179 = true
  c_367 : clsOk K 367 364 = true
  c_458 : clsOk K 458 420 = true
  c_500 : clsOk K 500 483 = true
  c_563 : clsOk K 563 553 = true
  c_624 : clsOk K 624 593 = true
section
variable {c : Cx} {n : Nat}
noncomputable def w_fixed_atoms : WS := W.seq (W.ret (W.tup (W.consts pv_fixed_atoms))) W.skip
theorem sm_fixed_atoms (kf : KF c.K)  : SS c n nm_fixed_atoms sc_fixed_atoms bd_fixed_atoms (w_fixed_atoms ) :=
  have F := F_fixed_atoms
  SS.cons (SX.ret (SE.tup (SEs.c2 (ps := pv_fixed_atoms) (by kernel_rfl)))) SS.nil
noncomputable def w_fixed_functors : WS := W.seq (W.ret (W.tup (W.consts pv_fixed_functors))) W.skip
theorem sm_fixed_functors (kf : KF c.K)  : SS c n nm_fixed_functors sc_fixed_functors bd_fixed_functors (w_fixed_functors ) :=
  have F := F_fixed_functors
  SS.cons (SX.ret (SE.tup (SEs.c2 (ps := pv_fixed_functors) (by kernel_rfl)))) SS.nil
noncomputable def w_Sym_init (S_m_atom S_fixed_atoms S_m_func S_fixed_functors : Spec) : WS := (W.seq (W.setA 154 6 (W.loc 0) (W.list W.nil))
    (W.seq (W.setA 154 7 (W.loc 0) W.dictDk)
    (W.seq (W.setA 154 8 (W.loc 0) (W.list W.nil))
    (W.seq (W.setA 154 9 (W.loc 0) W.dictDt)
    (W.seq (W.for (W.call S_fixed_atoms W.nil) (W.tName 1) (W.seq (W.expr (W.meth 154 S_m_atom (W.loc 0) (W.cons (W.loc 1) W.nil)))
    W.skip))
    (W.seq (W.for (W.call S_fixed_functors W.nil) (W.tName 2) (W.seq (W.expr (W.meth 154 S_m_func (W.loc 0) (W.cons (W.subT (W.loc 2) (W.const (.int 0))) (W.cons (W.subT (W.loc 2) (W.const (.int 1))) W.nil))))
    W.skip))
    W.skip))))))
theorem sm_Sym_init (kf : KF c.K) {S_m_atom S_fixed_atoms S_m_func S_fixed_functors : Spec} (h_m_atom : CallOk c n (.ref 88) S_m_atom) (h_fixed_atoms : CallOk c n (.ref 60) S_fixed_atoms) (h_m_func : CallOk c n (.ref 109) S_m_func) (h_fixed_functors : CallOk c n (.ref 67) S_fixed_functors) : SS c n nm_Sym_init sc_Sym_init bd_Sym_init (w_Sym_init S_m_atom S_fixed_atoms S_m_func S_fixed_functors) :=
  have F := F_Sym_init
  (SS.cons (SX.setA (k := 6) (by decide) rfl kf.s_154_texts (fun _ => rfl) (SE.l (i := 0) F (by first | kernel_rfl | decide +kernel)) (SE.list SEs.nil))
    (SS.cons (SX.setA (k := 7) (by decide) rfl kf.s_154_atom_numbers (fun _ => rfl) (SE.l (i := 0) F (by first | kernel_rfl | decide +kernel)) SE.dictDk)
    (SS.cons (SX.setA (k := 8) (by decide) rfl kf.s_154_functors (fun _ => rfl) (SE.l (i := 0) F (by first | kernel_rfl | decide +kernel)) (SE.list SEs.nil))
    (SS.cons (SX.setA (k := 9) (by decide) rfl kf.s_154_functor_numbers (fun _ => rfl) (SE.l (i := 0) F (by first | kernel_rfl | decide +kernel)) SE.dictDt)
    (SS.cons (SX.for (fun _ _ => rfl) (SE.cK F kf.g_fixed_atoms (by first | kernel_rfl | decide +kernel) (fun _ => rfl) SEs.nil h_fixed_atoms) (SA.nm (i := 1) F (by first | kernel_rfl | decide +kernel)) (SS.cons (SX.e F (fun _ => rfl) (SE.me kf.m_atom (by first | kernel_rfl | decide +kernel) (fun _ => rfl) (fun _ => rfl) (by decide) rfl (SE.l (i := 0) F (by first | kernel_rfl | decide +kernel)) (SEs.cons (star_ne rfl) (SE.l (i := 1) F (by first | kernel_rfl | decide +kernel)) SEs.nil) h_m_atom))
    SS.nil))
    (SS.cons (SX.for (fun _ _ => rfl) (SE.cK F kf.g_fixed_functors (by first | kernel_rfl | decide +kernel) (fun _ => rfl) SEs.nil h_fixed_functors) (SA.nm (i := 2) F (by first | kernel_rfl | decide +kernel)) (SS.cons (SX.e F (fun _ => rfl) (SE.me kf.m_func (by first | kernel_rfl | decide +kernel) (fun _ => rfl) (fun _ => rfl) (by decide) rfl (SE.l (i := 0) F (by first | kernel_rfl | decide +kernel)) (SEs.cons (star_ne rfl) (SE.subT (fun _ _ => rfl) (SE.l (i := 2) F (by first | kernel_rfl | decide +kernel)) SE.int) (SEs.cons (star_ne rfl) (SE.subT (fun _ _ => rfl) (SE.l (i := 2) F (by first | kernel_rfl | decide +kernel)) SE.int) SEs.nil)) h_m_func))
    SS.nil))
    SS.nil))))))
noncomputable def w_atom : WS := (W.seq (W.asg 2 (W.methB isDk (Sp.fn gGetDk) (W.attr 154 7 (W.loc 0)) (W.cons (W.loc 1) (W.cons (W.neg (W.const (.int 1))) W.nil))))
    (W.seq (W.ite (W.cmpT gGe (W.loc 2) (W.const (.int 0))) (W.seq (W.ret (W.loc 2))
    W.skip) W.skip)
    (W.seq (W.asg 3 (W.call (Sp.fn gLen) (W.cons (W.attr 154 6 (W.loc 0)) W.nil)))
    (W.seq (W.expr (W.methB isL Sp.append (W.attr 154 6 (W.loc 0)) (W.cons (W.loc 1) W.nil)))
    (W.seq (W.putDk (W.attr 154 7 (W.loc 0)) (W.loc 1) (W.loc 3))
    (W.seq (W.ret (W.loc 3))
    W.skip))))))
theorem sm_atom (kf : KF c.K)  : SS c n nm_atom sc_atom bd_atom (w_atom ) :=
  have F := F_atom
  (SS.cons (SX.a (i := 2) F (by first | kernel_rfl | decide +kernel) (fun _ => rfl) (SE.mGetDk (fun _ => rfl) (by decide) rfl (SE.attr (k := 7) (fun _ => rfl) (by decide) rfl kf.a_154_atom_numbers (SE.l (i := 0) F (by first | kernel_rfl | decide +kernel))) (SEs.cons (star_ne rfl) (SE.l (i := 1) F (by first | kernel_rfl | decide +kernel)) (SEs.cons (star_ne rfl) (SE.neg SE.int) SEs.nil)) (fun _ => rfl)))
    (SS.cons (SX.ite (ST.cmp cmp_ge (SE.l (i := 2) F (by first | kernel_rfl | decide +kernel)) SE.int rfl) (SS.cons (SX.ret (SE.l (i := 2) F (by first | kernel_rfl | decide +kernel)))
    SS.nil) SS.nil)
    (SS.cons (SX.a (i := 3) F (by first | kernel_rfl | decide +kernel) (fun _ => rfl) (SE.cB F kf.n_len (by first | kernel_rfl | decide +kernel) (by first | kernel_rfl | decide +kernel) (by first | kernel_rfl | decide +kernel) (fun _ => rfl) (SEs.cons (star_ne rfl) (SE.attr (k := 6) (fun _ => rfl) (by decide) rfl kf.a_154_texts (SE.l (i := 0) F (by first | kernel_rfl | decide +kernel))) SEs.nil) ok_len))
    (SS.cons (SX.e F (fun _ => rfl) (SE.mApp (fun _ => rfl) (by decide) rfl (SE.attr (k := 6) (fun _ => rfl) (by decide) rfl kf.a_154_texts (SE.l (i := 0) F (by first | kernel_rfl | decide +kernel))) (SEs.cons (star_ne rfl) (SE.l (i := 1) F (by first | kernel_rfl | decide +kernel)) SEs.nil) (fun _ => rfl)))
    (SS.cons (SX.putDk (fun _ => rfl) (SE.attr (k := 7) (fun _ => rfl) (by decide) rfl kf.a_154_atom_numbers (SE.l (i := 0) F (by first | kernel_rfl | decide +kernel))) (SE.l (i := 1) F (by first | kernel_rfl | decide +kernel)) (SE.l (i := 3) F (by first | kernel_rfl | decide +kernel)))
    (SS.cons (SX.ret (SE.l (i := 3) F (by first | kernel_rfl | decide +kernel)))
    SS.nil))))))
noncomputable def w_functor : WS := (W.seq (W.asg 3 (W.tup (W.cons (W.loc 1) (W.cons (W.loc 2) W.nil))))
    (W.seq (W.asg 4 (W.methB isDt (Sp.fn gGetDt) (W.attr 154 9 (W.loc 0)) (W.cons (W.loc 3) (W.cons (W.neg (W.const (.int 1))) W.nil))))
    (W.seq (W.ite (W.cmpT gGe (W.loc 4) (W.const (.int 0))) (W.seq (W.ret (W.loc 4))
    W.skip) W.skip)
    (W.seq (W.asg 5 (W.call (Sp.fn gLen) (W.cons (W.attr 154 8 (W.loc 0)) W.nil)))
    (W.seq (W.expr (W.methB isL Sp.append (W.attr 154 8 (W.loc 0)) (W.cons (W.loc 3) W.nil)))
    (W.seq (W.putDt (W.attr 154 9 (W.loc 0)) (W.loc 3) (W.loc 5))
    (W.seq (W.ret (W.loc 5))
    W.skip)))))))
theorem sm_functor (kf : KF c.K)  : SS c n nm_functor sc_functor bd_functor (w_functor ) :=
  have F := F_functor
  (SS.cons (SX.a (i := 3) F (by first | kernel_rfl | decide +kernel) (fun _ => rfl) (SE.tup (SEs.cons (star_ne rfl) (SE.l (i := 1) F (by first | kernel_rfl | decide +kernel)) (SEs.cons (star_ne rfl) (SE.l (i := 2) F (by first | kernel_rfl | decide +kernel)) SEs.nil))))
    (SS.cons (SX.a (i := 4) F (by first | kernel_rfl | decide +kernel) (fun _ => rfl) (SE.mGetDt (fun _ => rfl) (by decide) rfl (SE.attr (k := 9) (fun _ => rfl) (by decide) rfl kf.a_154_functor_numbers (SE.l (i := 0) F (by first | kernel_rfl | decide +kernel))) (SEs.cons (star_ne rfl) (SE.l (i := 3) F (by first | kernel_rfl | decide +kernel)) (SEs.cons (star_ne rfl) (SE.neg SE.int) SEs.nil)) (fun _ => rfl)))
    (SS.cons (SX.ite (ST.cmp cmp_ge (SE.l (i := 4) F (by first | kernel_rfl | decide +kernel)) SE.int rfl) (SS.cons (SX.ret (SE.l (i := 4) F (by first | kernel_rfl | decide +kernel)))
    SS.nil) SS.nil)
    (SS.cons (SX.a (i := 5) F (by first | kernel_rfl | decide +kernel) (fun _ => rfl) (SE.cB F kf.n_len (by first | kernel_rfl | decide +kernel) (by first | kernel_rfl | decide +kernel) (by first | kernel_rfl | decide +kernel) (fun _ => rfl) (SEs.cons (star_ne rfl) (SE.attr (k := 8) (fun _ => rfl) (by decide) rfl kf.a_154_functors (SE.l (i := 0) F (by first | kernel_rfl | decide +kernel))) SEs.nil) ok_len))
    (SS.cons (SX.e F (fun _ => rfl) (SE.mApp (fun _ => rfl) (by decide) rfl (SE.attr (k := 8) (fun _ => rfl) (by decide) rfl kf.a_154_functors (SE.l (i := 0) F (by first | kernel_rfl | decide +kernel))) (SEs.cons (star_ne rfl) (SE.l (i := 3) F (by first | kernel_rfl | decide +kernel)) SEs.nil) (fun _ => rfl)))
    (SS.cons (SX.putDt (fun _ => rfl) (SE.attr (k := 9) (fun _ => rfl) (by decide) rfl kf.a_154_functor_numbers (SE.l (i := 0) F (by first | kernel_rfl | decide +kernel))) (SE.l (i := 3) F (by first | kernel_rfl | decide +kernel)) (SE.l (i := 5) F (by first | kernel_rfl | decide +kernel)))
    (SS.cons (SX.ret (SE.l (i := 5) F (by first | kernel_rfl | decide +kernel)))
    SS.nil)))))))
noncomputable def w_func (S_m_atom S_m_functor : Spec) : WS := (W.seq (W.ret (W.methF 154 "functor" S_m_functor (W.loc 0) (W.cons (W.meth 154 S_m_atom (W.loc 0) (W.cons (W.loc 1) W.nil)) (W.cons (W.loc 2) W.nil))))
    W.skip)
theorem sm_func (kf : KF c.K) {S_m_atom S_m_functor : Spec} (h_m_atom : CallOk c n (.ref 88) S_m_atom) (h_m_functor : CallOk c n (.ref 102) S_m_functor) : SS c n nm_func sc_func bd_func (w_func S_m_atom S_m_functor) :=
  have F := F_func
  (SS.cons (SX.ret (SE.mf kf.m_functor (fun _ => rfl) (fun _ => rfl) (by decide) rfl (SE.l (i := 0) F (by first | kernel_rfl | decide +kernel)) (SEs.cons (star_ne rfl) (SE.me kf.m_atom (by first | kernel_rfl | decide +kernel) (fun _ => rfl) (fun _ => rfl) (by decide) rfl (SE.l (i := 0) F (by first | kernel_rfl | decide +kernel)) (SEs.cons (star_ne rfl) (SE.l (i := 1) F (by first | kernel_rfl | decide +kernel)) SEs.nil) h_m_atom) (SEs.cons (star_ne rfl) (SE.l (i := 2) F (by first | kernel_rfl | decide +kernel)) SEs.nil)) h_m_functor))
    SS.nil)
noncomputable def w_constant_cell : WS := (W.seq (W.ite (W.cmpT gEq (W.subT (W.loc 0) (W.const (.int 0))) (W.const (.str "a"))) (W.seq (W.ret (W.tup (W.cons (W.const (.int 4)) (W.cons (W.subT (W.loc 0) (W.const (.int 1))) W.nil))))
    W.skip) W.skip)
    (W.seq (W.ret (W.tup (W.cons (W.const (.int 5)) (W.cons (W.subT (W.loc 0) (W.const (.int 1))) W.nil))))
    W.skip))
theorem sm_constant_cell (kf : KF c.K)  : SS c n nm_constant_cell sc_constant_cell bd_constant_cell (w_constant_cell ) :=
  have F := F_constant_cell
  (SS.cons (SX.ite (ST.cmp cmp_eq (SE.subT (fun _ _ => rfl) (SE.l (i := 0) F (by first | kernel_rfl | decide +kernel)) SE.int) SE.str rfl) (SS.cons (SX.ret (SE.tup (SEs.cons (star_ne rfl) (SE.gI F (by first | kernel_rfl | decide +kernel) kf.i_CON) (SEs.cons (star_ne rfl) (SE.subT (fun _ _ => rfl) (SE.l (i := 0) F (by first | kernel_rfl | decide +kernel)) SE.int) SEs.nil))))
    SS.nil) SS.nil)
    (SS.cons (SX.ret (SE.tup (SEs.cons (star_ne rfl) (SE.gI F (by first | kernel_rfl | decide +kernel) kf.i_INT) (SEs.cons (star_ne rfl) (SE.subT (fun _ _ => rfl) (SE.l (i := 0) F (by first | kernel_rfl | decide +kernel)) SE.int) SEs.nil))))
    SS.nil))
noncomputable def w_CS_init : WS := (W.seq (W.setA 306 0 (W.loc 0) (W.loc 1))
    (W.seq (W.setA 306 1 (W.loc 0) (W.loc 2))
    (W.seq (W.setA 306 2 (W.loc 0) (W.list W.nil))
    (W.seq (W.setA 306 3 (W.loc 0) (W.call Sp.set0 W.nil))
    (W.seq (W.setA 306 4 (W.loc 0) (W.call Sp.set0 W.nil))
    (W.seq (W.setA 306 5 (W.loc 0) (W.attr 367 13 (W.loc 1)))
    W.skip))))))
theorem sm_CS_init (kf : KF c.K)  : SS c n nm_CS_init sc_CS_init bd_CS_init (w_CS_init ) :=
  have F := F_CS_init
  (SS.cons (SX.setA (k := 0) (by decide) rfl kf.s_306_kernel (fun _ => rfl) (SE.l (i := 0) F (by first | kernel_rfl | decide +kernel)) (SE.l (i := 1) F (by first | kernel_rfl | decide +kernel)))
    (SS.cons (SX.setA (k := 1) (by decide) rfl kf.s_306_plan (fun _ => rfl) (SE.l (i := 0) F (by first | kernel_rfl | decide +kernel)) (SE.l (i := 2) F (by first | kernel_rfl | decide +kernel)))
    (SS.cons (SX.setA (k := 2) (by decide) rfl kf.s_306_code (fun _ => rfl) (SE.l (i := 0) F (by first | kernel_rfl | decide +kernel)) (SE.list SEs.nil))
    (SS.cons (SX.setA (k := 3) (by decide) rfl kf.s_306_seen (fun _ => rfl) (SE.l (i := 0) F (by first | kernel_rfl | decide +kernel)) (SE.cT F kf.n_set (by first | kernel_rfl | decide +kernel) (by first | kernel_rfl | decide +kernel) (by first | kernel_rfl | decide +kernel) (fun _ => rfl) SEs.nil ok_set))
    (SS.cons (SX.setA (k := 4) (by decide) rfl kf.s_306_local (fun _ => rfl) (SE.l (i := 0) F (by first | kernel_rfl | decide +kernel)) (SE.cT F kf.n_set (by first | kernel_rfl | decide +kernel) (by first | kernel_rfl | decide +kernel) (by first | kernel_rfl | decide +kernel) (fun _ => rfl) SEs.nil ok_set))
    (SS.cons (SX.setA (k := 5) (by decide) rfl kf.s_306_next_temporary (fun _ => rfl) (SE.l (i := 0) F (by first | kernel_rfl | decide +kernel)) (SE.attr (k := 13) (fun _ => rfl) (by decide) rfl kf.a_367_count (SE.l (i := 1) F (by first | kernel_rfl | decide +kernel))))
    SS.nil))))))
noncomputable def w_emit : WS := (W.seq (W.expr (W.methB isL Sp.append (W.attr 306 2 (W.loc 0)) (W.cons (W.loc 1) W.nil)))
    W.skip)
theorem sm_emit (kf : KF c.K)  : SS c n nm_emit sc_emit bd_emit (w_emit ) :=
  have F := F_emit
  (SS.cons (SX.e F (fun _ => rfl) (SE.mApp (fun _ => rfl) (by decide) rfl (SE.attr (k := 2) (fun _ => rfl) (by decide) rfl kf.a_306_code (SE.l (i := 0) F (by first | kernel_rfl | decide +kernel))) (SEs.cons (star_ne rfl) (SE.l (i := 1) F (by first | kernel_rfl | decide +kernel)) SEs.nil) (fun _ => rfl)))
    SS.nil)
noncomputable def w_new_temporary : WS := (W.seq (W.asg 1 (W.attr 306 5 (W.loc 0)))
    (W.seq (W.setA 306 5 (W.loc 0) (W.bin gAdd (W.loc 1) (W.const (.int 1))))
    (W.seq (W.ret (W.tup (W.cons (W.const (.str "t")) (W.cons (W.loc 1) W.nil))))
    W.skip)))
theorem sm_new_temporary (kf : KF c.K)  : SS c n nm_new_temporary sc_new_temporary bd_new_temporary (w_new_temporary ) :=
  have F := F_new_temporary
  (SS.cons (SX.a (i := 1) F (by first | kernel_rfl | decide +kernel) (fun _ => rfl) (SE.attr (k := 5) (fun _ => rfl) (by decide) rfl kf.a_306_next_temporary (SE.l (i := 0) F (by first | kernel_rfl | decide +kernel))))
    (SS.cons (SX.setA (k := 5) (by decide) rfl kf.s_306_next_temporary (fun _ => rfl) (SE.l (i := 0) F (by first | kernel_rfl | decide +kernel)) (SE.bin op_add (SE.l (i := 1) F (by first | kernel_rfl | decide +kernel)) SE.int))
    (SS.cons (SX.ret (SE.tup (SEs.cons (star_ne rfl) SE.str (SEs.cons (star_ne rfl) (SE.l (i := 1) F (by first | kernel_rfl | decide +kernel)) SEs.nil))))
    SS.nil)))
noncomputable def w_match (S_m_emit S_m_match_arguments : Spec) : WS := (W.seq (W.asg 3 (W.list (W.cons (W.tup (W.cons (W.loc 1) (W.cons (W.loc 2) W.nil))) W.nil)))
    (W.seq (W.while (W.cmpT gGt (W.call (Sp.fn gLen) (W.cons (W.loc 3) W.nil)) (W.const (.int 0))) (W.seq (W.asgT (W.tPair 4 5) (W.methB isL Sp.pop (W.loc 3) W.nil))
    (W.seq (W.ite (W.cmpT gEq (W.subT (W.loc 4) (W.const (.int 1))) (W.const (.int 0))) (W.seq (W.expr (W.meth 306 S_m_emit (W.loc 0) (W.cons (W.tup (W.cons (W.const (.str "get_list")) (W.cons (W.loc 5) W.nil))) W.nil)))
    W.skip) (W.seq (W.expr (W.meth 306 S_m_emit (W.loc 0) (W.cons (W.tup (W.cons (W.const (.str "get_structure")) (W.cons (W.subT (W.loc 4) (W.const (.int 1))) (W.cons (W.loc 5) W.nil)))) W.nil)))
    W.skip))
    (W.seq (W.expr (W.meth 306 S_m_match_arguments (W.loc 0) (W.cons (W.subT (W.loc 4) (W.const (.int 2))) (W.cons (W.loc 3) W.nil))))
    W.skip))))
    W.skip))
theorem sm_match (kf : KF c.K) {S_m_emit S_m_match_arguments : Spec} (h_m_emit : CallOk c n (.ref 186) S_m_emit) (h_m_match_arguments : CallOk c n (.ref 249) S_m_match_arguments) : SS c n nm_match sc_match bd_match (w_match S_m_emit S_m_match_arguments) :=
  have F := F_match
  (SS.cons (SX.a (i := 3) F (by first | kernel_rfl | decide +kernel) (fun _ => rfl) (SE.list (SEs.cons (star_ne rfl) (SE.tup (SEs.cons (star_ne rfl) (SE.l (i := 1) F (by first | kernel_rfl | decide +kernel)) (SEs.cons (star_ne rfl) (SE.l (i := 2) F (by first | kernel_rfl | decide +kernel)) SEs.nil))) SEs.nil)))
    (SS.cons (SX.while (ST.cmp cmp_gt (SE.cB F kf.n_len (by first | kernel_rfl | decide +kernel) (by first | kernel_rfl | decide +kernel) (by first | kernel_rfl | decide +kernel) (fun _ => rfl) (SEs.cons (star_ne rfl) (SE.l (i := 3) F (by first | kernel_rfl | decide +kernel)) SEs.nil) ok_len) SE.int rfl) (SS.cons (SX.asgT (fun _ => rfl) (fun _ => rfl) (SA.p (i := 4) (j := 5) F (by first | kernel_rfl | decide +kernel) (by first | kernel_rfl | decide +kernel)) (SE.mPop (fun _ => rfl) (by decide) rfl (SE.l (i := 3) F (by first | kernel_rfl | decide +kernel)) SEs.nil (fun _ => rfl)))
    (SS.cons (SX.ite (ST.cmp cmp_eq (SE.subT (fun _ _ => rfl) (SE.l (i := 4) F (by first | kernel_rfl | decide +kernel)) SE.int) (SE.gI F (by first | kernel_rfl | decide +kernel) kf.i_F_DOT) rfl) (SS.cons (SX.e F (fun _ => rfl) (SE.me kf.m_emit (by first | kernel_rfl | decide +kernel) (fun _ => rfl) (fun _ => rfl) (by decide) rfl (SE.l (i := 0) F (by first | kernel_rfl | decide +kernel)) (SEs.cons (star_ne rfl) (SE.tup (SEs.cons (star_ne rfl) SE.str (SEs.cons (star_ne rfl) (SE.l (i := 5) F (by first | kernel_rfl | decide +kernel)) SEs.nil))) SEs.nil) h_m_emit))
    SS.nil) (SS.cons (SX.e F (fun _ => rfl) (SE.me kf.m_emit (by first | kernel_rfl | decide +kernel) (fun _ => rfl) (fun _ => rfl) (by decide) rfl (SE.l (i := 0) F (by first | kernel_rfl | decide +kernel)) (SEs.cons (star_ne rfl) (SE.tup (SEs.cons (star_ne rfl) SE.str (SEs.cons (star_ne rfl) (SE.subT (fun _ _ => rfl) (SE.l (i := 4) F (by first | kernel_rfl | decide +kernel)) SE.int) (SEs.cons (star_ne rfl) (SE.l (i := 5) F (by first | kernel_rfl | decide +kernel)) SEs.nil)))) SEs.nil) h_m_emit))
    SS.nil))
    (SS.cons (SX.e F (fun _ => rfl) (SE.me kf.m_match_arguments (by first | kernel_rfl | decide +kernel) (fun _ => rfl) (fun _ => rfl) (by decide) rfl (SE.l (i := 0) F (by first | kernel_rfl | decide +kernel)) (SEs.cons (star_ne rfl) (SE.subT (fun _ _ => rfl) (SE.l (i := 4) F (by first | kernel_rfl | decide +kernel)) SE.int) (SEs.cons (star_ne rfl) (SE.l (i := 3) F (by first | kernel_rfl | decide +kernel)) SEs.nil)) h_m_match_arguments))
    SS.nil))))
    SS.nil))
noncomputable def w_match_arguments (S_m_new_temporary S_m_emit S_constant_cell : Spec) : WS := (W.seq (W.asg 3 (W.list W.nil))
    (W.seq (W.asg 4 (W.const (.int 0)))
    (W.seq (W.for (W.loc 1) (W.tName 5) (W.seq (W.ite (W.andT (W.cmpT gEq (W.subT (W.loc 5) (W.const (.int 0))) (W.const (.str "v"))) (W.andT W.bad (W.tt true))) W.bad W.skip)
    (W.seq (W.ite (W.cmpT gGt (W.loc 4) (W.const (.int 0))) W.bad W.skip)
    (W.seq (W.ite (W.cmpT gEq (W.subT (W.loc 5) (W.const (.int 0))) (W.const (.str "v"))) W.bad (W.seq (W.ite (W.cmpT gEq (W.subT (W.loc 5) (W.const (.int 0))) (W.const (.str "s"))) (W.seq (W.asg 6 (W.meth 306 S_m_new_temporary (W.loc 0) W.nil))
    (W.seq (W.expr (W.meth 306 S_m_emit (W.loc 0) (W.cons (W.tup (W.cons (W.const (.str "unify_variable")) (W.cons (W.loc 6) W.nil))) W.nil)))
    (W.seq (W.expr (W.methB isL Sp.append (W.loc 3) (W.cons (W.tup (W.cons (W.loc 5) (W.cons (W.loc 6) W.nil))) W.nil)))
    W.skip))) (W.seq (W.expr (W.meth 306 S_m_emit (W.loc 0) (W.cons (W.tup (W.cons (W.const (.str "unify_constant")) (W.cons (W.call S_constant_cell (W.cons (W.loc 5) W.nil)) W.nil))) W.nil)))
    W.skip))
    W.skip))
    W.skip))))
    (W.seq (W.ite (W.cmpT gGt (W.loc 4) (W.const (.int 0))) W.bad W.skip)
    (W.seq (W.while (W.cmpT gGt (W.call (Sp.fn gLen) (W.cons (W.loc 3) W.nil)) (W.const (.int 0))) (W.seq (W.expr (W.methB isL Sp.append (W.loc 2) (W.cons (W.methB isL Sp.pop (W.loc 3) W.nil) W.nil)))
    W.skip))
    W.skip)))))
theorem sm_match_arguments (kf : KF c.K) {S_m_new_temporary S_m_emit S_constant_cell : Spec} (h_m_new_temporary : CallOk c n (.ref 193) S_m_new_temporary) (h_m_emit : CallOk c n (.ref 186) S_m_emit) (h_constant_cell : CallOk c n (.ref 165) S_constant_cell) : SS c n nm_match_arguments sc_match_arguments bd_match_arguments (w_match_arguments S_m_new_temporary S_m_emit S_constant_cell) :=
  have F := F_match_arguments
  (SS.cons (SX.a (i := 3) F (by first | kernel_rfl | decide +kernel) (fun _ => rfl) (SE.list SEs.nil))
    (SS.cons (SX.a (i := 4) F (by first | kernel_rfl | decide +kernel) (fun _ => rfl) SE.int)
    (SS.cons (SX.for (fun _ _ => rfl) (SE.l (i := 1) F (by first | kernel_rfl | decide +kernel)) (SA.nm (i := 5) F (by first | kernel_rfl | decide +kernel)) (SS.cons (SX.ite (ST.bool (SAll.consA (ST.cmp cmp_eq (SE.subT (fun _ _ => rfl) (SE.l (i := 5) F (by first | kernel_rfl | decide +kernel)) SE.int) SE.str rfl) (SAll.consA ST.bad SAll.nilA))) SS.bad SS.nil)
    (SS.cons (SX.ite (ST.cmp cmp_gt (SE.l (i := 4) F (by first | kernel_rfl | decide +kernel)) SE.int rfl) SS.bad SS.nil)
    (SS.cons (SX.ite (ST.cmp cmp_eq (SE.subT (fun _ _ => rfl) (SE.l (i := 5) F (by first | kernel_rfl | decide +kernel)) SE.int) SE.str rfl) SS.bad (SS.cons (SX.ite (ST.cmp cmp_eq (SE.subT (fun _ _ => rfl) (SE.l (i := 5) F (by first | kernel_rfl | decide +kernel)) SE.int) SE.str rfl) (SS.cons (SX.a (i := 6) F (by first | kernel_rfl | decide +kernel) (fun _ => rfl) (SE.me kf.m_new_temporary (by first | kernel_rfl | decide +kernel) (fun _ => rfl) (fun _ => rfl) (by decide) rfl (SE.l (i := 0) F (by first | kernel_rfl | decide +kernel)) SEs.nil h_m_new_temporary))
    (SS.cons (SX.e F (fun _ => rfl) (SE.me kf.m_emit (by first | kernel_rfl | decide +kernel) (fun _ => rfl) (fun _ => rfl) (by decide) rfl (SE.l (i := 0) F (by first | kernel_rfl | decide +kernel)) (SEs.cons (star_ne rfl) (SE.tup (SEs.cons (star_ne rfl) SE.str (SEs.cons (star_ne rfl) (SE.l (i := 6) F (by first | kernel_rfl | decide +kernel)) SEs.nil))) SEs.nil) h_m_emit))
    (SS.cons (SX.e F (fun _ => rfl) (SE.mApp (fun _ => rfl) (by decide) rfl (SE.l (i := 3) F (by first | kernel_rfl | decide +kernel)) (SEs.cons (star_ne rfl) (SE.tup (SEs.cons (star_ne rfl) (SE.l (i := 5) F (by first | kernel_rfl | decide +kernel)) (SEs.cons (star_ne rfl) (SE.l (i := 6) F (by first | kernel_rfl | decide +kernel)) SEs.nil))) SEs.nil) (fun _ => rfl)))
    SS.nil))) (SS.cons (SX.e F (fun _ => rfl) (SE.me kf.m_emit (by first | kernel_rfl | decide +kernel) (fun _ => rfl) (fun _ => rfl) (by decide) rfl (SE.l (i := 0) F (by first | kernel_rfl | decide +kernel)) (SEs.cons (star_ne rfl) (SE.tup (SEs.cons (star_ne rfl) SE.str (SEs.cons (star_ne rfl) (SE.cK F kf.g_constant_cell (by first | kernel_rfl | decide +kernel) (fun _ => rfl) (SEs.cons (star_ne rfl) (SE.l (i := 5) F (by first | kernel_rfl | decide +kernel)) SEs.nil) h_constant_cell) SEs.nil))) SEs.nil) h_m_emit))
    SS.nil))
    SS.nil))
    SS.nil))))
    (SS.cons (SX.ite (ST.cmp cmp_gt (SE.l (i := 4) F (by first | kernel_rfl | decide +kernel)) SE.int rfl) SS.bad SS.nil)
    (SS.cons (SX.while (ST.cmp cmp_gt (SE.cB F kf.n_len (by first | kernel_rfl | decide +kernel) (by first | kernel_rfl | decide +kernel) (by first | kernel_rfl | decide +kernel) (fun _ => rfl) (SEs.cons (star_ne rfl) (SE.l (i := 3) F (by first | kernel_rfl | decide +kernel)) SEs.nil) ok_len) SE.int rfl) (SS.cons (SX.e F (fun _ => rfl) (SE.mApp (fun _ => rfl) (by decide) rfl (SE.l (i := 2) F (by first | kernel_rfl | decide +kernel)) (SEs.cons (star_ne rfl) (SE.mPop (fun _ => rfl) (by decide) rfl (SE.l (i := 3) F (by first | kernel_rfl | decide +kernel)) SEs.nil (fun _ => rfl)) SEs.nil) (fun _ => rfl)))
    SS.nil))
    SS.nil)))))
noncomputable def w_build (S_m_wait_for_nested S_m_take_nested S_m_new_temporary S_m_emit S_m_set_arguments : Spec) : WS := (W.seq (W.asg 3 (W.list (W.cons (W.tup (W.cons (W.const (.bool false)) (W.cons (W.loc 1) W.nil))) W.nil)))
    (W.seq (W.asg 4 (W.list W.nil))
    (W.seq (W.while (W.cmpT gGt (W.call (Sp.fn gLen) (W.cons (W.loc 3) W.nil)) (W.const (.int 0))) (W.seq (W.asgT (W.tPair 5 6) (W.methB isL Sp.pop (W.loc 3) W.nil))
    (W.seq (W.ite (W.notT (W.valT (W.loc 5))) (W.seq (W.expr (W.methB isL Sp.append (W.loc 3) (W.cons (W.tup (W.cons (W.const (.bool true)) (W.cons (W.loc 6) W.nil))) W.nil)))
    (W.seq (W.expr (W.meth 306 S_m_wait_for_nested (W.loc 0) (W.cons (W.subT (W.loc 6) (W.const (.int 2))) (W.cons (W.loc 3) W.nil))))
    (W.seq W.cont
    W.skip))) W.skip)
    (W.seq (W.asg 7 (W.meth 306 S_m_take_nested (W.loc 0) (W.cons (W.subT (W.loc 6) (W.const (.int 2))) (W.cons (W.loc 4) W.nil))))
    (W.seq (W.ite (W.cmpT gEq (W.call (Sp.fn gLen) (W.cons (W.loc 3) W.nil)) (W.const (.int 0))) (W.seq (W.asg 8 (W.loc 2))
    W.skip) (W.seq (W.asg 8 (W.meth 306 S_m_new_temporary (W.loc 0) W.nil))
    W.skip))
    (W.seq (W.ite (W.cmpT gEq (W.subT (W.loc 6) (W.const (.int 1))) (W.const (.int 0))) (W.seq (W.expr (W.meth 306 S_m_emit (W.loc 0) (W.cons (W.tup (W.cons (W.const (.str "put_list")) (W.cons (W.loc 8) W.nil))) W.nil)))
    W.skip) (W.seq (W.expr (W.meth 306 S_m_emit (W.loc 0) (W.cons (W.tup (W.cons (W.const (.str "put_structure")) (W.cons (W.subT (W.loc 6) (W.const (.int 1))) (W.cons (W.loc 8) W.nil)))) W.nil)))
    W.skip))
    (W.seq (W.expr (W.meth 306 S_m_set_arguments (W.loc 0) (W.cons (W.loc 7) W.nil)))
    (W.seq (W.expr (W.methB isL Sp.append (W.loc 4) (W.cons (W.loc 8) W.nil)))
    W.skip))))))))
    W.skip)))
theorem sm_build (kf : KF c.K) {S_m_wait_for_nested S_m_take_nested S_m_new_temporary S_m_emit S_m_set_arguments : Spec} (h_m_wait_for_nested : CallOk c n (.ref 282) S_m_wait_for_nested) (h_m_take_nested : CallOk c n (.ref 289) S_m_take_nested) (h_m_new_temporary : CallOk c n (.ref 193) S_m_new_temporary) (h_m_emit : CallOk c n (.ref 186) S_m_emit) (h_m_set_arguments : CallOk c n (.ref 296) S_m_set_arguments) : SS c n nm_build sc_build bd_build (w_build S_m_wait_for_nested S_m_take_nested S_m_new_temporary S_m_emit S_m_set_arguments) :=
  have F := F_build
  (SS.cons (SX.a (i := 3) F (by first | kernel_rfl | decide +kernel) (fun _ => rfl) (SE.list (SEs.cons (star_ne rfl) (SE.tup (SEs.cons (star_ne rfl) SE.bool (SEs.cons (star_ne rfl) (SE.l (i := 1) F (by first | kernel_rfl | decide +kernel)) SEs.nil))) SEs.nil)))
    (SS.cons (SX.a (i := 4) F (by first | kernel_rfl | decide +kernel) (fun _ => rfl) (SE.list SEs.nil))
    (SS.cons (SX.while (ST.cmp cmp_gt (SE.cB F kf.n_len (by first | kernel_rfl | decide +kernel) (by first | kernel_rfl | decide +kernel) (by first | kernel_rfl | decide +kernel) (fun _ => rfl) (SEs.cons (star_ne rfl) (SE.l (i := 3) F (by first | kernel_rfl | decide +kernel)) SEs.nil) ok_len) SE.int rfl) (SS.cons (SX.asgT (fun _ => rfl) (fun _ => rfl) (SA.p (i := 5) (j := 6) F (by first | kernel_rfl | decide +kernel) (by first | kernel_rfl | decide +kernel)) (SE.mPop (fun _ => rfl) (by decide) rfl (SE.l (i := 3) F (by first | kernel_rfl | decide +kernel)) SEs.nil (fun _ => rfl)))
    (SS.cons (SX.ite (ST.not (ST.val (SE.l (i := 5) F (by first | kernel_rfl | decide +kernel)) (fun _ _ => rfl))) (SS.cons (SX.e F (fun _ => rfl) (SE.mApp (fun _ => rfl) (by decide) rfl (SE.l (i := 3) F (by first | kernel_rfl | decide +kernel)) (SEs.cons (star_ne rfl) (SE.tup (SEs.cons (star_ne rfl) SE.bool (SEs.cons (star_ne rfl) (SE.l (i := 6) F (by first | kernel_rfl | decide +kernel)) SEs.nil))) SEs.nil) (fun _ => rfl)))
    (SS.cons (SX.e F (fun _ => rfl) (SE.me kf.m_wait_for_nested (by first | kernel_rfl | decide +kernel) (fun _ => rfl) (fun _ => rfl) (by decide) rfl (SE.l (i := 0) F (by first | kernel_rfl | decide +kernel)) (SEs.cons (star_ne rfl) (SE.subT (fun _ _ => rfl) (SE.l (i := 6) F (by first | kernel_rfl | decide +kernel)) SE.int) (SEs.cons (star_ne rfl) (SE.l (i := 3) F (by first | kernel_rfl | decide +kernel)) SEs.nil)) h_m_wait_for_nested))
    (SS.cons SX.cont
    SS.nil))) SS.nil)
    (SS.cons (SX.a (i := 7) F (by first | kernel_rfl | decide +kernel) (fun _ => rfl) (SE.me kf.m_take_nested (by first | kernel_rfl | decide +kernel) (fun _ => rfl) (fun _ => rfl) (by decide) rfl (SE.l (i := 0) F (by first | kernel_rfl | decide +kernel)) (SEs.cons (star_ne rfl) (SE.subT (fun _ _ => rfl) (SE.l (i := 6) F (by first | kernel_rfl | decide +kernel)) SE.int) (SEs.cons (star_ne rfl) (SE.l (i := 4) F (by first | kernel_rfl | decide +kernel)) SEs.nil)) h_m_take_nested))
    (SS.cons (SX.ite (ST.cmp cmp_eq (SE.cB F kf.n_len (by first | kernel_rfl | decide +kernel) (by first | kernel_rfl | decide +kernel) (by first | kernel_rfl | decide +kernel) (fun _ => rfl) (SEs.cons (star_ne rfl) (SE.l (i := 3) F (by first | kernel_rfl | decide +kernel)) SEs.nil) ok_len) SE.int rfl) (SS.cons (SX.a (i := 8) F (by first | kernel_rfl | decide +kernel) (fun _ => rfl) (SE.l (i := 2) F (by first | kernel_rfl | decide +kernel)))
    SS.nil) (SS.cons (SX.a (i := 8) F (by first | kernel_rfl | decide +kernel) (fun _ => rfl) (SE.me kf.m_new_temporary (by first | kernel_rfl | decide +kernel) (fun _ => rfl) (fun _ => rfl) (by decide) rfl (SE.l (i := 0) F (by first | kernel_rfl | decide +kernel)) SEs.nil h_m_new_temporary))
    SS.nil))
    (SS.cons (SX.ite (ST.cmp cmp_eq (SE.subT (fun _ _ => rfl) (SE.l (i := 6) F (by first | kernel_rfl | decide +kernel)) SE.int) (SE.gI F (by first | kernel_rfl | decide +kernel) kf.i_F_DOT) rfl) (SS.cons (SX.e F (fun _ => rfl) (SE.me kf.m_emit (by first | kernel_rfl | decide +kernel) (fun _ => rfl) (fun _ => rfl) (by decide) rfl (SE.l (i := 0) F (by first | kernel_rfl | decide +kernel)) (SEs.cons (star_ne rfl) (SE.tup (SEs.cons (star_ne rfl) SE.str (SEs.cons (star_ne rfl) (SE.l (i := 8) F (by first | kernel_rfl | decide +kernel)) SEs.nil))) SEs.nil) h_m_emit))
    SS.nil) (SS.cons (SX.e F (fun _ => rfl) (SE.me kf.m_emit (by first | kernel_rfl | decide +kernel) (fun _ => rfl) (fun _ => rfl) (by decide) rfl (SE.l (i := 0) F (by first | kernel_rfl | decide +kernel)) (SEs.cons (star_ne rfl) (SE.tup (SEs.cons (star_ne rfl) SE.str (SEs.cons (star_ne rfl) (SE.subT (fun _ _ => rfl) (SE.l (i := 6) F (by first | kernel_rfl | decide +kernel)) SE.int) (SEs.cons (star_ne rfl) (SE.l (i := 8) F (by first | kernel_rfl | decide +kernel)) SEs.nil)))) SEs.nil) h_m_emit))
    SS.nil))
    (SS.cons (SX.e F (fun _ => rfl) (SE.me kf.m_set_arguments (by first | kernel_rfl | decide +kernel) (fun _ => rfl) (fun _ => rfl) (by decide) rfl (SE.l (i := 0) F (by first | kernel_rfl | decide +kernel)) (SEs.cons (star_ne rfl) (SE.l (i := 7) F (by first | kernel_rfl | decide +kernel)) SEs.nil) h_m_set_arguments))
    (SS.cons (SX.e F (fun _ => rfl) (SE.mApp (fun _ => rfl) (by decide) rfl (SE.l (i := 4) F (by first | kernel_rfl | decide +kernel)) (SEs.cons (star_ne rfl) (SE.l (i := 8) F (by first | kernel_rfl | decide +kernel)) SEs.nil) (fun _ => rfl)))
    SS.nil))))))))
    SS.nil)))
noncomputable def w_wait_for_nested : WS := (W.seq (W.asg 3 (W.bin gSub (W.call (Sp.fn gLen) (W.cons (W.loc 1) W.nil)) (W.const (.int 1))))
    (W.seq (W.asg 4 (W.bin gSub (W.loc 3) (W.const (.int 1))))
    (W.seq (W.while (W.cmpT gGe (W.loc 4) (W.const (.int 0))) (W.seq (W.ite (W.cmpT gEq (W.subT (W.subT (W.loc 1) (W.loc 4)) (W.const (.int 0))) (W.const (.str "s"))) (W.seq (W.expr (W.methB isL Sp.append (W.loc 2) (W.cons (W.tup (W.cons (W.const (.bool false)) (W.cons (W.subT (W.loc 1) (W.loc 4)) W.nil))) W.nil)))
    W.skip) W.skip)
    (W.seq (W.aug gSub 4 (W.const (.int 1)))
    W.skip)))
    (W.seq (W.ite (W.cmpT gEq (W.subT (W.subT (W.loc 1) (W.loc 3)) (W.const (.int 0))) (W.const (.str "s"))) (W.seq (W.expr (W.methB isL Sp.append (W.loc 2) (W.cons (W.tup (W.cons (W.const (.bool false)) (W.cons (W.subT (W.loc 1) (W.loc 3)) W.nil))) W.nil)))
    W.skip) W.skip)
    W.skip))))
theorem sm_wait_for_nested (kf : KF c.K)  : SS c n nm_wait_for_nested sc_wait_for_nested bd_wait_for_nested (w_wait_for_nested ) :=
  have F := F_wait_for_nested
  (SS.cons (SX.a (i := 3) F (by first | kernel_rfl | decide +kernel) (fun _ => rfl) (SE.bin op_sub (SE.cB F kf.n_len (by first | kernel_rfl | decide +kernel) (by first | kernel_rfl | decide +kernel) (by first | kernel_rfl | decide +kernel) (fun _ => rfl) (SEs.cons (star_ne rfl) (SE.l (i := 1) F (by first | kernel_rfl | decide +kernel)) SEs.nil) ok_len) SE.int))
    (SS.cons (SX.a (i := 4) F (by first | kernel_rfl | decide +kernel) (fun _ => rfl) (SE.bin op_sub (SE.l (i := 3) F (by first | kernel_rfl | decide +kernel)) SE.int))
    (SS.cons (SX.while (ST.cmp cmp_ge (SE.l (i := 4) F (by first | kernel_rfl | decide +kernel)) SE.int rfl) (SS.cons (SX.ite (ST.cmp cmp_eq (SE.subT (fun _ _ => rfl) (SE.subT (fun _ _ => rfl) (SE.l (i := 1) F (by first | kernel_rfl | decide +kernel)) (SE.l (i := 4) F (by first | kernel_rfl | decide +kernel))) SE.int) SE.str rfl) (SS.cons (SX.e F (fun _ => rfl) (SE.mApp (fun _ => rfl) (by decide) rfl (SE.l (i := 2) F (by first | kernel_rfl | decide +kernel)) (SEs.cons (star_ne rfl) (SE.tup (SEs.cons (star_ne rfl) SE.bool (SEs.cons (star_ne rfl) (SE.subT (fun _ _ => rfl) (SE.l (i := 1) F (by first | kernel_rfl | decide +kernel)) (SE.l (i := 4) F (by first | kernel_rfl | decide +kernel))) SEs.nil))) SEs.nil) (fun _ => rfl)))
    SS.nil) SS.nil)
    (SS.cons (SX.au (i := 4) F (by first | kernel_rfl | decide +kernel) inp_sub SE.int)
    SS.nil)))
    (SS.cons (SX.ite (ST.cmp cmp_eq (SE.subT (fun _ _ => rfl) (SE.subT (fun _ _ => rfl) (SE.l (i := 1) F (by first | kernel_rfl | decide +kernel)) (SE.l (i := 3) F (by first | kernel_rfl | decide +kernel))) SE.int) SE.str rfl) (SS.cons (SX.e F (fun _ => rfl) (SE.mApp (fun _ => rfl) (by decide) rfl (SE.l (i := 2) F (by first | kernel_rfl | decide +kernel)) (SEs.cons (star_ne rfl) (SE.tup (SEs.cons (star_ne rfl) SE.bool (SEs.cons (star_ne rfl) (SE.subT (fun _ _ => rfl) (SE.l (i := 1) F (by first | kernel_rfl | decide +kernel)) (SE.l (i := 3) F (by first | kernel_rfl | decide +kernel))) SEs.nil))) SEs.nil) (fun _ => rfl)))
    SS.nil) SS.nil)
    SS.nil))))
noncomputable def w_take_nested : WS := (W.seq (W.asg 3 (W.call Sp.listOf (W.cons (W.loc 1) W.nil)))
    (W.seq (W.asg 4 (W.bin gSub (W.call (Sp.fn gLen) (W.cons (W.loc 1) W.nil)) (W.const (.int 1))))
    (W.seq (W.asg 5 (W.bin gSub (W.loc 4) (W.const (.int 1))))
    (W.seq (W.while (W.cmpT gGe (W.loc 5) (W.const (.int 0))) (W.seq (W.ite (W.cmpT gEq (W.subT (W.subT (W.loc 1) (W.loc 5)) (W.const (.int 0))) (W.const (.str "s"))) (W.seq (W.putL (W.loc 3) (W.loc 5) (W.methB isL Sp.pop (W.loc 2) W.nil))
    W.skip) W.skip)
    (W.seq (W.aug gSub 5 (W.const (.int 1)))
    W.skip)))
    (W.seq (W.ite (W.cmpT gEq (W.subT (W.subT (W.loc 1) (W.loc 4)) (W.const (.int 0))) (W.const (.str "s"))) (W.seq (W.putL (W.loc 3) (W.loc 4) (W.methB isL Sp.pop (W.loc 2) W.nil))
    W.skip) W.skip)
    (W.seq (W.ret (W.loc 3))
    W.skip))))))
theorem sm_take_nested (kf : KF c.K)  : SS c n nm_take_nested sc_take_nested bd_take_nested (w_take_nested ) :=
  have F := F_take_nested
  (SS.cons (SX.a (i := 3) F (by first | kernel_rfl | decide +kernel) (fun _ => rfl) (SE.cT F kf.n_list (by first | kernel_rfl | decide +kernel) (by first | kernel_rfl | decide +kernel) (by first | kernel_rfl | decide +kernel) (fun _ => rfl) (SEs.cons (star_ne rfl) (SE.l (i := 1) F (by first | kernel_rfl | decide +kernel)) SEs.nil) ok_list))
    (SS.cons (SX.a (i := 4) F (by first | kernel_rfl | decide +kernel) (fun _ => rfl) (SE.bin op_sub (SE.cB F kf.n_len (by first | kernel_rfl | decide +kernel) (by first | kernel_rfl | decide +kernel) (by first | kernel_rfl | decide +kernel) (fun _ => rfl) (SEs.cons (star_ne rfl) (SE.l (i := 1) F (by first | kernel_rfl | decide +kernel)) SEs.nil) ok_len) SE.int))
    (SS.cons (SX.a (i := 5) F (by first | kernel_rfl | decide +kernel) (fun _ => rfl) (SE.bin op_sub (SE.l (i := 4) F (by first | kernel_rfl | decide +kernel)) SE.int))
    (SS.cons (SX.while (ST.cmp cmp_ge (SE.l (i := 5) F (by first | kernel_rfl | decide +kernel)) SE.int rfl) (SS.cons (SX.ite (ST.cmp cmp_eq (SE.subT (fun _ _ => rfl) (SE.subT (fun _ _ => rfl) (SE.l (i := 1) F (by first | kernel_rfl | decide +kernel)) (SE.l (i := 5) F (by first | kernel_rfl | decide +kernel))) SE.int) SE.str rfl) (SS.cons (SX.putL (fun _ => rfl) (SE.l (i := 3) F (by first | kernel_rfl | decide +kernel)) (SE.l (i := 5) F (by first | kernel_rfl | decide +kernel)) (SE.mPop (fun _ => rfl) (by decide) rfl (SE.l (i := 2) F (by first | kernel_rfl | decide +kernel)) SEs.nil (fun _ => rfl)))
    SS.nil) SS.nil)
    (SS.cons (SX.au (i := 5) F (by first | kernel_rfl | decide +kernel) inp_sub SE.int)
    SS.nil)))
    (SS.cons (SX.ite (ST.cmp cmp_eq (SE.subT (fun _ _ => rfl) (SE.subT (fun _ _ => rfl) (SE.l (i := 1) F (by first | kernel_rfl | decide +kernel)) (SE.l (i := 4) F (by first | kernel_rfl | decide +kernel))) SE.int) SE.str rfl) (SS.cons (SX.putL (fun _ => rfl) (SE.l (i := 3) F (by first | kernel_rfl | decide +kernel)) (SE.l (i := 4) F (by first | kernel_rfl | decide +kernel)) (SE.mPop (fun _ => rfl) (by decide) rfl (SE.l (i := 2) F (by first | kernel_rfl | decide +kernel)) SEs.nil (fun _ => rfl)))
    SS.nil) SS.nil)
    (SS.cons (SX.ret (SE.l (i := 3) F (by first | kernel_rfl | decide +kernel)))
    SS.nil))))))
noncomputable def w_set_arguments (S_m_emit S_constant_cell : Spec) : WS := (W.seq (W.asg 2 (W.const (.int 0)))
    (W.seq (W.for (W.loc 1) (W.tName 3) (W.seq (W.ite (W.andT (W.cmpT gEq (W.subT (W.loc 3) (W.const (.int 0))) (W.const (.str "v"))) (W.andT W.bad (W.tt true))) W.bad W.skip)
    (W.seq (W.ite (W.cmpT gGt (W.loc 2) (W.const (.int 0))) W.bad W.skip)
    (W.seq (W.ite (W.cmpT gEq (W.subT (W.loc 3) (W.const (.int 0))) (W.const (.str "v"))) W.bad (W.seq (W.ite (W.cmpT gEq (W.subT (W.loc 3) (W.const (.int 0))) (W.const (.str "t"))) (W.seq (W.expr (W.meth 306 S_m_emit (W.loc 0) (W.cons (W.tup (W.cons (W.const (.str "set_value")) (W.cons (W.loc 3) W.nil))) W.nil)))
    W.skip) (W.seq (W.expr (W.meth 306 S_m_emit (W.loc 0) (W.cons (W.tup (W.cons (W.const (.str "set_constant")) (W.cons (W.call S_constant_cell (W.cons (W.loc 3) W.nil)) W.nil))) W.nil)))
    W.skip))
    W.skip))
    W.skip))))
    (W.seq (W.ite (W.cmpT gGt (W.loc 2) (W.const (.int 0))) W.bad W.skip)
    W.skip)))
theorem sm_set_arguments (kf : KF c.K) {S_m_emit S_constant_cell : Spec} (h_m_emit : CallOk c n (.ref 186) S_m_emit) (h_constant_cell : CallOk c n (.ref 165) S_constant_cell) : SS c n nm_set_arguments sc_set_arguments bd_set_arguments (w_set_arguments S_m_emit S_constant_cell) :=
  have F := F_set_arguments
  (SS.cons (SX.a (i := 2) F (by first | kernel_rfl | decide +kernel) (fun _ => rfl) SE.int)
    (SS.cons (SX.for (fun _ _ => rfl) (SE.l (i := 1) F (by first | kernel_rfl | decide +kernel)) (SA.nm (i := 3) F (by first | kernel_rfl | decide +kernel)) (SS.cons (SX.ite (ST.bool (SAll.consA (ST.cmp cmp_eq (SE.subT (fun _ _ => rfl) (SE.l (i := 3) F (by first | kernel_rfl | decide +kernel)) SE.int) SE.str rfl) (SAll.consA ST.bad SAll.nilA))) SS.bad SS.nil)
    (SS.cons (SX.ite (ST.cmp cmp_gt (SE.l (i := 2) F (by first | kernel_rfl | decide +kernel)) SE.int rfl) SS.bad SS.nil)
    (SS.cons (SX.ite (ST.cmp cmp_eq (SE.subT (fun _ _ => rfl) (SE.l (i := 3) F (by first | kernel_rfl | decide +kernel)) SE.int) SE.str rfl) SS.bad (SS.cons (SX.ite (ST.cmp cmp_eq (SE.subT (fun _ _ => rfl) (SE.l (i := 3) F (by first | kernel_rfl | decide +kernel)) SE.int) SE.str rfl) (SS.cons (SX.e F (fun _ => rfl) (SE.me kf.m_emit (by first | kernel_rfl | decide +kernel) (fun _ => rfl) (fun _ => rfl) (by decide) rfl (SE.l (i := 0) F (by first | kernel_rfl | decide +kernel)) (SEs.cons (star_ne rfl) (SE.tup (SEs.cons (star_ne rfl) SE.str (SEs.cons (star_ne rfl) (SE.l (i := 3) F (by first | kernel_rfl | decide +kernel)) SEs.nil))) SEs.nil) h_m_emit))
    SS.nil) (SS.cons (SX.e F (fun _ => rfl) (SE.me kf.m_emit (by first | kernel_rfl | decide +kernel) (fun _ => rfl) (fun _ => rfl) (by decide) rfl (SE.l (i := 0) F (by first | kernel_rfl | decide +kernel)) (SEs.cons (star_ne rfl) (SE.tup (SEs.cons (star_ne rfl) SE.str (SEs.cons (star_ne rfl) (SE.cK F kf.g_constant_cell (by first | kernel_rfl | decide +kernel) (fun _ => rfl) (SEs.cons (star_ne rfl) (SE.l (i := 3) F (by first | kernel_rfl | decide +kernel)) SEs.nil) h_constant_cell) SEs.nil))) SEs.nil) h_m_emit))
    SS.nil))
    SS.nil))
    SS.nil))))
    (SS.cons (SX.ite (ST.cmp cmp_gt (SE.l (i := 2) F (by first | kernel_rfl | decide +kernel)) SE.int rfl) SS.bad SS.nil)
    SS.nil)))
noncomputable def w_KC_init : WS := (W.seq (W.setA 367 10 (W.loc 0) (W.loc 1))
    (W.seq (W.setA 367 11 (W.loc 0) (W.loc 2))
    (W.seq (W.setA 367 12 (W.loc 0) (W.loc 3))
    (W.seq (W.setA 367 13 (W.loc 0) (W.loc 4))
    W.skip))))
theorem sm_KC_init (kf : KF c.K)  : SS c n nm_KC_init sc_KC_init bd_KC_init (w_KC_init ) :=
  have F := F_KC_init
  (SS.cons (SX.setA (k := 10) (by decide) rfl kf.s_367_functor (fun _ => rfl) (SE.l (i := 0) F (by first | kernel_rfl | decide +kernel)) (SE.l (i := 1) F (by first | kernel_rfl | decide +kernel)))
    (SS.cons (SX.setA (k := 11) (by decide) rfl kf.s_367_args (fun _ => rfl) (SE.l (i := 0) F (by first | kernel_rfl | decide +kernel)) (SE.l (i := 2) F (by first | kernel_rfl | decide +kernel)))
    (SS.cons (SX.setA (k := 12) (by decide) rfl kf.s_367_goals (fun _ => rfl) (SE.l (i := 0) F (by first | kernel_rfl | decide +kernel)) (SE.l (i := 3) F (by first | kernel_rfl | decide +kernel)))
    (SS.cons (SX.setA (k := 13) (by decide) rfl kf.s_367_count (fun _ => rfl) (SE.l (i := 0) F (by first | kernel_rfl | decide +kernel)) (SE.l (i := 4) F (by first | kernel_rfl | decide +kernel)))
    SS.nil))))
noncomputable def w_CP_init : WS := (W.seq (W.setA 458 14 (W.loc 0) (W.loc 1))
    (W.seq (W.setA 458 15 (W.loc 0) (W.loc 2))
    (W.seq (W.setA 458 16 (W.loc 0) (W.loc 3))
    (W.seq (W.setA 458 17 (W.loc 0) (W.loc 4))
    (W.seq (W.setA 458 18 (W.loc 0) (W.loc 5))
    W.skip)))))
theorem sm_CP_init (kf : KF c.K)  : SS c n nm_CP_init sc_CP_init bd_CP_init (w_CP_init ) :=
  have F := F_CP_init
  (SS.cons (SX.setA (k := 14) (by decide) rfl kf.s_458_infos (fun _ => rfl) (SE.l (i := 0) F (by first | kernel_rfl | decide +kernel)) (SE.l (i := 1) F (by first | kernel_rfl | decide +kernel)))
    (SS.cons (SX.setA (k := 15) (by decide) rfl kf.s_458_chunks (fun _ => rfl) (SE.l (i := 0) F (by first | kernel_rfl | decide +kernel)) (SE.l (i := 2) F (by first | kernel_rfl | decide +kernel)))
    (SS.cons (SX.setA (k := 16) (by decide) rfl kf.s_458_needs_env (fun _ => rfl) (SE.l (i := 0) F (by first | kernel_rfl | decide +kernel)) (SE.l (i := 3) F (by first | kernel_rfl | decide +kernel)))
    (SS.cons (SX.setA (k := 17) (by decide) rfl kf.s_458_env_size (fun _ => rfl) (SE.l (i := 0) F (by first | kernel_rfl | decide +kernel)) (SE.l (i := 4) F (by first | kernel_rfl | decide +kernel)))
    (SS.cons (SX.setA (k := 18) (by decide) rfl kf.s_458_live_after (fun _ => rfl) (SE.l (i := 0) F (by first | kernel_rfl | decide +kernel)) (SE.l (i := 5) F (by first | kernel_rfl | decide +kernel)))
    SS.nil)))))
noncomputable def w_chunk_numbers : WS := (W.seq (W.asg 1 (W.list W.nil))
    (W.seq (W.asg 2 (W.const (.int 0)))
    (W.seq (W.for (W.loc 0) (W.tName 3) W.bad)
    (W.seq (W.ret (W.loc 1))
    W.skip))))
theorem sm_chunk_numbers (kf : KF c.K)  : SS c n nm_chunk_numbers sc_chunk_numbers bd_chunk_numbers (w_chunk_numbers ) :=
  have F := F_chunk_numbers
  (SS.cons (SX.a (i := 1) F (by first | kernel_rfl | decide +kernel) (fun _ => rfl) (SE.list SEs.nil))
    (SS.cons (SX.a (i := 2) F (by first | kernel_rfl | decide +kernel) (fun _ => rfl) SE.int)
    (SS.cons (SX.for (fun _ _ => rfl) (SE.l (i := 0) F (by first | kernel_rfl | decide +kernel)) (SA.nm (i := 3) F (by first | kernel_rfl | decide +kernel)) SS.bad)
    (SS.cons (SX.ret (SE.l (i := 1) F (by first | kernel_rfl | decide +kernel)))
    SS.nil))))
noncomputable def w_Sv_init : WS := (W.seq (W.setA 500 14 (W.loc 0) W.dictDi)
    W.skip)
theorem sm_Sv_init (kf : KF c.K)  : SS c n nm_Sv_init sc_Sv_init bd_Sv_init (w_Sv_init ) :=
  have F := F_Sv_init
  (SS.cons (SX.setA (k := 14) (by decide) rfl kf.s_500_infos (fun _ => rfl) (SE.l (i := 0) F (by first | kernel_rfl | decide +kernel)) SE.dictDi)
    SS.nil)
noncomputable def w_terms : WS := (W.seq (W.for (W.loc 1) (W.tName 5) W.bad)
    W.skip)
theorem sm_terms (kf : KF c.K)  : SS c n nm_terms sc_terms bd_terms (w_terms ) :=
  have F := F_terms
  (SS.cons (SX.for (fun _ _ => rfl) (SE.l (i := 1) F (by first | kernel_rfl | decide +kernel)) (SA.nm (i := 5) F (by first | kernel_rfl | decide +kernel)) SS.bad)
    SS.nil)
noncomputable def w_slot_order : WS := (W.seq (W.asg 1 (W.list W.nil))
    (W.seq (W.for (W.call Sp.sortedD0 (W.cons (W.loc 0) W.nil)) (W.tName 2) W.bad)
    (W.seq (W.ret (W.loc 1))
    W.skip)))
theorem sm_slot_order (kf : KF c.K)  : SS c n nm_slot_order sc_slot_order bd_slot_order (w_slot_order ) :=
  have F := F_slot_order
  (SS.cons (SX.a (i := 1) F (by first | kernel_rfl | decide +kernel) (fun _ => rfl) (SE.list SEs.nil))
    (SS.cons (SX.for (fun _ _ => rfl) (SE.cB F kf.n_sorted (by first | kernel_rfl | decide +kernel) (by first | kernel_rfl | decide +kernel) (by first | kernel_rfl | decide +kernel) (fun _ => rfl) (SEs.cons (star_ne rfl) (SE.l (i := 0) F (by first | kernel_rfl | decide +kernel)) SEs.nil) ok_sortedD0) (SA.nm (i := 2) F (by first | kernel_rfl | decide +kernel)) SS.bad)
    (SS.cons (SX.ret (SE.l (i := 1) F (by first | kernel_rfl | decide +kernel)))
    SS.nil)))
noncomputable def w_classify (S_chunk_numbers S_Survey S_m_terms S_slot_order S_ClausePlan : Spec) : WS := (W.seq (W.asg 1 (W.attr 367 12 (W.loc 0)))
    (W.seq (W.asg 2 (W.call S_chunk_numbers (W.cons (W.loc 1) W.nil)))
    (W.seq (W.asg 3 (W.call S_Survey W.nil))
    (W.seq (W.expr (W.meth 500 S_m_terms (W.loc 3) (W.cons (W.attr 367 11 (W.loc 0)) (W.cons (W.const (.str "head")) (W.cons (W.neg (W.const (.int 1))) (W.cons (W.const (.int 0)) W.nil))))))
    (W.seq (W.asg 4 (W.const (.bool false)))
    (W.seq (W.forR (W.call (Sp.fn gLen) (W.cons (W.loc 1) W.nil)) (W.tName 5) W.bad)
    (W.seq (W.asg 8 (W.attr 500 14 (W.loc 3)))
    (W.seq (W.forD0 (W.loc 8))
    (W.seq (W.asg 10 (W.call S_slot_order (W.cons (W.loc 8) W.nil)))
    (W.seq (W.forR (W.call (Sp.fn gLen) (W.cons (W.loc 10) W.nil)) (W.tName 5) W.bad)
    (W.seq (W.asg 12 (W.list W.nil))
    (W.seq (W.forR (W.call (Sp.fn gLen) (W.cons (W.loc 1) W.nil)) (W.tName 5) W.bad)
    (W.seq (W.ret (W.call S_ClausePlan (W.cons (W.loc 8) (W.cons (W.loc 2) (W.cons (W.loc 4) (W.cons (W.call (Sp.fn gLen) (W.cons (W.loc 10) W.nil)) (W.cons (W.loc 12) W.nil)))))))
    W.skip)))))))))))))
theorem sm_classify (kf : KF c.K) {S_chunk_numbers S_Survey S_m_terms S_slot_order S_ClausePlan : Spec} (h_chunk_numbers : CallOk c n (.ref 469) S_chunk_numbers) (h_Survey : CallOk c n (.ref 500) S_Survey) (h_m_terms : CallOk c n (.ref 497) S_m_terms) (h_slot_order : CallOk c n (.ref 518) S_slot_order) (h_ClausePlan : CallOk c n (.ref 458) S_ClausePlan) : SS c n nm_classify sc_classify bd_classify (w_classify S_chunk_numbers S_Survey S_m_terms S_slot_order S_ClausePlan) :=
  have F := F_classify
  (SS.cons (SX.a (i := 1) F (by first | kernel_rfl | decide +kernel) (fun _ => rfl) (SE.attr (k := 12) (fun _ => rfl) (by decide) rfl kf.a_367_goals (SE.l (i := 0) F (by first | kernel_rfl | decide +kernel))))
    (SS.cons (SX.a (i := 2) F (by first | kernel_rfl | decide +kernel) (fun _ => rfl) (SE.cK F kf.g_chunk_numbers (by first | kernel_rfl | decide +kernel) (fun _ => rfl) (SEs.cons (star_ne rfl) (SE.l (i := 1) F (by first | kernel_rfl | decide +kernel)) SEs.nil) h_chunk_numbers))
    (SS.cons (SX.a (i := 3) F (by first | kernel_rfl | decide +kernel) (fun _ => rfl) (SE.cK F kf.g_Survey (by first | kernel_rfl | decide +kernel) (fun _ => rfl) SEs.nil h_Survey))
    (SS.cons (SX.e F (fun _ => rfl) (SE.me kf.m_terms (by first | kernel_rfl | decide +kernel) (fun _ => rfl) (fun _ => rfl) (by decide) rfl (SE.l (i := 3) F (by first | kernel_rfl | decide +kernel)) (SEs.cons (star_ne rfl) (SE.attr (k := 11) (fun _ => rfl) (by decide) rfl kf.a_367_args (SE.l (i := 0) F (by first | kernel_rfl | decide +kernel))) (SEs.cons (star_ne rfl) SE.str (SEs.cons (star_ne rfl) (SE.neg SE.int) (SEs.cons (star_ne rfl) SE.int SEs.nil)))) h_m_terms))
    (SS.cons (SX.a (i := 4) F (by first | kernel_rfl | decide +kernel) (fun _ => rfl) SE.bool)
    (SS.cons (SX.fR F kf.n_range (by first | kernel_rfl | decide +kernel) (fun _ => rfl) (fun _ => rfl) (fun _ _ => rfl) (SE.cB F kf.n_len (by first | kernel_rfl | decide +kernel) (by first | kernel_rfl | decide +kernel) (by first | kernel_rfl | decide +kernel) (fun _ => rfl) (SEs.cons (star_ne rfl) (SE.l (i := 1) F (by first | kernel_rfl | decide +kernel)) SEs.nil) ok_len) (SA.nm (i := 5) F (by first | kernel_rfl | decide +kernel)) SS.bad)
    (SS.cons (SX.a (i := 8) F (by first | kernel_rfl | decide +kernel) (fun _ => rfl) (SE.attr (k := 14) (fun _ => rfl) (by decide) rfl kf.a_500_infos (SE.l (i := 3) F (by first | kernel_rfl | decide +kernel))))
    (SS.cons (SX.forD0 (fun _ _ => rfl) (fun _ _ => rfl) (SE.l (i := 8) F (by first | kernel_rfl | decide +kernel)))
    (SS.cons (SX.a (i := 10) F (by first | kernel_rfl | decide +kernel) (fun _ => rfl) (SE.cK F kf.g_slot_order (by first | kernel_rfl | decide +kernel) (fun _ => rfl) (SEs.cons (star_ne rfl) (SE.l (i := 8) F (by first | kernel_rfl | decide +kernel)) SEs.nil) h_slot_order))
    (SS.cons (SX.fR F kf.n_range (by first | kernel_rfl | decide +kernel) (fun _ => rfl) (fun _ => rfl) (fun _ _ => rfl) (SE.cB F kf.n_len (by first | kernel_rfl | decide +kernel) (by first | kernel_rfl | decide +kernel) (by first | kernel_rfl | decide +kernel) (fun _ => rfl) (SEs.cons (star_ne rfl) (SE.l (i := 10) F (by first | kernel_rfl | decide +kernel)) SEs.nil) ok_len) (SA.nm (i := 5) F (by first | kernel_rfl | decide +kernel)) SS.bad)
    (SS.cons (SX.a (i := 12) F (by first | kernel_rfl | decide +kernel) (fun _ => rfl) (SE.list SEs.nil))
    (SS.cons (SX.fR F kf.n_range (by first | kernel_rfl | decide +kernel) (fun _ => rfl) (fun _ => rfl) (fun _ _ => rfl) (SE.cB F kf.n_len (by first | kernel_rfl | decide +kernel) (by first | kernel_rfl | decide +kernel) (by first | kernel_rfl | decide +kernel) (fun _ => rfl) (SEs.cons (star_ne rfl) (SE.l (i := 1) F (by first | kernel_rfl | decide +kernel)) SEs.nil) ok_len) (SA.nm (i := 5) F (by first | kernel_rfl | decide +kernel)) SS.bad)
    (SS.cons (SX.ret (SE.cK F kf.g_ClausePlan (by first | kernel_rfl | decide +kernel) (fun _ => rfl) (SEs.cons (star_ne rfl) (SE.l (i := 8) F (by first | kernel_rfl | decide +kernel)) (SEs.cons (star_ne rfl) (SE.l (i := 2) F (by first | kernel_rfl | decide +kernel)) (SEs.cons (star_ne rfl) (SE.l (i := 4) F (by first | kernel_rfl | decide +kernel)) (SEs.cons (star_ne rfl) (SE.cB F kf.n_len (by first | kernel_rfl | decide +kernel) (by first | kernel_rfl | decide +kernel) (by first | kernel_rfl | decide +kernel) (fun _ => rfl) (SEs.cons (star_ne rfl) (SE.l (i := 10) F (by first | kernel_rfl | decide +kernel)) SEs.nil) ok_len) (SEs.cons (star_ne rfl) (SE.l (i := 12) F (by first | kernel_rfl | decide +kernel)) SEs.nil))))) h_ClausePlan))
    SS.nil)))))))))))))
noncomputable def w_operand_roles : WS := (W.seq (W.asg 1 (W.subT (W.loc 0) (W.const (.int 0))))
    (W.seq (W.ite (W.cmpT gEq (W.loc 1) (W.const (.str "get_variable"))) (W.seq (W.ret (W.list (W.cons (W.tup (W.cons (W.const (.int 1)) (W.cons (W.subT (W.loc 0) (W.const (.int 2))) W.nil))) (W.cons (W.tup (W.cons (W.const (.int 2)) (W.cons (W.subT (W.loc 0) (W.const (.int 1))) W.nil))) W.nil))))
    W.skip) W.skip)
    (W.seq (W.ite (W.cmpT gEq (W.loc 1) (W.const (.str "get_value"))) (W.seq (W.ret (W.list (W.cons (W.tup (W.cons (W.const (.int 1)) (W.cons (W.subT (W.loc 0) (W.const (.int 1))) W.nil))) (W.cons (W.tup (W.cons (W.const (.int 1)) (W.cons (W.subT (W.loc 0) (W.const (.int 2))) W.nil))) W.nil))))
    W.skip) W.skip)
    (W.seq (W.ite (W.orT (W.cmpT gEq (W.loc 1) (W.const (.str "get_constant"))) (W.orT (W.cmpT gEq (W.loc 1) (W.const (.str "get_structure"))) (W.tt false))) (W.seq (W.ret (W.list (W.cons (W.tup (W.cons (W.const (.int 1)) (W.cons (W.subT (W.loc 0) (W.const (.int 2))) W.nil))) W.nil)))
    W.skip) W.skip)
    (W.seq (W.ite (W.cmpT gEq (W.loc 1) (W.const (.str "get_list"))) (W.seq (W.ret (W.list (W.cons (W.tup (W.cons (W.const (.int 1)) (W.cons (W.subT (W.loc 0) (W.const (.int 1))) W.nil))) W.nil)))
    W.skip) W.skip)
    (W.seq (W.ite (W.orT (W.cmpT gEq (W.loc 1) (W.const (.str "unify_variable"))) (W.orT (W.cmpT gEq (W.loc 1) (W.const (.str "set_variable"))) (W.tt false))) (W.seq (W.ret (W.list (W.cons (W.tup (W.cons (W.const (.int 2)) (W.cons (W.subT (W.loc 0) (W.const (.int 1))) W.nil))) W.nil)))
    W.skip) W.skip)
    (W.seq (W.ite (W.orT (W.cmpT gEq (W.loc 1) (W.const (.str "unify_value"))) (W.orT (W.cmpT gEq (W.loc 1) (W.const (.str "set_value"))) (W.tt false))) (W.seq (W.ret (W.list (W.cons (W.tup (W.cons (W.const (.int 1)) (W.cons (W.subT (W.loc 0) (W.const (.int 1))) W.nil))) W.nil)))
    W.skip) W.skip)
    (W.seq (W.ite (W.orT (W.cmpT gEq (W.loc 1) (W.const (.str "unify_local_value"))) (W.orT (W.cmpT gEq (W.loc 1) (W.const (.str "set_local_value"))) (W.tt false))) (W.seq (W.ret (W.list (W.cons (W.tup (W.cons (W.const (.int 3)) (W.cons (W.subT (W.loc 0) (W.const (.int 1))) W.nil))) W.nil)))
    W.skip) W.skip)
    (W.seq (W.ite (W.cmpT gEq (W.loc 1) (W.const (.str "put_variable"))) (W.seq (W.ret (W.list (W.cons (W.tup (W.cons (W.const (.int 2)) (W.cons (W.subT (W.loc 0) (W.const (.int 1))) W.nil))) (W.cons (W.tup (W.cons (W.const (.int 2)) (W.cons (W.subT (W.loc 0) (W.const (.int 2))) W.nil))) W.nil))))
    W.skip) W.skip)
    (W.seq (W.ite (W.orT (W.cmpT gEq (W.loc 1) (W.const (.str "put_value"))) (W.orT (W.cmpT gEq (W.loc 1) (W.const (.str "put_unsafe_value"))) (W.tt false))) (W.seq (W.ret (W.list (W.cons (W.tup (W.cons (W.const (.int 1)) (W.cons (W.subT (W.loc 0) (W.const (.int 1))) W.nil))) (W.cons (W.tup (W.cons (W.const (.int 2)) (W.cons (W.subT (W.loc 0) (W.const (.int 2))) W.nil))) W.nil))))
    W.skip) W.skip)
    (W.seq (W.ite (W.orT (W.cmpT gEq (W.loc 1) (W.const (.str "put_constant"))) (W.orT (W.cmpT gEq (W.loc 1) (W.const (.str "put_structure"))) (W.tt false))) (W.seq (W.ret (W.list (W.cons (W.tup (W.cons (W.const (.int 2)) (W.cons (W.subT (W.loc 0) (W.const (.int 2))) W.nil))) W.nil)))
    W.skip) W.skip)
    (W.seq (W.ite (W.orT (W.cmpT gEq (W.loc 1) (W.const (.str "put_list"))) (W.orT (W.cmpT gEq (W.loc 1) (W.const (.str "put_void"))) (W.tt false))) (W.seq (W.ret (W.list (W.cons (W.tup (W.cons (W.const (.int 2)) (W.cons (W.subT (W.loc 0) (W.const (.int 1))) W.nil))) W.nil)))
    W.skip) W.skip)
    (W.seq (W.ite (W.orT (W.cmpT gEq (W.loc 1) (W.const (.str "get_level"))) (W.orT (W.cmpT gEq (W.loc 1) (W.const (.str "mark"))) (W.tt false))) (W.seq (W.ret (W.list (W.cons (W.tup (W.cons (W.const (.int 2)) (W.cons (W.subT (W.loc 0) (W.const (.int 1))) W.nil))) W.nil)))
    W.skip) W.skip)
    (W.seq (W.ite (W.cmpT gEq (W.loc 1) (W.const (.str "cut_to"))) (W.seq (W.ret (W.list (W.cons (W.tup (W.cons (W.const (.int 1)) (W.cons (W.subT (W.loc 0) (W.const (.int 1))) W.nil))) W.nil)))
    W.skip) W.skip)
    (W.seq (W.ret (W.list W.nil))
    W.skip)))))))))))))))
theorem sm_operand_roles (kf : KF c.K)  : SS c n nm_operand_roles sc_operand_roles bd_operand_roles (w_operand_roles ) :=
  have F := F_operand_roles
  (SS.cons (SX.a (i := 1) F (by first | kernel_rfl | decide +kernel) (fun _ => rfl) (SE.subT (fun _ _ => rfl) (SE.l (i := 0) F (by first | kernel_rfl | decide +kernel)) SE.int))
    (SS.cons (SX.ite (ST.cmp cmp_eq (SE.l (i := 1) F (by first | kernel_rfl | decide +kernel)) SE.str rfl) (SS.cons (SX.ret (SE.list (SEs.cons (star_ne rfl) (SE.tup (SEs.cons (star_ne rfl) (SE.gI F (by first | kernel_rfl | decide +kernel) kf.i_READS) (SEs.cons (star_ne rfl) (SE.subT (fun _ _ => rfl) (SE.l (i := 0) F (by first | kernel_rfl | decide +kernel)) SE.int) SEs.nil))) (SEs.cons (star_ne rfl) (SE.tup (SEs.cons (star_ne rfl) (SE.gI F (by first | kernel_rfl | decide +kernel) kf.i_WRITES) (SEs.cons (star_ne rfl) (SE.subT (fun _ _ => rfl) (SE.l (i := 0) F (by first | kernel_rfl | decide +kernel)) SE.int) SEs.nil))) SEs.nil))))
    SS.nil) SS.nil)
    (SS.cons (SX.ite (ST.cmp cmp_eq (SE.l (i := 1) F (by first | kernel_rfl | decide +kernel)) SE.str rfl) (SS.cons (SX.ret (SE.list (SEs.cons (star_ne rfl) (SE.tup (SEs.cons (star_ne rfl) (SE.gI F (by first | kernel_rfl | decide +kernel) kf.i_READS) (SEs.cons (star_ne rfl) (SE.subT (fun _ _ => rfl) (SE.l (i := 0) F (by first | kernel_rfl | decide +kernel)) SE.int) SEs.nil))) (SEs.cons (star_ne rfl) (SE.tup (SEs.cons (star_ne rfl) (SE.gI F (by first | kernel_rfl | decide +kernel) kf.i_READS) (SEs.cons (star_ne rfl) (SE.subT (fun _ _ => rfl) (SE.l (i := 0) F (by first | kernel_rfl | decide +kernel)) SE.int) SEs.nil))) SEs.nil))))
    SS.nil) SS.nil)
    (SS.cons (SX.ite (ST.bool (SAll.consO (ST.cmp cmp_eq (SE.l (i := 1) F (by first | kernel_rfl | decide +kernel)) SE.str rfl) (SAll.consO (ST.cmp cmp_eq (SE.l (i := 1) F (by first | kernel_rfl | decide +kernel)) SE.str rfl) SAll.nilO))) (SS.cons (SX.ret (SE.list (SEs.cons (star_ne rfl) (SE.tup (SEs.cons (star_ne rfl) (SE.gI F (by first | kernel_rfl | decide +kernel) kf.i_READS) (SEs.cons (star_ne rfl) (SE.subT (fun _ _ => rfl) (SE.l (i := 0) F (by first | kernel_rfl | decide +kernel)) SE.int) SEs.nil))) SEs.nil)))
    SS.nil) SS.nil)
    (SS.cons (SX.ite (ST.cmp cmp_eq (SE.l (i := 1) F (by first | kernel_rfl | decide +kernel)) SE.str rfl) (SS.cons (SX.ret (SE.list (SEs.cons (star_ne rfl) (SE.tup (SEs.cons (star_ne rfl) (SE.gI F (by first | kernel_rfl | decide +kernel) kf.i_READS) (SEs.cons (star_ne rfl) (SE.subT (fun _ _ => rfl) (SE.l (i := 0) F (by first | kernel_rfl | decide +kernel)) SE.int) SEs.nil))) SEs.nil)))
    SS.nil) SS.nil)
    (SS.cons (SX.ite (ST.bool (SAll.consO (ST.cmp cmp_eq (SE.l (i := 1) F (by first | kernel_rfl | decide +kernel)) SE.str rfl) (SAll.consO (ST.cmp cmp_eq (SE.l (i := 1) F (by first | kernel_rfl | decide +kernel)) SE.str rfl) SAll.nilO))) (SS.cons (SX.ret (SE.list (SEs.cons (star_ne rfl) (SE.tup (SEs.cons (star_ne rfl) (SE.gI F (by first | kernel_rfl | decide +kernel) kf.i_WRITES) (SEs.cons (star_ne rfl) (SE.subT (fun _ _ => rfl) (SE.l (i := 0) F (by first | kernel_rfl | decide +kernel)) SE.int) SEs.nil))) SEs.nil)))
    SS.nil) SS.nil)
    (SS.cons (SX.ite (ST.bool (SAll.consO (ST.cmp cmp_eq (SE.l (i := 1) F (by first | kernel_rfl | decide +kernel)) SE.str rfl) (SAll.consO (ST.cmp cmp_eq (SE.l (i := 1) F (by first | kernel_rfl | decide +kernel)) SE.str rfl) SAll.nilO))) (SS.cons (SX.ret (SE.list (SEs.cons (star_ne rfl) (SE.tup (SEs.cons (star_ne rfl) (SE.gI F (by first | kernel_rfl | decide +kernel) kf.i_READS) (SEs.cons (star_ne rfl) (SE.subT (fun _ _ => rfl) (SE.l (i := 0) F (by first | kernel_rfl | decide +kernel)) SE.int) SEs.nil))) SEs.nil)))
    SS.nil) SS.nil)
    (SS.cons (SX.ite (ST.bool (SAll.consO (ST.cmp cmp_eq (SE.l (i := 1) F (by first | kernel_rfl | decide +kernel)) SE.str rfl) (SAll.consO (ST.cmp cmp_eq (SE.l (i := 1) F (by first | kernel_rfl | decide +kernel)) SE.str rfl) SAll.nilO))) (SS.cons (SX.ret (SE.list (SEs.cons (star_ne rfl) (SE.tup (SEs.cons (star_ne rfl) (SE.gI F (by first | kernel_rfl | decide +kernel) kf.i_UPDATES) (SEs.cons (star_ne rfl) (SE.subT (fun _ _ => rfl) (SE.l (i := 0) F (by first | kernel_rfl | decide +kernel)) SE.int) SEs.nil))) SEs.nil)))
    SS.nil) SS.nil)
    (SS.cons (SX.ite (ST.cmp cmp_eq (SE.l (i := 1) F (by first | kernel_rfl | decide +kernel)) SE.str rfl) (SS.cons (SX.ret (SE.list (SEs.cons (star_ne rfl) (SE.tup (SEs.cons (star_ne rfl) (SE.gI F (by first | kernel_rfl | decide +kernel) kf.i_WRITES) (SEs.cons (star_ne rfl) (SE.subT (fun _ _ => rfl) (SE.l (i := 0) F (by first | kernel_rfl | decide +kernel)) SE.int) SEs.nil))) (SEs.cons (star_ne rfl) (SE.tup (SEs.cons (star_ne rfl) (SE.gI F (by first | kernel_rfl | decide +kernel) kf.i_WRITES) (SEs.cons (star_ne rfl) (SE.subT (fun _ _ => rfl) (SE.l (i := 0) F (by first | kernel_rfl | decide +kernel)) SE.int) SEs.nil))) SEs.nil))))
    SS.nil) SS.nil)
    (SS.cons (SX.ite (ST.bool (SAll.consO (ST.cmp cmp_eq (SE.l (i := 1) F (by first | kernel_rfl | decide +kernel)) SE.str rfl) (SAll.consO (ST.cmp cmp_eq (SE.l (i := 1) F (by first | kernel_rfl | decide +kernel)) SE.str rfl) SAll.nilO))) (SS.cons (SX.ret (SE.list (SEs.cons (star_ne rfl) (SE.tup (SEs.cons (star_ne rfl) (SE.gI F (by first | kernel_rfl | decide +kernel) kf.i_READS) (SEs.cons (star_ne rfl) (SE.subT (fun _ _ => rfl) (SE.l (i := 0) F (by first | kernel_rfl | decide +kernel)) SE.int) SEs.nil))) (SEs.cons (star_ne rfl) (SE.tup (SEs.cons (star_ne rfl) (SE.gI F (by first | kernel_rfl | decide +kernel) kf.i_WRITES) (SEs.cons (star_ne rfl) (SE.subT (fun _ _ => rfl) (SE.l (i := 0) F (by first | kernel_rfl | decide +kernel)) SE.int) SEs.nil))) SEs.nil))))
    SS.nil) SS.nil)
    (SS.cons (SX.ite (ST.bool (SAll.consO (ST.cmp cmp_eq (SE.l (i := 1) F (by first | kernel_rfl | decide +kernel)) SE.str rfl) (SAll.consO (ST.cmp cmp_eq (SE.l (i := 1) F (by first | kernel_rfl | decide +kernel)) SE.str rfl) SAll.nilO))) (SS.cons (SX.ret (SE.list (SEs.cons (star_ne rfl) (SE.tup (SEs.cons (star_ne rfl) (SE.gI F (by first | kernel_rfl | decide +kernel) kf.i_WRITES) (SEs.cons (star_ne rfl) (SE.subT (fun _ _ => rfl) (SE.l (i := 0) F (by first | kernel_rfl | decide +kernel)) SE.int) SEs.nil))) SEs.nil)))
    SS.nil) SS.nil)
    (SS.cons (SX.ite (ST.bool (SAll.consO (ST.cmp cmp_eq (SE.l (i := 1) F (by first | kernel_rfl | decide +kernel)) SE.str rfl) (SAll.consO (ST.cmp cmp_eq (SE.l (i := 1) F (by first | kernel_rfl | decide +kernel)) SE.str rfl) SAll.nilO))) (SS.cons (SX.ret (SE.list (SEs.cons (star_ne rfl) (SE.tup (SEs.cons (star_ne rfl) (SE.gI F (by first | kernel_rfl | decide +kernel) kf.i_WRITES) (SEs.cons (star_ne rfl) (SE.subT (fun _ _ => rfl) (SE.l (i := 0) F (by first | kernel_rfl | decide +kernel)) SE.int) SEs.nil))) SEs.nil)))
    SS.nil) SS.nil)
    (SS.cons (SX.ite (ST.bool (SAll.consO (ST.cmp cmp_eq (SE.l (i := 1) F (by first | kernel_rfl | decide +kernel)) SE.str rfl) (SAll.consO (ST.cmp cmp_eq (SE.l (i := 1) F (by first | kernel_rfl | decide +kernel)) SE.str rfl) SAll.nilO))) (SS.cons (SX.ret (SE.list (SEs.cons (star_ne rfl) (SE.tup (SEs.cons (star_ne rfl) (SE.gI F (by first | kernel_rfl | decide +kernel) kf.i_WRITES) (SEs.cons (star_ne rfl) (SE.subT (fun _ _ => rfl) (SE.l (i := 0) F (by first | kernel_rfl | decide +kernel)) SE.int) SEs.nil))) SEs.nil)))
    SS.nil) SS.nil)
    (SS.cons (SX.ite (ST.cmp cmp_eq (SE.l (i := 1) F (by first | kernel_rfl | decide +kernel)) SE.str rfl) (SS.cons (SX.ret (SE.list (SEs.cons (star_ne rfl) (SE.tup (SEs.cons (star_ne rfl) (SE.gI F (by first | kernel_rfl | decide +kernel) kf.i_READS) (SEs.cons (star_ne rfl) (SE.subT (fun _ _ => rfl) (SE.l (i := 0) F (by first | kernel_rfl | decide +kernel)) SE.int) SEs.nil))) SEs.nil)))
    SS.nil) SS.nil)
    (SS.cons (SX.ret (SE.list SEs.nil))
    SS.nil)))))))))))))))
noncomputable def w_ends_arguments : WS := (W.seq (W.asg 1 (W.subT (W.loc 0) (W.const (.int 0))))
    (W.seq (W.ret (W.orV (W.cmp gEq (W.loc 1) (W.const (.str "call"))) (W.orV (W.cmp gEq (W.loc 1) (W.const (.str "execute"))) (W.cmp gEq (W.loc 1) (W.const (.str "builtin"))))))
    W.skip))
theorem sm_ends_arguments (kf : KF c.K)  : SS c n nm_ends_arguments sc_ends_arguments bd_ends_arguments (w_ends_arguments ) :=
  have F := F_ends_arguments
  (SS.cons (SX.a (i := 1) F (by first | kernel_rfl | decide +kernel) (fun _ => rfl) (SE.subT (fun _ _ => rfl) (SE.l (i := 0) F (by first | kernel_rfl | decide +kernel)) SE.int))
    (SS.cons (SX.ret (SE.boolOp (SBo.consO (SE.cmp cmp_eq (SE.l (i := 1) F (by first | kernel_rfl | decide +kernel)) SE.str rfl) (SBo.consO (SE.cmp cmp_eq (SE.l (i := 1) F (by first | kernel_rfl | decide +kernel)) SE.str rfl) (SBo.one (SE.cmp cmp_eq (SE.l (i := 1) F (by first | kernel_rfl | decide +kernel)) SE.str rfl))))))
    SS.nil))
noncomputable def w_Oc_init : WS := (W.seq (W.setA 563 19 (W.loc 0) (W.loc 1))
    (W.seq (W.setA 563 20 (W.loc 0) (W.loc 2))
    (W.seq (W.setA 563 21 (W.loc 0) (W.loc 3))
    (W.seq (W.setA 563 22 (W.loc 0) (W.loc 4))
    W.skip))))
theorem sm_Oc_init (kf : KF c.K)  : SS c n nm_Oc_init sc_Oc_init bd_Oc_init (w_Oc_init ) :=
  have F := F_Oc_init
  (SS.cons (SX.setA (k := 19) (by decide) rfl kf.s_563_kind (fun _ => rfl) (SE.l (i := 0) F (by first | kernel_rfl | decide +kernel)) (SE.l (i := 1) F (by first | kernel_rfl | decide +kernel)))
    (SS.cons (SX.setA (k := 20) (by decide) rfl kf.s_563_number (fun _ => rfl) (SE.l (i := 0) F (by first | kernel_rfl | decide +kernel)) (SE.l (i := 2) F (by first | kernel_rfl | decide +kernel)))
    (SS.cons (SX.setA (k := 21) (by decide) rfl kf.s_563_start (fun _ => rfl) (SE.l (i := 0) F (by first | kernel_rfl | decide +kernel)) (SE.l (i := 3) F (by first | kernel_rfl | decide +kernel)))
    (SS.cons (SX.setA (k := 22) (by decide) rfl kf.s_563_stop (fun _ => rfl) (SE.l (i := 0) F (by first | kernel_rfl | decide +kernel)) (SE.l (i := 4) F (by first | kernel_rfl | decide +kernel)))
    SS.nil))))
noncomputable def w_overlaps : WS := (W.seq (W.ret (W.andV (W.cmp gLt (W.attr 563 21 (W.loc 0)) (W.attr 563 22 (W.loc 1))) (W.cmp gLt (W.attr 563 21 (W.loc 1)) (W.attr 563 22 (W.loc 0)))))
    W.skip)
theorem sm_overlaps (kf : KF c.K)  : SS c n nm_overlaps sc_overlaps bd_overlaps (w_overlaps ) :=
  have F := F_overlaps
  (SS.cons (SX.ret (SE.boolOp (SBo.consA (SE.cmp cmp_lt (SE.attr (k := 21) (fun _ => rfl) (by decide) rfl kf.a_563_start (SE.l (i := 0) F (by first | kernel_rfl | decide +kernel))) (SE.attr (k := 22) (fun _ => rfl) (by decide) rfl kf.a_563_stop (SE.l (i := 1) F (by first | kernel_rfl | decide +kernel))) rfl) (SBo.one (SE.cmp cmp_lt (SE.attr (k := 21) (fun _ => rfl) (by decide) rfl kf.a_563_start (SE.l (i := 1) F (by first | kernel_rfl | decide +kernel))) (SE.attr (k := 22) (fun _ => rfl) (by decide) rfl kf.a_563_stop (SE.l (i := 0) F (by first | kernel_rfl | decide +kernel))) rfl)))))
    SS.nil)
noncomputable def w_intervals (S_ends_arguments S_Occupation S_operand_roles : Spec) : WS := (W.seq (W.asg 2 (W.list W.nil))
    (W.seq (W.asg 3 W.dictDi)
    (W.seq (W.asg 4 (W.const (.int 1)))
    (W.seq (W.while (W.cmpT gLe (W.loc 4) (W.loc 1)) W.bad)
    (W.seq (W.asg 5 W.dictDi)
    (W.seq (W.asg 6 W.dictDi)
    (W.seq (W.asg 7 (W.const (.int 0)))
    (W.seq (W.for (W.loc 0) (W.tName 8) (W.seq (W.ite (W.valT (W.call S_ends_arguments (W.cons (W.loc 8) W.nil))) W.bad W.skip)
    (W.seq (W.for (W.call S_operand_roles (W.cons (W.loc 8) W.nil)) (W.tPair 9 10) (W.seq (W.asg 4 (W.subT (W.loc 10) (W.const (.int 1))))
    (W.seq (W.ite (W.cmpT gEq (W.subT (W.loc 10) (W.const (.int 0))) (W.const (.str "t"))) (W.seq (W.ite (W.notInDi (W.loc 4) (W.loc 6)) (W.seq (W.putDi (W.loc 6) (W.loc 4) (W.call S_Occupation (W.cons (W.const (.str "temp")) (W.cons (W.loc 4) (W.cons (W.loc 7) (W.cons (W.bin gAdd (W.loc 7) (W.const (.int 1))) W.nil))))))
    (W.seq (W.expr (W.methB isL Sp.append (W.loc 2) (W.cons (W.subDi (W.loc 6) (W.loc 4)) W.nil)))
    W.skip)) (W.seq (W.ite (W.cmpT gGt (W.loc 7) (W.attr 563 22 (W.subDi (W.loc 6) (W.loc 4)))) (W.seq (W.setA 563 22 (W.subDi (W.loc 6) (W.loc 4)) (W.loc 7))
    W.skip) W.skip)
    W.skip))
    W.skip) W.bad)
    W.skip)))
    (W.seq (W.aug gAdd 7 (W.const (.int 1)))
    W.skip))))
    (W.seq (W.ret (W.compO 563 (W.loc 2)))
    W.skip)))))))))
theorem sm_intervals (kf : KF c.K) {S_ends_arguments S_Occupation S_operand_roles : Spec} (h_ends_arguments : CallOk c n (.ref 539) S_ends_arguments) (h_Occupation : CallOk c n (.ref 563) S_Occupation) (h_operand_roles : CallOk c n (.ref 532) S_operand_roles) : SS c n nm_intervals sc_intervals bd_intervals (w_intervals S_ends_arguments S_Occupation S_operand_roles) :=
  have F := F_intervals
  (SS.cons (SX.a (i := 2) F (by first | kernel_rfl | decide +kernel) (fun _ => rfl) (SE.list SEs.nil))
    (SS.cons (SX.a (i := 3) F (by first | kernel_rfl | decide +kernel) (fun _ => rfl) SE.dictDi)
    (SS.cons (SX.a (i := 4) F (by first | kernel_rfl | decide +kernel) (fun _ => rfl) SE.int)
    (SS.cons (SX.while (ST.cmp cmp_le (SE.l (i := 4) F (by first | kernel_rfl | decide +kernel)) (SE.l (i := 1) F (by first | kernel_rfl | decide +kernel)) rfl) SS.bad)
    (SS.cons (SX.a (i := 5) F (by first | kernel_rfl | decide +kernel) (fun _ => rfl) SE.dictDi)
    (SS.cons (SX.a (i := 6) F (by first | kernel_rfl | decide +kernel) (fun _ => rfl) SE.dictDi)
    (SS.cons (SX.a (i := 7) F (by first | kernel_rfl | decide +kernel) (fun _ => rfl) SE.int)
    (SS.cons (SX.for (fun _ _ => rfl) (SE.l (i := 0) F (by first | kernel_rfl | decide +kernel)) (SA.nm (i := 8) F (by first | kernel_rfl | decide +kernel)) (SS.cons (SX.ite (ST.val (SE.cK F kf.g_ends_arguments (by first | kernel_rfl | decide +kernel) (fun _ => rfl) (SEs.cons (star_ne rfl) (SE.l (i := 8) F (by first | kernel_rfl | decide +kernel)) SEs.nil) h_ends_arguments) (fun _ _ => rfl)) SS.bad SS.nil)
    (SS.cons (SX.for (fun _ _ => rfl) (SE.cK F kf.g_operand_roles (by first | kernel_rfl | decide +kernel) (fun _ => rfl) (SEs.cons (star_ne rfl) (SE.l (i := 8) F (by first | kernel_rfl | decide +kernel)) SEs.nil) h_operand_roles) (SA.p (i := 9) (j := 10) F (by first | kernel_rfl | decide +kernel) (by first | kernel_rfl | decide +kernel)) (SS.cons (SX.a (i := 4) F (by first | kernel_rfl | decide +kernel) (fun _ => rfl) (SE.subT (fun _ _ => rfl) (SE.l (i := 10) F (by first | kernel_rfl | decide +kernel)) SE.int))
    (SS.cons (SX.ite (ST.cmp cmp_eq (SE.subT (fun _ _ => rfl) (SE.l (i := 10) F (by first | kernel_rfl | decide +kernel)) SE.int) SE.str rfl) (SS.cons (SX.ite (ST.notInDi (SE.l (i := 4) F (by first | kernel_rfl | decide +kernel)) (SE.l (i := 6) F (by first | kernel_rfl | decide +kernel)) rfl) (SS.cons (SX.putDi (fun _ => rfl) (SE.l (i := 6) F (by first | kernel_rfl | decide +kernel)) (SE.l (i := 4) F (by first | kernel_rfl | decide +kernel)) (SE.cK F kf.g_Occupation (by first | kernel_rfl | decide +kernel) (fun _ => rfl) (SEs.cons (star_ne rfl) SE.str (SEs.cons (star_ne rfl) (SE.l (i := 4) F (by first | kernel_rfl | decide +kernel)) (SEs.cons (star_ne rfl) (SE.l (i := 7) F (by first | kernel_rfl | decide +kernel)) (SEs.cons (star_ne rfl) (SE.bin op_add (SE.l (i := 7) F (by first | kernel_rfl | decide +kernel)) SE.int) SEs.nil)))) h_Occupation))
    (SS.cons (SX.e F (fun _ => rfl) (SE.mApp (fun _ => rfl) (by decide) rfl (SE.l (i := 2) F (by first | kernel_rfl | decide +kernel)) (SEs.cons (star_ne rfl) (SE.subDi (fun _ _ => rfl) (SE.l (i := 6) F (by first | kernel_rfl | decide +kernel)) (SE.l (i := 4) F (by first | kernel_rfl | decide +kernel))) SEs.nil) (fun _ => rfl)))
    SS.nil)) (SS.cons (SX.ite (ST.cmp cmp_gt (SE.l (i := 7) F (by first | kernel_rfl | decide +kernel)) (SE.attr (k := 22) (fun _ => rfl) (by decide) rfl kf.a_563_stop (SE.subDi (fun _ _ => rfl) (SE.l (i := 6) F (by first | kernel_rfl | decide +kernel)) (SE.l (i := 4) F (by first | kernel_rfl | decide +kernel)))) rfl) (SS.cons (SX.setA (k := 22) (by decide) rfl kf.s_563_stop (fun _ => rfl) (SE.subDi (fun _ _ => rfl) (SE.l (i := 6) F (by first | kernel_rfl | decide +kernel)) (SE.l (i := 4) F (by first | kernel_rfl | decide +kernel))) (SE.l (i := 7) F (by first | kernel_rfl | decide +kernel)))
    SS.nil) SS.nil)
    SS.nil))
    SS.nil) SS.bad)
    SS.nil)))
    (SS.cons (SX.au (i := 7) F (by first | kernel_rfl | decide +kernel) inp_add SE.int)
    SS.nil))))
    (SS.cons (SX.ret (SE.compO kf.a_563_stop kf.a_563_start (fun _ => rfl) (by first | kernel_rfl | decide +kernel) rfl (by first | kernel_rfl | decide +kernel) (by first | kernel_rfl | decide +kernel) (by first | kernel_rfl | decide +kernel) (fun _ _ => rfl) (fun _ => rfl) (fun _ => rfl) (SE.l (i := 2) F (by first | kernel_rfl | decide +kernel))))
    SS.nil)))))))))
noncomputable def w_wishes : WS := (W.seq (W.asg 1 W.dictDi)
    (W.seq (W.for (W.loc 0) (W.tName 2) (W.seq (W.asg 3 (W.subT (W.loc 2) (W.const (.int 0))))
    (W.seq (W.ite (W.cmpT gEq (W.loc 3) (W.const (.str "get_variable"))) W.bad (W.seq (W.ite (W.cmpT gEq (W.loc 3) (W.const (.str "put_value"))) W.bad (W.seq W.cont
    W.skip))
    W.skip))
    W.bad)))
    (W.seq (W.ret (W.loc 1))
    W.skip)))
theorem sm_wishes (kf : KF c.K)  : SS c n nm_wishes sc_wishes bd_wishes (w_wishes ) :=
  have F := F_wishes
  (SS.cons (SX.a (i := 1) F (by first | kernel_rfl | decide +kernel) (fun _ => rfl) SE.dictDi)
    (SS.cons (SX.for (fun _ _ => rfl) (SE.l (i := 0) F (by first | kernel_rfl | decide +kernel)) (SA.nm (i := 2) F (by first | kernel_rfl | decide +kernel)) (SS.cons (SX.a (i := 3) F (by first | kernel_rfl | decide +kernel) (fun _ => rfl) (SE.subT (fun _ _ => rfl) (SE.l (i := 2) F (by first | kernel_rfl | decide +kernel)) SE.int))
    (SS.cons (SX.ite (ST.cmp cmp_eq (SE.l (i := 3) F (by first | kernel_rfl | decide +kernel)) SE.str rfl) SS.bad (SS.cons (SX.ite (ST.cmp cmp_eq (SE.l (i := 3) F (by first | kernel_rfl | decide +kernel)) SE.str rfl) SS.bad (SS.cons SX.cont
    SS.nil))
    SS.nil))
    SS.bad)))
    (SS.cons (SX.ret (SE.l (i := 1) F (by first | kernel_rfl | decide +kernel)))
    SS.nil)))
noncomputable def w_RF_init : WS := (W.seq (W.setA 624 23 (W.loc 0) W.dictDi)
    (W.seq (W.setA 624 24 (W.loc 0) W.dictDi)
    W.skip))
theorem sm_RF_init (kf : KF c.K)  : SS c n nm_RF_init sc_RF_init bd_RF_init (w_RF_init ) :=
  have F := F_RF_init
  (SS.cons (SX.setA (k := 23) (by decide) rfl kf.s_624_taken (fun _ => rfl) (SE.l (i := 0) F (by first | kernel_rfl | decide +kernel)) SE.dictDi)
    (SS.cons (SX.setA (k := 24) (by decide) rfl kf.s_624_home (fun _ => rfl) (SE.l (i := 0) F (by first | kernel_rfl | decide +kernel)) SE.dictDi)
    SS.nil))
noncomputable def w_occupy : WS := (W.seq (W.expr (W.methB isL Sp.append (W.methB isDi Sp.setdef (W.attr 624 23 (W.loc 0)) (W.cons (W.loc 1) (W.cons (W.list W.nil) W.nil))) (W.cons (W.loc 2) W.nil)))
    W.skip)
theorem sm_occupy (kf : KF c.K)  : SS c n nm_occupy sc_occupy bd_occupy (w_occupy ) :=
  have F := F_occupy
  (SS.cons (SX.e F (fun _ => rfl) (SE.mApp (fun _ => rfl) (by decide) rfl (SE.mSetd (fun _ => rfl) (by decide) rfl (SE.attr (k := 23) (fun _ => rfl) (by decide) rfl kf.a_624_taken (SE.l (i := 0) F (by first | kernel_rfl | decide +kernel))) (SEs.cons (star_ne rfl) (SE.l (i := 1) F (by first | kernel_rfl | decide +kernel)) (SEs.cons (star_ne rfl) (SE.list SEs.nil) SEs.nil)) (fun _ => rfl)) (SEs.cons (star_ne rfl) (SE.l (i := 2) F (by first | kernel_rfl | decide +kernel)) SEs.nil) (fun _ => rfl)))
    SS.nil)
noncomputable def w_is_free (S_m_overlaps : Spec) : WS := (W.seq (W.for (W.methB isDi (Sp.fn gGetDi) (W.attr 624 23 (W.loc 0)) (W.cons (W.loc 1) (W.cons (W.list W.nil) W.nil))) (W.tName 3) (W.seq (W.ite (W.valT (W.meth 563 S_m_overlaps (W.loc 2) (W.cons (W.loc 3) W.nil))) (W.seq (W.ret (W.const (.bool false)))
    W.skip) W.skip)
    W.skip))
    (W.seq (W.ret (W.const (.bool true)))
    W.skip))
theorem sm_is_free (kf : KF c.K) {S_m_overlaps : Spec} (h_m_overlaps : CallOk c n (.ref 560) S_m_overlaps) : SS c n nm_is_free sc_is_free bd_is_free (w_is_free S_m_overlaps) :=
  have F := F_is_free
  (SS.cons (SX.for (fun _ _ => rfl) (SE.mGetDi (fun _ => rfl) (by decide) rfl (SE.attr (k := 23) (fun _ => rfl) (by decide) rfl kf.a_624_taken (SE.l (i := 0) F (by first | kernel_rfl | decide +kernel))) (SEs.cons (star_ne rfl) (SE.l (i := 1) F (by first | kernel_rfl | decide +kernel)) (SEs.cons (star_ne rfl) (SE.list SEs.nil) SEs.nil)) (fun _ => rfl)) (SA.nm (i := 3) F (by first | kernel_rfl | decide +kernel)) (SS.cons (SX.ite (ST.val (SE.me kf.m_overlaps (by first | kernel_rfl | decide +kernel) (fun _ => rfl) (fun _ => rfl) (by decide) rfl (SE.l (i := 2) F (by first | kernel_rfl | decide +kernel)) (SEs.cons (star_ne rfl) (SE.l (i := 3) F (by first | kernel_rfl | decide +kernel)) SEs.nil) h_m_overlaps) (fun _ _ => rfl)) (SS.cons (SX.ret SE.bool)
    SS.nil) SS.nil)
    SS.nil))
    (SS.cons (SX.ret SE.bool)
    SS.nil))
noncomputable def w_wished : WS := (W.seq (W.for (W.loc 2) (W.tName 3) W.bad)
    (W.seq (W.ret (W.const (.int 0)))
    W.skip))
theorem sm_wished (kf : KF c.K)  : SS c n nm_wished sc_wished bd_wished (w_wished ) :=
  have F := F_wished
  (SS.cons (SX.for (fun _ _ => rfl) (SE.l (i := 2) F (by first | kernel_rfl | decide +kernel)) (SA.nm (i := 3) F (by first | kernel_rfl | decide +kernel)) SS.bad)
    (SS.cons (SX.ret SE.int)
    SS.nil))
noncomputable def w_place (S_m_wished S_m_is_free S_m_occupy : Spec) : WS := (W.seq (W.asg 3 (W.meth 624 S_m_wished (W.loc 0) (W.cons (W.loc 1) (W.cons (W.loc 2) W.nil))))
    (W.seq (W.ite (W.cmpT gEq (W.loc 3) (W.const (.int 0))) (W.seq (W.asg 3 (W.const (.int 1)))
    (W.seq (W.while (W.notT (W.valT (W.meth 624 S_m_is_free (W.loc 0) (W.cons (W.loc 3) (W.cons (W.loc 1) W.nil))))) (W.seq (W.aug gAdd 3 (W.const (.int 1)))
    W.skip))
    W.skip)) W.skip)
    (W.seq (W.expr (W.meth 624 S_m_occupy (W.loc 0) (W.cons (W.loc 3) (W.cons (W.loc 1) W.nil))))
    (W.seq (W.putDi (W.attr 624 24 (W.loc 0)) (W.attr 563 20 (W.loc 1)) (W.loc 3))
    W.skip))))
theorem sm_place (kf : KF c.K) {S_m_wished S_m_is_free S_m_occupy : Spec} (h_m_wished : CallOk c n (.ref 614) S_m_wished) (h_m_is_free : CallOk c n (.ref 607) S_m_is_free) (h_m_occupy : CallOk c n (.ref 600) S_m_occupy) : SS c n nm_place sc_place bd_place (w_place S_m_wished S_m_is_free S_m_occupy) :=
  have F := F_place
  (SS.cons (SX.a (i := 3) F (by first | kernel_rfl | decide +kernel) (fun _ => rfl) (SE.me kf.m_wished (by first | kernel_rfl | decide +kernel) (fun _ => rfl) (fun _ => rfl) (by decide) rfl (SE.l (i := 0) F (by first | kernel_rfl | decide +kernel)) (SEs.cons (star_ne rfl) (SE.l (i := 1) F (by first | kernel_rfl | decide +kernel)) (SEs.cons (star_ne rfl) (SE.l (i := 2) F (by first | kernel_rfl | decide +kernel)) SEs.nil)) h_m_wished))
    (SS.cons (SX.ite (ST.cmp cmp_eq (SE.l (i := 3) F (by first | kernel_rfl | decide +kernel)) SE.int rfl) (SS.cons (SX.a (i := 3) F (by first | kernel_rfl | decide +kernel) (fun _ => rfl) SE.int)
    (SS.cons (SX.while (ST.not (ST.val (SE.me kf.m_is_free (by first | kernel_rfl | decide +kernel) (fun _ => rfl) (fun _ => rfl) (by decide) rfl (SE.l (i := 0) F (by first | kernel_rfl | decide +kernel)) (SEs.cons (star_ne rfl) (SE.l (i := 3) F (by first | kernel_rfl | decide +kernel)) (SEs.cons (star_ne rfl) (SE.l (i := 1) F (by first | kernel_rfl | decide +kernel)) SEs.nil)) h_m_is_free) (fun _ _ => rfl))) (SS.cons (SX.au (i := 3) F (by first | kernel_rfl | decide +kernel) inp_add SE.int)
    SS.nil))
    SS.nil)) SS.nil)
    (SS.cons (SX.e F (fun _ => rfl) (SE.me kf.m_occupy (by first | kernel_rfl | decide +kernel) (fun _ => rfl) (fun _ => rfl) (by decide) rfl (SE.l (i := 0) F (by first | kernel_rfl | decide +kernel)) (SEs.cons (star_ne rfl) (SE.l (i := 3) F (by first | kernel_rfl | decide +kernel)) (SEs.cons (star_ne rfl) (SE.l (i := 1) F (by first | kernel_rfl | decide +kernel)) SEs.nil)) h_m_occupy))
    (SS.cons (SX.putDi (fun _ => rfl) (SE.attr (k := 24) (fun _ => rfl) (by decide) rfl kf.a_624_home (SE.l (i := 0) F (by first | kernel_rfl | decide +kernel))) (SE.attr (k := 20) (fun _ => rfl) (by decide) rfl kf.a_563_number (SE.l (i := 1) F (by first | kernel_rfl | decide +kernel))) (SE.l (i := 3) F (by first | kernel_rfl | decide +kernel)))
    SS.nil))))
noncomputable def w_real_operand : WS := (W.seq (W.ite (W.andT (W.valT (W.isTup (W.loc 0))) (W.andT (W.cmpT gEq (W.call (Sp.fn gLen) (W.cons (W.loc 0) W.nil)) (W.const (.int 2))) (W.tt true))) (W.seq (W.ite (W.cmpT gEq (W.subT (W.loc 0) (W.const (.int 0))) (W.const (.str "t"))) (W.seq (W.ret (W.tup (W.cons (W.const (.str "x")) (W.cons (W.subDi (W.loc 1) (W.subT (W.loc 0) (W.const (.int 1)))) W.nil))))
    W.skip) W.skip)
    (W.seq (W.ite (W.cmpT gEq (W.subT (W.loc 0) (W.const (.int 0))) (W.const (.str "a"))) (W.seq (W.ret (W.tup (W.cons (W.const (.str "x")) (W.cons (W.subT (W.loc 0) (W.const (.int 1))) W.nil))))
    W.skip) W.skip)
    W.skip)) W.skip)
    (W.seq (W.ret (W.loc 0))
    W.skip))
theorem sm_real_operand (kf : KF c.K)  : SS c n nm_real_operand sc_real_operand bd_real_operand (w_real_operand ) :=
  have F := F_real_operand
  (SS.cons (SX.ite (ST.bool (SAll.consA (ST.val (SE.iT F kf.n_isinstance kf.n_tuple (fun _ => rfl) (fun _ => rfl) (by first | kernel_rfl | decide +kernel) (by first | kernel_rfl | decide +kernel) (SE.l (i := 0) F (by first | kernel_rfl | decide +kernel))) (fun _ _ => rfl)) (SAll.consA (ST.cmp cmp_eq (SE.cB F kf.n_len (by first | kernel_rfl | decide +kernel) (by first | kernel_rfl | decide +kernel) (by first | kernel_rfl | decide +kernel) (fun _ => rfl) (SEs.cons (star_ne rfl) (SE.l (i := 0) F (by first | kernel_rfl | decide +kernel)) SEs.nil) ok_len) SE.int rfl) SAll.nilA))) (SS.cons (SX.ite (ST.cmp cmp_eq (SE.subT (fun _ _ => rfl) (SE.l (i := 0) F (by first | kernel_rfl | decide +kernel)) SE.int) SE.str rfl) (SS.cons (SX.ret (SE.tup (SEs.cons (star_ne rfl) SE.str (SEs.cons (star_ne rfl) (SE.subDi (fun _ _ => rfl) (SE.l (i := 1) F (by first | kernel_rfl | decide +kernel)) (SE.subT (fun _ _ => rfl) (SE.l (i := 0) F (by first | kernel_rfl | decide +kernel)) SE.int)) SEs.nil))))
    SS.nil) SS.nil)
    (SS.cons (SX.ite (ST.cmp cmp_eq (SE.subT (fun _ _ => rfl) (SE.l (i := 0) F (by first | kernel_rfl | decide +kernel)) SE.int) SE.str rfl) (SS.cons (SX.ret (SE.tup (SEs.cons (star_ne rfl) SE.str (SEs.cons (star_ne rfl) (SE.subT (fun _ _ => rfl) (SE.l (i := 0) F (by first | kernel_rfl | decide +kernel)) SE.int) SEs.nil))))
    SS.nil) SS.nil)
    SS.nil)) SS.nil)
    (SS.cons (SX.ret (SE.l (i := 0) F (by first | kernel_rfl | decide +kernel)))
    SS.nil))
noncomputable def w_allocate (S_RegisterFile S_intervals S_wishes S_m_place S_by_start S_real_operand S_greatest : Spec) : WS := (W.seq (W.asg 4 (W.call S_RegisterFile W.nil))
    (W.seq (W.asg 5 (W.list W.nil))
    (W.seq (W.for (W.call S_intervals (W.cons (W.loc 1) (W.cons (W.loc 2) W.nil))) (W.tName 6) (W.seq (W.ite (W.cmpT gEq (W.attr 563 19 (W.loc 6)) (W.const (.str "temp"))) (W.seq (W.expr (W.methB isL Sp.append (W.loc 5) (W.cons (W.loc 6) W.nil)))
    W.skip) W.bad)
    W.skip))
    (W.seq (W.asg 7 (W.call S_wishes (W.cons (W.loc 1) W.nil)))
    (W.seq (W.for (W.call S_by_start (W.cons (W.loc 5) W.nil)) (W.tName 6) (W.seq (W.expr (W.meth 624 S_m_place (W.loc 4) (W.cons (W.loc 6) (W.cons (W.methB isDi (Sp.fn gGetDi) (W.loc 7) (W.cons (W.attr 563 20 (W.loc 6)) (W.cons (W.list W.nil) W.nil))) W.nil))))
    W.skip))
    (W.seq (W.asg 8 (W.list W.nil))
    (W.seq (W.for (W.loc 1) (W.tName 9) (W.seq (W.asg 10 (W.list (W.cons (W.subT (W.loc 9) (W.const (.int 0))) W.nil)))
    (W.seq (W.for (W.tupRest (W.loc 9)) (W.tName 11) (W.seq (W.expr (W.methB isL Sp.append (W.loc 10) (W.cons (W.call S_real_operand (W.cons (W.loc 11) (W.cons (W.attr 624 24 (W.loc 4)) W.nil))) W.nil)))
    W.skip))
    (W.seq (W.expr (W.methB isL Sp.append (W.loc 8) (W.cons (W.call Sp.tupOf (W.cons (W.loc 10) W.nil)) W.nil)))
    W.skip))))
    (W.seq (W.ite (W.orT (W.cmpT gGt (W.loc 2) (W.loc 3)) (W.orT (W.cmpT gGt (W.call S_greatest (W.cons (W.loc 8) W.nil)) (W.loc 3)) (W.tt false))) W.bad W.skip)
    (W.seq (W.ret (W.loc 8))
    W.skip)))))))))
theorem sm_allocate (kf : KF c.K) {S_RegisterFile S_intervals S_wishes S_m_place S_by_start S_real_operand S_greatest : Spec} (h_RegisterFile : CallOk c n (.ref 624) S_RegisterFile) (h_intervals : CallOk c n (.ref 572) S_intervals) (h_wishes : CallOk c n (.ref 579) S_wishes) (h_m_place : CallOk c n (.ref 621) S_m_place) (h_by_start : CallOk c n (.ref 635) S_by_start) (h_real_operand : CallOk c n (.ref 642) S_real_operand) (h_greatest : CallOk c n (.ref 656) S_greatest) : SS c n nm_allocate sc_allocate bd_allocate (w_allocate S_RegisterFile S_intervals S_wishes S_m_place S_by_start S_real_operand S_greatest) :=
  have F := F_allocate
  (SS.cons (SX.a (i := 4) F (by first | kernel_rfl | decide +kernel) (fun _ => rfl) (SE.cK F kf.g_RegisterFile (by first | kernel_rfl | decide +kernel) (fun _ => rfl) SEs.nil h_RegisterFile))
    (SS.cons (SX.a (i := 5) F (by first | kernel_rfl | decide +kernel) (fun _ => rfl) (SE.list SEs.nil))
    (SS.cons (SX.for (fun _ _ => rfl) (SE.cK F kf.g_intervals (by first | kernel_rfl | decide +kernel) (fun _ => rfl) (SEs.cons (star_ne rfl) (SE.l (i := 1) F (by first | kernel_rfl | decide +kernel)) (SEs.cons (star_ne rfl) (SE.l (i := 2) F (by first | kernel_rfl | decide +kernel)) SEs.nil)) h_intervals) (SA.nm (i := 6) F (by first | kernel_rfl | decide +kernel)) (SS.cons (SX.ite (ST.cmp cmp_eq (SE.attr (k := 19) (fun _ => rfl) (by decide) rfl kf.a_563_kind (SE.l (i := 6) F (by first | kernel_rfl | decide +kernel))) SE.str rfl) (SS.cons (SX.e F (fun _ => rfl) (SE.mApp (fun _ => rfl) (by decide) rfl (SE.l (i := 5) F (by first | kernel_rfl | decide +kernel)) (SEs.cons (star_ne rfl) (SE.l (i := 6) F (by first | kernel_rfl | decide +kernel)) SEs.nil) (fun _ => rfl)))
    SS.nil) SS.bad)
    SS.nil))
    (SS.cons (SX.a (i := 7) F (by first | kernel_rfl | decide +kernel) (fun _ => rfl) (SE.cK F kf.g_wishes (by first | kernel_rfl | decide +kernel) (fun _ => rfl) (SEs.cons (star_ne rfl) (SE.l (i := 1) F (by first | kernel_rfl | decide +kernel)) SEs.nil) h_wishes))
    (SS.cons (SX.for (fun _ _ => rfl) (SE.cK F kf.g_by_start (by first | kernel_rfl | decide +kernel) (fun _ => rfl) (SEs.cons (star_ne rfl) (SE.l (i := 5) F (by first | kernel_rfl | decide +kernel)) SEs.nil) h_by_start) (SA.nm (i := 6) F (by first | kernel_rfl | decide +kernel)) (SS.cons (SX.e F (fun _ => rfl) (SE.me kf.m_place (by first | kernel_rfl | decide +kernel) (fun _ => rfl) (fun _ => rfl) (by decide) rfl (SE.l (i := 4) F (by first | kernel_rfl | decide +kernel)) (SEs.cons (star_ne rfl) (SE.l (i := 6) F (by first | kernel_rfl | decide +kernel)) (SEs.cons (star_ne rfl) (SE.mGetDi (fun _ => rfl) (by decide) rfl (SE.l (i := 7) F (by first | kernel_rfl | decide +kernel)) (SEs.cons (star_ne rfl) (SE.attr (k := 20) (fun _ => rfl) (by decide) rfl kf.a_563_number (SE.l (i := 6) F (by first | kernel_rfl | decide +kernel))) (SEs.cons (star_ne rfl) (SE.list SEs.nil) SEs.nil)) (fun _ => rfl)) SEs.nil)) h_m_place))
    SS.nil))
    (SS.cons (SX.a (i := 8) F (by first | kernel_rfl | decide +kernel) (fun _ => rfl) (SE.list SEs.nil))
    (SS.cons (SX.for (fun _ _ => rfl) (SE.l (i := 1) F (by first | kernel_rfl | decide +kernel)) (SA.nm (i := 9) F (by first | kernel_rfl | decide +kernel)) (SS.cons (SX.a (i := 10) F (by first | kernel_rfl | decide +kernel) (fun _ => rfl) (SE.list (SEs.cons (star_ne rfl) (SE.subT (fun _ _ => rfl) (SE.l (i := 9) F (by first | kernel_rfl | decide +kernel)) SE.int) SEs.nil)))
    (SS.cons (SX.for (fun _ _ => rfl) (SE.tupRest (fun _ _ => rfl) (SE.l (i := 9) F (by first | kernel_rfl | decide +kernel))) (SA.nm (i := 11) F (by first | kernel_rfl | decide +kernel)) (SS.cons (SX.e F (fun _ => rfl) (SE.mApp (fun _ => rfl) (by decide) rfl (SE.l (i := 10) F (by first | kernel_rfl | decide +kernel)) (SEs.cons (star_ne rfl) (SE.cK F kf.g_real_operand (by first | kernel_rfl | decide +kernel) (fun _ => rfl) (SEs.cons (star_ne rfl) (SE.l (i := 11) F (by first | kernel_rfl | decide +kernel)) (SEs.cons (star_ne rfl) (SE.attr (k := 24) (fun _ => rfl) (by decide) rfl kf.a_624_home (SE.l (i := 4) F (by first | kernel_rfl | decide +kernel))) SEs.nil)) h_real_operand) SEs.nil) (fun _ => rfl)))
    SS.nil))
    (SS.cons (SX.e F (fun _ => rfl) (SE.mApp (fun _ => rfl) (by decide) rfl (SE.l (i := 8) F (by first | kernel_rfl | decide +kernel)) (SEs.cons (star_ne rfl) (SE.cT F kf.n_tuple (by first | kernel_rfl | decide +kernel) (by first | kernel_rfl | decide +kernel) (by first | kernel_rfl | decide +kernel) (fun _ => rfl) (SEs.cons (star_ne rfl) (SE.l (i := 10) F (by first | kernel_rfl | decide +kernel)) SEs.nil) ok_tuple) SEs.nil) (fun _ => rfl)))
    SS.nil))))
    (SS.cons (SX.ite (ST.bool (SAll.consO (ST.cmp cmp_gt (SE.l (i := 2) F (by first | kernel_rfl | decide +kernel)) (SE.l (i := 3) F (by first | kernel_rfl | decide +kernel)) rfl) (SAll.consO (ST.cmp cmp_gt (SE.cK F kf.g_greatest (by first | kernel_rfl | decide +kernel) (fun _ => rfl) (SEs.cons (star_ne rfl) (SE.l (i := 8) F (by first | kernel_rfl | decide +kernel)) SEs.nil) h_greatest) (SE.l (i := 3) F (by first | kernel_rfl | decide +kernel)) rfl) SAll.nilO))) SS.bad SS.nil)
    (SS.cons (SX.ret (SE.l (i := 8) F (by first | kernel_rfl | decide +kernel)))
    SS.nil)))))))))
noncomputable def w_greatest (S_operand_roles : Spec) : WS := (W.seq (W.asg 1 (W.const (.int 0)))
    (W.seq (W.for (W.loc 0) (W.tName 2) (W.seq (W.for (W.call S_operand_roles (W.cons (W.loc 2) W.nil)) (W.tPair 3 4) (W.seq (W.ite (W.andT (W.cmpT gEq (W.subT (W.loc 4) (W.const (.int 0))) (W.const (.str "x"))) (W.andT (W.cmpT gGt (W.subT (W.loc 4) (W.const (.int 1))) (W.loc 1)) (W.tt true))) (W.seq (W.asg 1 (W.subT (W.loc 4) (W.const (.int 1))))
    W.skip) W.skip)
    W.skip))
    W.skip))
    (W.seq (W.ret (W.loc 1))
    W.skip)))
theorem sm_greatest (kf : KF c.K) {S_operand_roles : Spec} (h_operand_roles : CallOk c n (.ref 532) S_operand_roles) : SS c n nm_greatest sc_greatest bd_greatest (w_greatest S_operand_roles) :=
  have F := F_greatest
  (SS.cons (SX.a (i := 1) F (by first | kernel_rfl | decide +kernel) (fun _ => rfl) SE.int)
    (SS.cons (SX.for (fun _ _ => rfl) (SE.l (i := 0) F (by first | kernel_rfl | decide +kernel)) (SA.nm (i := 2) F (by first | kernel_rfl | decide +kernel)) (SS.cons (SX.for (fun _ _ => rfl) (SE.cK F kf.g_operand_roles (by first | kernel_rfl | decide +kernel) (fun _ => rfl) (SEs.cons (star_ne rfl) (SE.l (i := 2) F (by first | kernel_rfl | decide +kernel)) SEs.nil) h_operand_roles) (SA.p (i := 3) (j := 4) F (by first | kernel_rfl | decide +kernel) (by first | kernel_rfl | decide +kernel)) (SS.cons (SX.ite (ST.bool (SAll.consA (ST.cmp cmp_eq (SE.subT (fun _ _ => rfl) (SE.l (i := 4) F (by first | kernel_rfl | decide +kernel)) SE.int) SE.str rfl) (SAll.consA (ST.cmp cmp_gt (SE.subT (fun _ _ => rfl) (SE.l (i := 4) F (by first | kernel_rfl | decide +kernel)) SE.int) (SE.l (i := 1) F (by first | kernel_rfl | decide +kernel)) rfl) SAll.nilA))) (SS.cons (SX.a (i := 1) F (by first | kernel_rfl | decide +kernel) (fun _ => rfl) (SE.subT (fun _ _ => rfl) (SE.l (i := 4) F (by first | kernel_rfl | decide +kernel)) SE.int))
    SS.nil) SS.nil)
    SS.nil))
    SS.nil))
    (SS.cons (SX.ret (SE.l (i := 1) F (by first | kernel_rfl | decide +kernel)))
    SS.nil)))
noncomputable def w_l_digit : WS := (W.seq (W.ite (W.cmpT gGe (W.subL (W.loc 0) (W.const (.int 1))) (W.call (Sp.fn gLen) (W.cons (W.subL (W.loc 0) (W.const (.int 0))) W.nil))) (W.seq (W.ret (W.const (.int 0)))
    W.skip) W.skip)
    (W.seq (W.asg 2 (W.subL (W.subL (W.loc 0) (W.const (.int 0))) (W.subL (W.loc 0) (W.const (.int 1)))))
    (W.seq (W.asg 3 (W.bin gMod (W.loc 2) (W.loc 1)))
    (W.seq (W.asg 4 (W.bin gDiv (W.loc 2) (W.loc 1)))
    (W.seq (W.augL gAdd (W.loc 0) (W.const (.int 2)) (W.const (.int 1)))
    (W.seq (W.ite (W.orT (W.cmpT gEq (W.loc 4) (W.const (.int 0))) (W.orT (W.cmpT gEq (W.loc 4) (W.neg (W.const (.int 1)))) (W.orT (W.cmpT gEq (W.subL (W.loc 0) (W.const (.int 2))) (W.const (.int 30))) (W.tt false)))) (W.seq (W.augL gAdd (W.loc 0) (W.const (.int 1)) (W.const (.int 1)))
    (W.seq (W.putL (W.loc 0) (W.const (.int 2)) (W.const (.int 0)))
    W.skip)) (W.seq (W.putL (W.subL (W.loc 0) (W.const (.int 0))) (W.subL (W.loc 0) (W.const (.int 1))) (W.loc 4))
    W.skip))
    (W.seq (W.ret (W.loc 3))
    W.skip)))))))
theorem sm_l_digit (kf : KF c.K)  : SS c n nm_l_digit sc_l_digit bd_l_digit (w_l_digit ) :=
  have F := F_l_digit
  (SS.cons (SX.ite (ST.cmp cmp_ge (SE.subL (fun _ _ => rfl) (SE.l (i := 0) F (by first | kernel_rfl | decide +kernel)) SE.int) (SE.cB F kf.n_len (by first | kernel_rfl | decide +kernel) (by first | kernel_rfl | decide +kernel) (by first | kernel_rfl | decide +kernel) (fun _ => rfl) (SEs.cons (star_ne rfl) (SE.subL (fun _ _ => rfl) (SE.l (i := 0) F (by first | kernel_rfl | decide +kernel)) SE.int) SEs.nil) ok_len) rfl) (SS.cons (SX.ret SE.int)
    SS.nil) SS.nil)
    (SS.cons (SX.a (i := 2) F (by first | kernel_rfl | decide +kernel) (fun _ => rfl) (SE.subL (fun _ _ => rfl) (SE.subL (fun _ _ => rfl) (SE.l (i := 0) F (by first | kernel_rfl | decide +kernel)) SE.int) (SE.subL (fun _ _ => rfl) (SE.l (i := 0) F (by first | kernel_rfl | decide +kernel)) SE.int)))
    (SS.cons (SX.a (i := 3) F (by first | kernel_rfl | decide +kernel) (fun _ => rfl) (SE.bin op_mod (SE.l (i := 2) F (by first | kernel_rfl | decide +kernel)) (SE.l (i := 1) F (by first | kernel_rfl | decide +kernel))))
    (SS.cons (SX.a (i := 4) F (by first | kernel_rfl | decide +kernel) (fun _ => rfl) (SE.bin op_div (SE.l (i := 2) F (by first | kernel_rfl | decide +kernel)) (SE.l (i := 1) F (by first | kernel_rfl | decide +kernel))))
    (SS.cons (SX.augL inp_add (fun _ _ _ => rfl) (SE.l (i := 0) F (by first | kernel_rfl | decide +kernel)) SE.int SE.int)
    (SS.cons (SX.ite (ST.bool (SAll.consO (ST.cmp cmp_eq (SE.l (i := 4) F (by first | kernel_rfl | decide +kernel)) SE.int rfl) (SAll.consO (ST.cmp cmp_eq (SE.l (i := 4) F (by first | kernel_rfl | decide +kernel)) (SE.neg SE.int) rfl) (SAll.consO (ST.cmp cmp_eq (SE.subL (fun _ _ => rfl) (SE.l (i := 0) F (by first | kernel_rfl | decide +kernel)) SE.int) SE.int rfl) SAll.nilO)))) (SS.cons (SX.augL inp_add (fun _ _ _ => rfl) (SE.l (i := 0) F (by first | kernel_rfl | decide +kernel)) SE.int SE.int)
    (SS.cons (SX.putL (fun _ => rfl) (SE.l (i := 0) F (by first | kernel_rfl | decide +kernel)) SE.int SE.int)
    SS.nil)) (SS.cons (SX.putL (fun _ => rfl) (SE.subL (fun _ _ => rfl) (SE.l (i := 0) F (by first | kernel_rfl | decide +kernel)) SE.int) (SE.subL (fun _ _ => rfl) (SE.l (i := 0) F (by first | kernel_rfl | decide +kernel)) SE.int) (SE.l (i := 4) F (by first | kernel_rfl | decide +kernel)))
    SS.nil))
    (SS.cons (SX.ret (SE.l (i := 3) F (by first | kernel_rfl | decide +kernel)))
    SS.nil)))))))
noncomputable def w_l_tree (S_l_digit S_l_tree : Spec) : WS := (W.seq (W.asg 2 (W.list W.nil))
    (W.seq (W.forR (W.bin gAdd (W.const (.int 1)) (W.call S_l_digit (W.cons (W.loc 0) (W.cons (W.const (.int 3)) W.nil)))) (W.tName 3) (W.seq (W.ite (W.andT (W.cmpT gEq (W.call S_l_digit (W.cons (W.loc 0) (W.cons (W.const (.int 2)) W.nil))) (W.const (.int 1))) (W.andT (W.cmpT gGt (W.subL (W.loc 1) (W.const (.int 0))) (W.const (.int 0))) (W.tt true))) (W.seq (W.augL gSub (W.loc 1) (W.const (.int 0)) (W.const (.int 1)))
    (W.seq (W.asg 4 (W.call S_l_tree (W.cons (W.loc 0) (W.cons (W.loc 1) W.nil))))
    (W.seq (W.expr (W.methB isL Sp.append (W.loc 2) (W.cons (W.loc 4) W.nil)))
    W.skip))) (W.seq (W.expr (W.methB isL Sp.append (W.loc 2) (W.cons (W.tup (W.cons (W.const (.str "a")) (W.cons (W.call S_l_digit (W.cons (W.loc 0) (W.cons (W.const (.int 4)) W.nil))) W.nil))) W.nil)))
    W.skip))
    W.skip))
    (W.seq (W.ret (W.tup (W.cons (W.const (.str "s")) (W.cons (W.subL (W.list (W.cons (W.const (.int 12)) (W.cons (W.const (.int 0)) (W.cons (W.const (.int 26)) W.nil)))) (W.bin gSub (W.call (Sp.fn gLen) (W.cons (W.loc 2) W.nil)) (W.const (.int 1)))) (W.cons (W.call Sp.tupOf (W.cons (W.loc 2) W.nil)) W.nil)))))
    W.skip)))
theorem sm_l_tree (kf : KF c.K) {S_l_digit S_l_tree : Spec} (h_l_digit : CallOk c n (.ref 663) S_l_digit) (h_l_tree : CallOk c n (.ref 670) S_l_tree) : SS c n nm_l_tree sc_l_tree bd_l_tree (w_l_tree S_l_digit S_l_tree) :=
  have F := F_l_tree
  (SS.cons (SX.a (i := 2) F (by first | kernel_rfl | decide +kernel) (fun _ => rfl) (SE.list SEs.nil))
    (SS.cons (SX.fR F kf.n_range (by first | kernel_rfl | decide +kernel) (fun _ => rfl) (fun _ => rfl) (fun _ _ => rfl) (SE.bin op_add SE.int (SE.cK F kf.g_l_digit (by first | kernel_rfl | decide +kernel) (fun _ => rfl) (SEs.cons (star_ne rfl) (SE.l (i := 0) F (by first | kernel_rfl | decide +kernel)) (SEs.cons (star_ne rfl) SE.int SEs.nil)) h_l_digit)) (SA.nm (i := 3) F (by first | kernel_rfl | decide +kernel)) (SS.cons (SX.ite (ST.bool (SAll.consA (ST.cmp cmp_eq (SE.cK F kf.g_l_digit (by first | kernel_rfl | decide +kernel) (fun _ => rfl) (SEs.cons (star_ne rfl) (SE.l (i := 0) F (by first | kernel_rfl | decide +kernel)) (SEs.cons (star_ne rfl) SE.int SEs.nil)) h_l_digit) SE.int rfl) (SAll.consA (ST.cmp cmp_gt (SE.subL (fun _ _ => rfl) (SE.l (i := 1) F (by first | kernel_rfl | decide +kernel)) SE.int) SE.int rfl) SAll.nilA))) (SS.cons (SX.augL inp_sub (fun _ _ _ => rfl) (SE.l (i := 1) F (by first | kernel_rfl | decide +kernel)) SE.int SE.int)
    (SS.cons (SX.a (i := 4) F (by first | kernel_rfl | decide +kernel) (fun _ => rfl) (SE.cK F kf.g_l_tree (by first | kernel_rfl | decide +kernel) (fun _ => rfl) (SEs.cons (star_ne rfl) (SE.l (i := 0) F (by first | kernel_rfl | decide +kernel)) (SEs.cons (star_ne rfl) (SE.l (i := 1) F (by first | kernel_rfl | decide +kernel)) SEs.nil)) h_l_tree))
    (SS.cons (SX.e F (fun _ => rfl) (SE.mApp (fun _ => rfl) (by decide) rfl (SE.l (i := 2) F (by first | kernel_rfl | decide +kernel)) (SEs.cons (star_ne rfl) (SE.l (i := 4) F (by first | kernel_rfl | decide +kernel)) SEs.nil) (fun _ => rfl)))
    SS.nil))) (SS.cons (SX.e F (fun _ => rfl) (SE.mApp (fun _ => rfl) (by decide) rfl (SE.l (i := 2) F (by first | kernel_rfl | decide +kernel)) (SEs.cons (star_ne rfl) (SE.tup (SEs.cons (star_ne rfl) SE.str (SEs.cons (star_ne rfl) (SE.cK F kf.g_l_digit (by first | kernel_rfl | decide +kernel) (fun _ => rfl) (SEs.cons (star_ne rfl) (SE.l (i := 0) F (by first | kernel_rfl | decide +kernel)) (SEs.cons (star_ne rfl) SE.int SEs.nil)) h_l_digit) SEs.nil))) SEs.nil) (fun _ => rfl)))
    SS.nil))
    SS.nil))
    (SS.cons (SX.ret (SE.tup (SEs.cons (star_ne rfl) SE.str (SEs.cons (star_ne rfl) (SE.subL (fun _ _ => rfl) (SE.list (SEs.cons (star_ne rfl) (SE.gI F (by first | kernel_rfl | decide +kernel) kf.i_F_MINUS1) (SEs.cons (star_ne rfl) (SE.gI F (by first | kernel_rfl | decide +kernel) kf.i_F_DOT) (SEs.cons (star_ne rfl) (SE.gI F (by first | kernel_rfl | decide +kernel) kf.i_F_CALL3) SEs.nil)))) (SE.bin op_sub (SE.cB F kf.n_len (by first | kernel_rfl | decide +kernel) (by first | kernel_rfl | decide +kernel) (by first | kernel_rfl | decide +kernel) (fun _ => rfl) (SEs.cons (star_ne rfl) (SE.l (i := 2) F (by first | kernel_rfl | decide +kernel)) SEs.nil) ok_len) SE.int)) (SEs.cons (star_ne rfl) (SE.cT F kf.n_tuple (by first | kernel_rfl | decide +kernel) (by first | kernel_rfl | decide +kernel) (by first | kernel_rfl | decide +kernel) (fun _ => rfl) (SEs.cons (star_ne rfl) (SE.l (i := 2) F (by first | kernel_rfl | decide +kernel)) SEs.nil) ok_tuple) SEs.nil)))))
    SS.nil)))
noncomputable def w_l_nested : WS := (W.seq (W.ret (W.compS (W.subT (W.loc 0) (W.const (.int 2)))))
    W.skip)
theorem sm_l_nested (kf : KF c.K)  : SS c n nm_l_nested sc_l_nested bd_l_nested (w_l_nested ) :=
  have F := F_l_nested
  (SS.cons (SX.ret (SE.compS (fun _ => rfl) (by first | kernel_rfl | decide +kernel) rfl (by first | kernel_rfl | decide +kernel) (by first | kernel_rfl | decide +kernel) (by first | kernel_rfl | decide +kernel) (fun _ _ => rfl) (SE.subT (fun _ _ => rfl) (SE.l (i := 0) F (by first | kernel_rfl | decide +kernel)) SE.int)))
    SS.nil)
noncomputable def w_l_totals (S_l_totals S_l_nested : Spec) : WS := (W.seq (W.asg 1 (W.bin gAdd (W.const (.int 1)) (W.call (Sp.fn gLen) (W.cons (W.subT (W.loc 0) (W.const (.int 2))) W.nil))))
    (W.seq (W.asg 2 (W.const (.int 1)))
    (W.seq (W.for (W.call S_l_nested (W.cons (W.loc 0) W.nil)) (W.tName 3) (W.seq (W.asgT (W.tPair 4 5) (W.call S_l_totals (W.cons (W.loc 3) W.nil)))
    (W.seq (W.aug gAdd 1 (W.loc 4))
    (W.seq (W.aug gAdd 2 (W.loc 5))
    W.skip))))
    (W.seq (W.ret (W.tup (W.cons (W.loc 1) (W.cons (W.loc 2) W.nil))))
    W.skip))))
theorem sm_l_totals (kf : KF c.K) {S_l_totals S_l_nested : Spec} (h_l_totals : CallOk c n (.ref 682) S_l_totals) (h_l_nested : CallOk c n (.ref 675) S_l_nested) : SS c n nm_l_totals sc_l_totals bd_l_totals (w_l_totals S_l_totals S_l_nested) :=
  have F := F_l_totals
  (SS.cons (SX.a (i := 1) F (by first | kernel_rfl | decide +kernel) (fun _ => rfl) (SE.bin op_add SE.int (SE.cB F kf.n_len (by first | kernel_rfl | decide +kernel) (by first | kernel_rfl | decide +kernel) (by first | kernel_rfl | decide +kernel) (fun _ => rfl) (SEs.cons (star_ne rfl) (SE.subT (fun _ _ => rfl) (SE.l (i := 0) F (by first | kernel_rfl | decide +kernel)) SE.int) SEs.nil) ok_len)))
    (SS.cons (SX.a (i := 2) F (by first | kernel_rfl | decide +kernel) (fun _ => rfl) SE.int)
    (SS.cons (SX.for (fun _ _ => rfl) (SE.cK F kf.g_l_nested (by first | kernel_rfl | decide +kernel) (fun _ => rfl) (SEs.cons (star_ne rfl) (SE.l (i := 0) F (by first | kernel_rfl | decide +kernel)) SEs.nil) h_l_nested) (SA.nm (i := 3) F (by first | kernel_rfl | decide +kernel)) (SS.cons (SX.asgT (fun _ => rfl) (fun _ => rfl) (SA.p (i := 4) (j := 5) F (by first | kernel_rfl | decide +kernel) (by first | kernel_rfl | decide +kernel)) (SE.cK F kf.g_l_totals (by first | kernel_rfl | decide +kernel) (fun _ => rfl) (SEs.cons (star_ne rfl) (SE.l (i := 3) F (by first | kernel_rfl | decide +kernel)) SEs.nil) h_l_totals))
    (SS.cons (SX.au (i := 1) F (by first | kernel_rfl | decide +kernel) inp_add (SE.l (i := 4) F (by first | kernel_rfl | decide +kernel)))
    (SS.cons (SX.au (i := 2) F (by first | kernel_rfl | decide +kernel) inp_add (SE.l (i := 5) F (by first | kernel_rfl | decide +kernel)))
    SS.nil))))
    (SS.cons (SX.ret (SE.tup (SEs.cons (star_ne rfl) (SE.l (i := 1) F (by first | kernel_rfl | decide +kernel)) (SEs.cons (star_ne rfl) (SE.l (i := 2) F (by first | kernel_rfl | decide +kernel)) SEs.nil))))
    SS.nil))))
noncomputable def w_l_apart (S_l_nested S_l_apart : Spec) : WS := (W.seq (W.asg 1 (W.call S_l_nested (W.cons (W.loc 0) W.nil)))
    (W.seq (W.asg 2 (W.call (Sp.fn gMax) (W.cons (W.const (.int 1)) (W.cons (W.call (Sp.fn gLen) (W.cons (W.loc 1) W.nil)) W.nil))))
    (W.seq (W.forR (W.call (Sp.fn gLen) (W.cons (W.loc 1) W.nil)) (W.tName 3) (W.seq (W.asg 2 (W.call (Sp.fn gMax) (W.cons (W.loc 2) (W.cons (W.bin gAdd (W.bin gSub (W.bin gSub (W.call (Sp.fn gLen) (W.cons (W.loc 1) W.nil)) (W.const (.int 1))) (W.loc 3)) (W.call S_l_apart (W.cons (W.subL (W.loc 1) (W.loc 3)) W.nil))) W.nil))))
    W.skip))
    (W.seq (W.ret (W.loc 2))
    W.skip))))
theorem sm_l_apart (kf : KF c.K) {S_l_nested S_l_apart : Spec} (h_l_nested : CallOk c n (.ref 675) S_l_nested) (h_l_apart : CallOk c n (.ref 689) S_l_apart) : SS c n nm_l_apart sc_l_apart bd_l_apart (w_l_apart S_l_nested S_l_apart) :=
  have F := F_l_apart
  (SS.cons (SX.a (i := 1) F (by first | kernel_rfl | decide +kernel) (fun _ => rfl) (SE.cK F kf.g_l_nested (by first | kernel_rfl | decide +kernel) (fun _ => rfl) (SEs.cons (star_ne rfl) (SE.l (i := 0) F (by first | kernel_rfl | decide +kernel)) SEs.nil) h_l_nested))
    (SS.cons (SX.a (i := 2) F (by first | kernel_rfl | decide +kernel) (fun _ => rfl) (SE.cB F kf.n_max (by first | kernel_rfl | decide +kernel) (by first | kernel_rfl | decide +kernel) (by first | kernel_rfl | decide +kernel) (fun _ => rfl) (SEs.cons (star_ne rfl) SE.int (SEs.cons (star_ne rfl) (SE.cB F kf.n_len (by first | kernel_rfl | decide +kernel) (by first | kernel_rfl | decide +kernel) (by first | kernel_rfl | decide +kernel) (fun _ => rfl) (SEs.cons (star_ne rfl) (SE.l (i := 1) F (by first | kernel_rfl | decide +kernel)) SEs.nil) ok_len) SEs.nil)) ok_max))
    (SS.cons (SX.fR F kf.n_range (by first | kernel_rfl | decide +kernel) (fun _ => rfl) (fun _ => rfl) (fun _ _ => rfl) (SE.cB F kf.n_len (by first | kernel_rfl | decide +kernel) (by first | kernel_rfl | decide +kernel) (by first | kernel_rfl | decide +kernel) (fun _ => rfl) (SEs.cons (star_ne rfl) (SE.l (i := 1) F (by first | kernel_rfl | decide +kernel)) SEs.nil) ok_len) (SA.nm (i := 3) F (by first | kernel_rfl | decide +kernel)) (SS.cons (SX.a (i := 2) F (by first | kernel_rfl | decide +kernel) (fun _ => rfl) (SE.cB F kf.n_max (by first | kernel_rfl | decide +kernel) (by first | kernel_rfl | decide +kernel) (by first | kernel_rfl | decide +kernel) (fun _ => rfl) (SEs.cons (star_ne rfl) (SE.l (i := 2) F (by first | kernel_rfl | decide +kernel)) (SEs.cons (star_ne rfl) (SE.bin op_add (SE.bin op_sub (SE.bin op_sub (SE.cB F kf.n_len (by first | kernel_rfl | decide +kernel) (by first | kernel_rfl | decide +kernel) (by first | kernel_rfl | decide +kernel) (fun _ => rfl) (SEs.cons (star_ne rfl) (SE.l (i := 1) F (by first | kernel_rfl | decide +kernel)) SEs.nil) ok_len) SE.int) (SE.l (i := 3) F (by first | kernel_rfl | decide +kernel))) (SE.cK F kf.g_l_apart (by first | kernel_rfl | decide +kernel) (fun _ => rfl) (SEs.cons (star_ne rfl) (SE.subL (fun _ _ => rfl) (SE.l (i := 1) F (by first | kernel_rfl | decide +kernel)) (SE.l (i := 3) F (by first | kernel_rfl | decide +kernel))) SEs.nil) h_l_apart)) SEs.nil)) ok_max))
    SS.nil))
    (SS.cons (SX.ret (SE.l (i := 2) F (by first | kernel_rfl | decide +kernel)))
    SS.nil))))
noncomputable def w_l_together (S_l_nested S_l_together : Spec) : WS := (W.seq (W.asg 1 (W.call S_l_nested (W.cons (W.loc 0) W.nil)))
    (W.seq (W.ite (W.cmpT gEq (W.subT (W.subT (W.subT (W.loc 0) (W.const (.int 2))) (W.bin gSub (W.call (Sp.fn gLen) (W.cons (W.subT (W.loc 0) (W.const (.int 2))) W.nil)) (W.const (.int 1)))) (W.const (.int 0))) (W.const (.str "s"))) (W.seq (W.asg 1 (W.addL (W.listDrop (W.loc 1) (W.bin gSub (W.call (Sp.fn gLen) (W.cons (W.loc 1) W.nil)) (W.const (.int 1)))) (W.listTake (W.loc 1) (W.bin gSub (W.call (Sp.fn gLen) (W.cons (W.loc 1) W.nil)) (W.const (.int 1))))))
    W.skip) W.skip)
    (W.seq (W.asg 2 (W.bin gAdd (W.call (Sp.fn gLen) (W.cons (W.loc 1) W.nil)) (W.const (.int 1))))
    (W.seq (W.forR (W.call (Sp.fn gLen) (W.cons (W.loc 1) W.nil)) (W.tName 3) (W.seq (W.asg 2 (W.call (Sp.fn gMax) (W.cons (W.loc 2) (W.cons (W.bin gAdd (W.loc 3) (W.call S_l_together (W.cons (W.subL (W.loc 1) (W.loc 3)) W.nil))) W.nil))))
    W.skip))
    (W.seq (W.ret (W.loc 2))
    W.skip)))))
theorem sm_l_together (kf : KF c.K) {S_l_nested S_l_together : Spec} (h_l_nested : CallOk c n (.ref 675) S_l_nested) (h_l_together : CallOk c n (.ref 696) S_l_together) : SS c n nm_l_together sc_l_together bd_l_together (w_l_together S_l_nested S_l_together) :=
  have F := F_l_together
  (SS.cons (SX.a (i := 1) F (by first | kernel_rfl | decide +kernel) (fun _ => rfl) (SE.cK F kf.g_l_nested (by first | kernel_rfl | decide +kernel) (fun _ => rfl) (SEs.cons (star_ne rfl) (SE.l (i := 0) F (by first | kernel_rfl | decide +kernel)) SEs.nil) h_l_nested))
    (SS.cons (SX.ite (ST.cmp cmp_eq (SE.subT (fun _ _ => rfl) (SE.subT (fun _ _ => rfl) (SE.subT (fun _ _ => rfl) (SE.l (i := 0) F (by first | kernel_rfl | decide +kernel)) SE.int) (SE.bin op_sub (SE.cB F kf.n_len (by first | kernel_rfl | decide +kernel) (by first | kernel_rfl | decide +kernel) (by first | kernel_rfl | decide +kernel) (fun _ => rfl) (SEs.cons (star_ne rfl) (SE.subT (fun _ _ => rfl) (SE.l (i := 0) F (by first | kernel_rfl | decide +kernel)) SE.int) SEs.nil) ok_len) SE.int)) SE.int) SE.str rfl) (SS.cons (SX.a (i := 1) F (by first | kernel_rfl | decide +kernel) (fun _ => rfl) (SE.addL (SE.listDrop (fun _ _ => rfl) (SE.l (i := 1) F (by first | kernel_rfl | decide +kernel)) (SE.bin op_sub (SE.cB F kf.n_len (by first | kernel_rfl | decide +kernel) (by first | kernel_rfl | decide +kernel) (by first | kernel_rfl | decide +kernel) (fun _ => rfl) (SEs.cons (star_ne rfl) (SE.l (i := 1) F (by first | kernel_rfl | decide +kernel)) SEs.nil) ok_len) SE.int)) (SE.listTake (fun _ _ => rfl) (SE.l (i := 1) F (by first | kernel_rfl | decide +kernel)) (SE.bin op_sub (SE.cB F kf.n_len (by first | kernel_rfl | decide +kernel) (by first | kernel_rfl | decide +kernel) (by first | kernel_rfl | decide +kernel) (fun _ => rfl) (SEs.cons (star_ne rfl) (SE.l (i := 1) F (by first | kernel_rfl | decide +kernel)) SEs.nil) ok_len) SE.int))))
    SS.nil) SS.nil)
    (SS.cons (SX.a (i := 2) F (by first | kernel_rfl | decide +kernel) (fun _ => rfl) (SE.bin op_add (SE.cB F kf.n_len (by first | kernel_rfl | decide +kernel) (by first | kernel_rfl | decide +kernel) (by first | kernel_rfl | decide +kernel) (fun _ => rfl) (SEs.cons (star_ne rfl) (SE.l (i := 1) F (by first | kernel_rfl | decide +kernel)) SEs.nil) ok_len) SE.int))
    (SS.cons (SX.fR F kf.n_range (by first | kernel_rfl | decide +kernel) (fun _ => rfl) (fun _ => rfl) (fun _ _ => rfl) (SE.cB F kf.n_len (by first | kernel_rfl | decide +kernel) (by first | kernel_rfl | decide +kernel) (by first | kernel_rfl | decide +kernel) (fun _ => rfl) (SEs.cons (star_ne rfl) (SE.l (i := 1) F (by first | kernel_rfl | decide +kernel)) SEs.nil) ok_len) (SA.nm (i := 3) F (by first | kernel_rfl | decide +kernel)) (SS.cons (SX.a (i := 2) F (by first | kernel_rfl | decide +kernel) (fun _ => rfl) (SE.cB F kf.n_max (by first | kernel_rfl | decide +kernel) (by first | kernel_rfl | decide +kernel) (by first | kernel_rfl | decide +kernel) (fun _ => rfl) (SEs.cons (star_ne rfl) (SE.l (i := 2) F (by first | kernel_rfl | decide +kernel)) (SEs.cons (star_ne rfl) (SE.bin op_add (SE.l (i := 3) F (by first | kernel_rfl | decide +kernel)) (SE.cK F kf.g_l_together (by first | kernel_rfl | decide +kernel) (fun _ => rfl) (SEs.cons (star_ne rfl) (SE.subL (fun _ _ => rfl) (SE.l (i := 1) F (by first | kernel_rfl | decide +kernel)) (SE.l (i := 3) F (by first | kernel_rfl | decide +kernel))) SEs.nil) h_l_together)) SEs.nil)) ok_max))
    SS.nil))
    (SS.cons (SX.ret (SE.l (i := 2) F (by first | kernel_rfl | decide +kernel)))
    SS.nil)))))
noncomputable def w_l_right (S_l_totals S_allocate S_greatest : Spec) : WS := (W.seq (W.asg 4 (W.list W.nil))
    (W.seq (W.for (W.loc 1) (W.tName 5) (W.seq (W.for (W.tupRest (W.loc 5)) (W.tName 6) (W.seq (W.ite (W.andT (W.valT (W.isTup (W.loc 6))) (W.andT (W.cmpT gEq (W.subT (W.loc 6) (W.const (.int 0))) (W.const (.str "t"))) (W.andT (W.notInT (W.loc 6) (W.loc 4)) (W.tt true)))) (W.seq (W.expr (W.methB isL Sp.append (W.loc 4) (W.cons (W.loc 6) W.nil)))
    W.skip) W.skip)
    W.skip))
    W.skip))
    (W.seq (W.ite (W.neT2 (W.tup (W.cons (W.call (Sp.fn gLen) (W.cons (W.loc 1) W.nil)) (W.cons (W.call (Sp.fn gLen) (W.cons (W.loc 4) W.nil)) W.nil))) (W.call S_l_totals (W.cons (W.loc 2) W.nil))) (W.seq (W.ret (W.const (.bool false)))
    W.skip) W.skip)
    (W.seq (W.ret (W.cmp gEq (W.call S_greatest (W.cons (W.call S_allocate (W.cons (W.loc 0) (W.cons (W.loc 1) (W.cons (W.const (.int 0)) (W.cons (W.const (.int 60)) W.nil))))) W.nil)) (W.loc 3)))
    W.skip))))
theorem sm_l_right (kf : KF c.K) {S_l_totals S_allocate S_greatest : Spec} (h_l_totals : CallOk c n (.ref 682) S_l_totals) (h_allocate : CallOk c n (.ref 649) S_allocate) (h_greatest : CallOk c n (.ref 656) S_greatest) : SS c n nm_l_right sc_l_right bd_l_right (w_l_right S_l_totals S_allocate S_greatest) :=
  have F := F_l_right
  (SS.cons (SX.a (i := 4) F (by first | kernel_rfl | decide +kernel) (fun _ => rfl) (SE.list SEs.nil))
    (SS.cons (SX.for (fun _ _ => rfl) (SE.l (i := 1) F (by first | kernel_rfl | decide +kernel)) (SA.nm (i := 5) F (by first | kernel_rfl | decide +kernel)) (SS.cons (SX.for (fun _ _ => rfl) (SE.tupRest (fun _ _ => rfl) (SE.l (i := 5) F (by first | kernel_rfl | decide +kernel))) (SA.nm (i := 6) F (by first | kernel_rfl | decide +kernel)) (SS.cons (SX.ite (ST.bool (SAll.consA (ST.val (SE.iT F kf.n_isinstance kf.n_tuple (fun _ => rfl) (fun _ => rfl) (by first | kernel_rfl | decide +kernel) (by first | kernel_rfl | decide +kernel) (SE.l (i := 6) F (by first | kernel_rfl | decide +kernel))) (fun _ _ => rfl)) (SAll.consA (ST.cmp cmp_eq (SE.subT (fun _ _ => rfl) (SE.l (i := 6) F (by first | kernel_rfl | decide +kernel)) SE.int) SE.str rfl) (SAll.consA (ST.notInT (SE.l (i := 6) F (by first | kernel_rfl | decide +kernel)) (SE.l (i := 4) F (by first | kernel_rfl | decide +kernel)) rfl) SAll.nilA)))) (SS.cons (SX.e F (fun _ => rfl) (SE.mApp (fun _ => rfl) (by decide) rfl (SE.l (i := 4) F (by first | kernel_rfl | decide +kernel)) (SEs.cons (star_ne rfl) (SE.l (i := 6) F (by first | kernel_rfl | decide +kernel)) SEs.nil) (fun _ => rfl)))
    SS.nil) SS.nil)
    SS.nil))
    SS.nil))
    (SS.cons (SX.ite (ST.neT2 (SE.tup (SEs.cons (star_ne rfl) (SE.cB F kf.n_len (by first | kernel_rfl | decide +kernel) (by first | kernel_rfl | decide +kernel) (by first | kernel_rfl | decide +kernel) (fun _ => rfl) (SEs.cons (star_ne rfl) (SE.l (i := 1) F (by first | kernel_rfl | decide +kernel)) SEs.nil) ok_len) (SEs.cons (star_ne rfl) (SE.cB F kf.n_len (by first | kernel_rfl | decide +kernel) (by first | kernel_rfl | decide +kernel) (by first | kernel_rfl | decide +kernel) (fun _ => rfl) (SEs.cons (star_ne rfl) (SE.l (i := 4) F (by first | kernel_rfl | decide +kernel)) SEs.nil) ok_len) SEs.nil))) (SE.cK F kf.g_l_totals (by first | kernel_rfl | decide +kernel) (fun _ => rfl) (SEs.cons (star_ne rfl) (SE.l (i := 2) F (by first | kernel_rfl | decide +kernel)) SEs.nil) h_l_totals) rfl) (SS.cons (SX.ret SE.bool)
    SS.nil) SS.nil)
    (SS.cons (SX.ret (SE.cmp cmp_eq (SE.cK F kf.g_greatest (by first | kernel_rfl | decide +kernel) (fun _ => rfl) (SEs.cons (star_ne rfl) (SE.cK F kf.g_allocate (by first | kernel_rfl | decide +kernel) (fun _ => rfl) (SEs.cons (star_ne rfl) (SE.l (i := 0) F (by first | kernel_rfl | decide +kernel)) (SEs.cons (star_ne rfl) (SE.l (i := 1) F (by first | kernel_rfl | decide +kernel)) (SEs.cons (star_ne rfl) SE.int (SEs.cons (star_ne rfl) SE.int SEs.nil)))) h_allocate) SEs.nil) h_greatest) (SE.l (i := 3) F (by first | kernel_rfl | decide +kernel)) rfl))
    SS.nil))))
end
end Mine
namespace Mine
section
variable {c : Cx} {n : Nat}
theorem co_fixed_atoms (kf : KF c.K)  {S : Spec} (hS : ∀ ps st Q, S ps st Q → ps.length = 0 ∧ w_fixed_atoms  (frame0 nm_fixed_atoms ps) st (fun fl _ st2 => ∃ st3, Le st3 st2 ∧ Q (retOf fl) st3)) : CodeOk c (n + 1) (.ref 60) S :=
  CodeOk.fn (w := w_fixed_atoms ) kf.f_fixed_atoms (by first | kernel_rfl | decide +kernel) F_fixed_atoms.nd F_fixed_atoms.fn (by first | kernel_rfl | decide +kernel) (by first | kernel_rfl | decide +kernel) (by first | kernel_rfl | decide +kernel) (by first | kernel_rfl | decide +kernel) (@sm_fixed_atoms c n kf  ) (fun ps st Q h => ⟨(hS ps st Q h).1, (hS ps st Q h).2⟩)
theorem co_fixed_functors (kf : KF c.K)  {S : Spec} (hS : ∀ ps st Q, S ps st Q → ps.length = 0 ∧ w_fixed_functors  (frame0 nm_fixed_functors ps) st (fun fl _ st2 => ∃ st3, Le st3 st2 ∧ Q (retOf fl) st3)) : CodeOk c (n + 1) (.ref 67) S :=
  CodeOk.fn (w := w_fixed_functors ) kf.f_fixed_functors (by first | kernel_rfl | decide +kernel) F_fixed_functors.nd F_fixed_functors.fn (by first | kernel_rfl | decide +kernel) (by first | kernel_rfl | decide +kernel) (by first | kernel_rfl | decide +kernel) (by first | kernel_rfl | decide +kernel) (@sm_fixed_functors c n kf  ) (fun ps st Q h => ⟨(hS ps st Q h).1, (hS ps st Q h).2⟩)
theorem co_Sym_init (kf : KF c.K) {S_m_atom S_fixed_atoms S_m_func S_fixed_functors : Spec} (h_m_atom : CallOk c n (.ref 88) S_m_atom) (h_fixed_atoms : CallOk c n (.ref 60) S_fixed_atoms) (h_m_func : CallOk c n (.ref 109) S_m_func) (h_fixed_functors : CallOk c n (.ref 67) S_fixed_functors) {S : Spec} (hS : ∀ ps st Q, S ps st Q → ps.length = 1 ∧ w_Sym_init S_m_atom S_fixed_atoms S_m_func S_fixed_functors (frame0 nm_Sym_init ps) st (fun fl _ st2 => ∃ st3, Le st3 st2 ∧ Q (retOf fl) st3)) : CodeOk c (n + 1) (.ref 81) S :=
  CodeOk.fn (w := w_Sym_init S_m_atom S_fixed_atoms S_m_func S_fixed_functors) kf.f_Sym_init (by first | kernel_rfl | decide +kernel) F_Sym_init.nd F_Sym_init.fn (by first | kernel_rfl | decide +kernel) (by first | kernel_rfl | decide +kernel) (by first | kernel_rfl | decide +kernel) (by first | kernel_rfl | decide +kernel) (@sm_Sym_init c n kf S_m_atom S_fixed_atoms S_m_func S_fixed_functors h_m_atom h_fixed_atoms h_m_func h_fixed_functors) (fun ps st Q h => ⟨(hS ps st Q h).1, (hS ps st Q h).2⟩)
theorem co_atom (kf : KF c.K)  {S : Spec} (hS : ∀ ps st Q, S ps st Q → ps.length = 2 ∧ w_atom  (frame0 nm_atom ps) st (fun fl _ st2 => ∃ st3, Le st3 st2 ∧ Q (retOf fl) st3)) : CodeOk c (n + 1) (.ref 88) S :=
  CodeOk.fn (w := w_atom ) kf.f_atom (by first | kernel_rfl | decide +kernel) F_atom.nd F_atom.fn (by first | kernel_rfl | decide +kernel) (by first | kernel_rfl | decide +kernel) (by first | kernel_rfl | decide +kernel) (by first | kernel_rfl | decide +kernel) (@sm_atom c n kf  ) (fun ps st Q h => ⟨(hS ps st Q h).1, (hS ps st Q h).2⟩)
theorem co_functor (kf : KF c.K)  {S : Spec} (hS : ∀ ps st Q, S ps st Q → ps.length = 3 ∧ w_functor  (frame0 nm_functor ps) st (fun fl _ st2 => ∃ st3, Le st3 st2 ∧ Q (retOf fl) st3)) : CodeOk c (n + 1) (.ref 102) S :=
  CodeOk.fn (w := w_functor ) kf.f_functor (by first | kernel_rfl | decide +kernel) F_functor.nd F_functor.fn (by first | kernel_rfl | decide +kernel) (by first | kernel_rfl | decide +kernel) (by first | kernel_rfl | decide +kernel) (by first | kernel_rfl | decide +kernel) (@sm_functor c n kf  ) (fun ps st Q h => ⟨(hS ps st Q h).1, (hS ps st Q h).2⟩)
theorem co_func (kf : KF c.K) {S_m_atom S_m_functor : Spec} (h_m_atom : CallOk c n (.ref 88) S_m_atom) (h_m_functor : CallOk c n (.ref 102) S_m_functor) {S : Spec} (hS : ∀ ps st Q, S ps st Q → ps.length = 3 ∧ w_func S_m_atom S_m_functor (frame0 nm_func ps) st (fun fl _ st2 => ∃ st3, Le st3 st2 ∧ Q (retOf fl) st3)) : CodeOk c (n + 1) (.ref 109) S :=
  CodeOk.fn (w := w_func S_m_atom S_m_functor) kf.f_func (by first | kernel_rfl | decide +kernel) F_func.nd F_func.fn (by first | kernel_rfl | decide +kernel) (by first | kernel_rfl | decide +kernel) (by first | kernel_rfl | decide +kernel) (by first | kernel_rfl | decide +kernel) (@sm_func c n kf S_m_atom S_m_functor h_m_atom h_m_functor) (fun ps st Q h => ⟨(hS ps st Q h).1, (hS ps st Q h).2⟩)
theorem co_constant_cell (kf : KF c.K)  {S : Spec} (hS : ∀ ps st Q, S ps st Q → ps.length = 1 ∧ w_constant_cell  (frame0 nm_constant_cell ps) st (fun fl _ st2 => ∃ st3, Le st3 st2 ∧ Q (retOf fl) st3)) : CodeOk c (n + 1) (.ref 165) S :=
  CodeOk.fn (w := w_constant_cell ) kf.f_constant_cell (by first | kernel_rfl | decide +kernel) F_constant_cell.nd F_constant_cell.fn (by first | kernel_rfl | decide +kernel) (by first | kernel_rfl | decide +kernel) (by first | kernel_rfl | decide +kernel) (by first | kernel_rfl | decide +kernel) (@sm_constant_cell c n kf  ) (fun ps st Q h => ⟨(hS ps st Q h).1, (hS ps st Q h).2⟩)
theorem co_CS_init (kf : KF c.K)  {S : Spec} (hS : ∀ ps st Q, S ps st Q → ps.length = 3 ∧ w_CS_init  (frame0 nm_CS_init ps) st (fun fl _ st2 => ∃ st3, Le st3 st2 ∧ Q (retOf fl) st3)) : CodeOk c (n + 1) (.ref 179) S :=
  CodeOk.fn (w := w_CS_init ) kf.f_CS_init (by first | kernel_rfl | decide +kernel) F_CS_init.nd F_CS_init.fn (by first | kernel_rfl | decide +kernel) (by first | kernel_rfl | decide +kernel) (by first | kernel_rfl | decide +kernel) (by first | kernel_rfl | decide +kernel) (@sm_CS_init c n kf  ) (fun ps st Q h => ⟨(hS ps st Q h).1, (hS ps st Q h).2⟩)
theorem co_emit (kf : KF c.K)  {S : Spec} (hS : ∀ ps st Q, S ps st Q → ps.length = 2 ∧ w_emit  (frame0 nm_emit ps) st (fun fl _ st2 => ∃ st3, Le st3 st2 ∧ Q (retOf fl) st3)) : CodeOk c (n + 1) (.ref 186) S :=
  CodeOk.fn (w := w_emit ) kf.f_emit (by first | kernel_rfl | decide +kernel) F_emit.nd F_emit.fn (by first | kernel_rfl | decide +kernel) (by first | kernel_rfl | decide +kernel) (by first | kernel_rfl | decide +kernel) (by first | kernel_rfl | decide +kernel) (@sm_emit c n kf  ) (fun ps st Q h => ⟨(hS ps st Q h).1, (hS ps st Q h).2⟩)
theorem co_new_temporary (kf : KF c.K)  {S : Spec} (hS : ∀ ps st Q, S ps st Q → ps.length = 1 ∧ w_new_temporary  (frame0 nm_new_temporary ps) st (fun fl _ st2 => ∃ st3, Le st3 st2 ∧ Q (retOf fl) st3)) : CodeOk c (n + 1) (.ref 193) S :=
  CodeOk.fn (w := w_new_temporary ) kf.f_new_temporary (by first | kernel_rfl | decide +kernel) F_new_temporary.nd F_new_temporary.fn (by first | kernel_rfl | decide +kernel) (by first | kernel_rfl | decide +kernel) (by first | kernel_rfl | decide +kernel) (by first | kernel_rfl | decide +kernel) (@sm_new_temporary c n kf  ) (fun ps st Q h => ⟨(hS ps st Q h).1, (hS ps st Q h).2⟩)
theorem co_match (kf : KF c.K) {S_m_emit S_m_match_arguments : Spec} (h_m_emit : CallOk c n (.ref 186) S_m_emit) (h_m_match_arguments : CallOk c n (.ref 249) S_m_match_arguments) {S : Spec} (hS : ∀ ps st Q, S ps st Q → ps.length = 3 ∧ w_match S_m_emit S_m_match_arguments (frame0 nm_match ps) st (fun fl _ st2 => ∃ st3, Le st3 st2 ∧ Q (retOf fl) st3)) : CodeOk c (n + 1) (.ref 242) S :=
  CodeOk.fn (w := w_match S_m_emit S_m_match_arguments) kf.f_match (by first | kernel_rfl | decide +kernel) F_match.nd F_match.fn (by first | kernel_rfl | decide +kernel) (by first | kernel_rfl | decide +kernel) (by first | kernel_rfl | decide +kernel) (by first | kernel_rfl | decide +kernel) (@sm_match c n kf S_m_emit S_m_match_arguments h_m_emit h_m_match_arguments) (fun ps st Q h => ⟨(hS ps st Q h).1, (hS ps st Q h).2⟩)
theorem co_match_arguments (kf : KF c.K) {S_m_new_temporary S_m_emit S_constant_cell : Spec} (h_m_new_temporary : CallOk c n (.ref 193) S_m_new_temporary) (h_m_emit : CallOk c n (.ref 186) S_m_emit) (h_constant_cell : CallOk c n (.ref 165) S_constant_cell) {S : Spec} (hS : ∀ ps st Q, S ps st Q → ps.length = 3 ∧ w_match_arguments S_m_new_temporary S_m_emit S_constant_cell (frame0 nm_match_arguments ps) st (fun fl _ st2 => ∃ st3, Le st3 st2 ∧ Q (retOf fl) st3)) : CodeOk c (n + 1) (.ref 249) S :=
  CodeOk.fn (w := w_match_arguments S_m_new_temporary S_m_emit S_constant_cell) kf.f_match_arguments (by first | kernel_rfl | decide +kernel) F_match_arguments.nd F_match_arguments.fn (by first | kernel_rfl | decide +kernel) (by first | kernel_rfl | decide +kernel) (by first | kernel_rfl | decide +kernel) (by first | kernel_rfl | decide +kernel) (@sm_match_arguments c n kf S_m_new_temporary S_m_emit S_constant_cell h_m_new_temporary h_m_emit h_constant_cell) (fun ps st Q h => ⟨(hS ps st Q h).1, (hS ps st Q h).2⟩)
theorem co_build (kf : KF c.K) {S_m_wait_for_nested S_m_take_nested S_m_new_temporary S_m_emit S_m_set_arguments : Spec} (h_m_wait_for_nested : CallOk c n (.ref 282) S_m_wait_for_nested) (h_m_take_nested : CallOk c n (.ref 289) S_m_take_nested) (h_m_new_temporary : CallOk c n (.ref 193) S_m_new_temporary) (h_m_emit : CallOk c n (.ref 186) S_m_emit) (h_m_set_arguments : CallOk c n (.ref 296) S_m_set_arguments) {S : Spec} (hS : ∀ ps st Q, S ps st Q → ps.length = 3 ∧ w_build S_m_wait_for_nested S_m_take_nested S_m_new_temporary S_m_emit S_m_set_arguments (frame0 nm_build ps) st (fun fl _ st2 => ∃ st3, Le st3 st2 ∧ Q (retOf fl) st3)) : CodeOk c (n + 1) (.ref 275) S :=
  CodeOk.fn (w := w_build S_m_wait_for_nested S_m_take_nested S_m_new_temporary S_m_emit S_m_set_arguments) kf.f_build (by first | kernel_rfl | decide +kernel) F_build.nd F_build.fn (by first | kernel_rfl | decide +kernel) (by first | kernel_rfl | decide +kernel) (by first | kernel_rfl | decide +kernel) (by first | kernel_rfl | decide +kernel) (@sm_build c n kf S_m_wait_for_nested S_m_take_nested S_m_new_temporary S_m_emit S_m_set_arguments h_m_wait_for_nested h_m_take_nested h_m_new_temporary h_m_emit h_m_set_arguments) (fun ps st Q h => ⟨(hS ps st Q h).1, (hS ps st Q h).2⟩)
theorem co_wait_for_nested (kf : KF c.K)  {S : Spec} (hS : ∀ ps st Q, S ps st Q → ps.length = 3 ∧ w_wait_for_nested  (frame0 nm_wait_for_nested ps) st (fun fl _ st2 => ∃ st3, Le st3 st2 ∧ Q (retOf fl) st3)) : CodeOk c (n + 1) (.ref 282) S :=
  CodeOk.fn (w := w_wait_for_nested ) kf.f_wait_for_nested (by first | kernel_rfl | decide +kernel) F_wait_for_nested.nd F_wait_for_nested.fn (by first | kernel_rfl | decide +kernel) (by first | kernel_rfl | decide +kernel) (by first | kernel_rfl | decide +kernel) (by first | kernel_rfl | decide +kernel) (@sm_wait_for_nested c n kf  ) (fun ps st Q h => ⟨(hS ps st Q h).1, (hS ps st Q h).2⟩)
theorem co_take_nested (kf : KF c.K)  {S : Spec} (hS : ∀ ps st Q, S ps st Q → ps.length = 3 ∧ w_take_nested  (frame0 nm_take_nested ps) st (fun fl _ st2 => ∃ st3, Le st3 st2 ∧ Q (retOf fl) st3)) : CodeOk c (n + 1) (.ref 289) S :=
  CodeOk.fn (w := w_take_nested ) kf.f_take_nested (by first | kernel_rfl | decide +kernel) F_take_nested.nd F_take_nested.fn (by first | kernel_rfl | decide +kernel) (by first | kernel_rfl | decide +kernel) (by first | kernel_rfl | decide +kernel) (by first | kernel_rfl | decide +kernel) (@sm_take_nested c n kf  ) (fun ps st Q h => ⟨(hS ps st Q h).1, (hS ps st Q h).2⟩)
theorem co_set_arguments (kf : KF c.K) {S_m_emit S_constant_cell : Spec} (h_m_emit : CallOk c n (.ref 186) S_m_emit) (h_constant_cell : CallOk c n (.ref 165) S_constant_cell) {S : Spec} (hS : ∀ ps st Q, S ps st Q → ps.length = 2 ∧ w_set_arguments S_m_emit S_constant_cell (frame0 nm_set_arguments ps) st (fun fl _ st2 => ∃ st3, Le st3 st2 ∧ Q (retOf fl) st3)) : CodeOk c (n + 1) (.ref 296) S :=
  CodeOk.fn (w := w_set_arguments S_m_emit S_constant_cell) kf.f_set_arguments (by first | kernel_rfl | decide +kernel) F_set_arguments.nd F_set_arguments.fn (by first | kernel_rfl | decide +kernel) (by first | kernel_rfl | decide +kernel) (by first | kernel_rfl | decide +kernel) (by first | kernel_rfl | decide +kernel) (@sm_set_arguments c n kf S_m_emit S_constant_cell h_m_emit h_constant_cell) (fun ps st Q h => ⟨(hS ps st Q h).1, (hS ps st Q h).2⟩)
theorem co_KC_init (kf : KF c.K)  {S : Spec} (hS : ∀ ps st Q, S ps st Q → ps.length = 5 ∧ w_KC_init  (frame0 nm_KC_init ps) st (fun fl _ st2 => ∃ st3, Le st3 st2 ∧ Q (retOf fl) st3)) : CodeOk c (n + 1) (.ref 364) S :=
  CodeOk.fn (w := w_KC_init ) kf.f_KC_init (by first | kernel_rfl | decide +kernel) F_KC_init.nd F_KC_init.fn (by first | kernel_rfl | decide +kernel) (by first | kernel_rfl | decide +kernel) (by first | kernel_rfl | decide +kernel) (by first | kernel_rfl | decide +kernel) (@sm_KC_init c n kf  ) (fun ps st Q h => ⟨(hS ps st Q h).1, (hS ps st Q h).2⟩)
theorem co_CP_init (kf : KF c.K)  {S : Spec} (hS : ∀ ps st Q, S ps st Q → ps.length = 6 ∧ w_CP_init  (frame0 nm_CP_init ps) st (fun fl _ st2 => ∃ st3, Le st3 st2 ∧ Q (retOf fl) st3)) : CodeOk c (n + 1) (.ref 420) S :=
  CodeOk.fn (w := w_CP_init ) kf.f_CP_init (by first | kernel_rfl | decide +kernel) F_CP_init.nd F_CP_init.fn (by first | kernel_rfl | decide +kernel) (by first | kernel_rfl | decide +kernel) (by first | kernel_rfl | decide +kernel) (by first | kernel_rfl | decide +kernel) (@sm_CP_init c n kf  ) (fun ps st Q h => ⟨(hS ps st Q h).1, (hS ps st Q h).2⟩)
theorem co_chunk_numbers (kf : KF c.K)  {S : Spec} (hS : ∀ ps st Q, S ps st Q → ps.length = 1 ∧ w_chunk_numbers  (frame0 nm_chunk_numbers ps) st (fun fl _ st2 => ∃ st3, Le st3 st2 ∧ Q (retOf fl) st3)) : CodeOk c (n + 1) (.ref 469) S :=
  CodeOk.fn (w := w_chunk_numbers ) kf.f_chunk_numbers (by first | kernel_rfl | decide +kernel) F_chunk_numbers.nd F_chunk_numbers.fn (by first | kernel_rfl | decide +kernel) (by first | kernel_rfl | decide +kernel) (by first | kernel_rfl | decide +kernel) (by first | kernel_rfl | decide +kernel) (@sm_chunk_numbers c n kf  ) (fun ps st Q h => ⟨(hS ps st Q h).1, (hS ps st Q h).2⟩)
theorem co_Sv_init (kf : KF c.K)  {S : Spec} (hS : ∀ ps st Q, S ps st Q → ps.length = 1 ∧ w_Sv_init  (frame0 nm_Sv_init ps) st (fun fl _ st2 => ∃ st3, Le st3 st2 ∧ Q (retOf fl) st3)) : CodeOk c (n + 1) (.ref 483) S :=
  CodeOk.fn (w := w_Sv_init ) kf.f_Sv_init (by first | kernel_rfl | decide +kernel) F_Sv_init.nd F_Sv_init.fn (by first | kernel_rfl | decide +kernel) (by first | kernel_rfl | decide +kernel) (by first | kernel_rfl | decide +kernel) (by first | kernel_rfl | decide +kernel) (@sm_Sv_init c n kf  ) (fun ps st Q h => ⟨(hS ps st Q h).1, (hS ps st Q h).2⟩)
theorem co_terms (kf : KF c.K)  {S : Spec} (hS : ∀ ps st Q, S ps st Q → ps.length = 5 ∧ w_terms  (frame0 nm_terms ps) st (fun fl _ st2 => ∃ st3, Le st3 st2 ∧ Q (retOf fl) st3)) : CodeOk c (n + 1) (.ref 497) S :=
  CodeOk.fn (w := w_terms ) kf.f_terms (by first | kernel_rfl | decide +kernel) F_terms.nd F_terms.fn (by first | kernel_rfl | decide +kernel) (by first | kernel_rfl | decide +kernel) (by first | kernel_rfl | decide +kernel) (by first | kernel_rfl | decide +kernel) (@sm_terms c n kf  ) (fun ps st Q h => ⟨(hS ps st Q h).1, (hS ps st Q h).2⟩)
theorem co_slot_order (kf : KF c.K)  {S : Spec} (hS : ∀ ps st Q, S ps st Q → ps.length = 1 ∧ w_slot_order  (frame0 nm_slot_order ps) st (fun fl _ st2 => ∃ st3, Le st3 st2 ∧ Q (retOf fl) st3)) : CodeOk c (n + 1) (.ref 518) S :=
  CodeOk.fn (w := w_slot_order ) kf.f_slot_order (by first | kernel_rfl | decide +kernel) F_slot_order.nd F_slot_order.fn (by first | kernel_rfl | decide +kernel) (by first | kernel_rfl | decide +kernel) (by first | kernel_rfl | decide +kernel) (by first | kernel_rfl | decide +kernel) (@sm_slot_order c n kf  ) (fun ps st Q h => ⟨(hS ps st Q h).1, (hS ps st Q h).2⟩)
theorem co_classify (kf : KF c.K) {S_chunk_numbers S_Survey S_m_terms S_slot_order S_ClausePlan : Spec} (h_chunk_numbers : CallOk c n (.ref 469) S_chunk_numbers) (h_Survey : CallOk c n (.ref 500) S_Survey) (h_m_terms : CallOk c n (.ref 497) S_m_terms) (h_slot_order : CallOk c n (.ref 518) S_slot_order) (h_ClausePlan : CallOk c n (.ref 458) S_ClausePlan) {S : Spec} (hS : ∀ ps st Q, S ps st Q → ps.length = 1 ∧ w_classify S_chunk_numbers S_Survey S_m_terms S_slot_order S_ClausePlan (frame0 nm_classify ps) st (fun fl _ st2 => ∃ st3, Le st3 st2 ∧ Q (retOf fl) st3)) : CodeOk c (n + 1) (.ref 525) S :=
  CodeOk.fn (w := w_classify S_chunk_numbers S_Survey S_m_terms S_slot_order S_ClausePlan) kf.f_classify (by first | kernel_rfl | decide +kernel) F_classify.nd F_classify.fn (by first | kernel_rfl | decide +kernel) (by first | kernel_rfl | decide +kernel) (by first | kernel_rfl | decide +kernel) (by first | kernel_rfl | decide +kernel) (@sm_classify c n kf S_chunk_numbers S_Survey S_m_terms S_slot_order S_ClausePlan h_chunk_numbers h_Survey h_m_terms h_slot_order h_ClausePlan) (fun ps st Q h => ⟨(hS ps st Q h).1, (hS ps st Q h).2⟩)
theorem co_operand_roles (kf : KF c.K)  {S : Spec} (hS : ∀ ps st Q, S ps st Q → ps.length = 1 ∧ w_operand_roles  (frame0 nm_operand_roles ps) st (fun fl _ st2 => ∃ st3, Le st3 st2 ∧ Q (retOf fl) st3)) : CodeOk c (n + 1) (.ref 532) S :=
  CodeOk.fn (w := w_operand_roles ) kf.f_operand_roles (by first | kernel_rfl | decide +kernel) F_operand_roles.nd F_operand_roles.fn (by first | kernel_rfl | decide +kernel) (by first | kernel_rfl | decide +kernel) (by first | kernel_rfl | decide +kernel) (by first | kernel_rfl | decide +kernel) (@sm_operand_roles c n kf  ) (fun ps st Q h => ⟨(hS ps st Q h).1, (hS ps st Q h).2⟩)
theorem co_ends_arguments (kf : KF c.K)  {S : Spec} (hS : ∀ ps st Q, S ps st Q → ps.length = 1 ∧ w_ends_arguments  (frame0 nm_ends_arguments ps) st (fun fl _ st2 => ∃ st3, Le st3 st2 ∧ Q (retOf fl) st3)) : CodeOk c (n + 1) (.ref 539) S :=
  CodeOk.fn (w := w_ends_arguments ) kf.f_ends_arguments (by first | kernel_rfl | decide +kernel) F_ends_arguments.nd F_ends_arguments.fn (by first | kernel_rfl | decide +kernel) (by first | kernel_rfl | decide +kernel) (by first | kernel_rfl | decide +kernel) (by first | kernel_rfl | decide +kernel) (@sm_ends_arguments c n kf  ) (fun ps st Q h => ⟨(hS ps st Q h).1, (hS ps st Q h).2⟩)
theorem co_Oc_init (kf : KF c.K)  {S : Spec} (hS : ∀ ps st Q, S ps st Q → ps.length = 5 ∧ w_Oc_init  (frame0 nm_Oc_init ps) st (fun fl _ st2 => ∃ st3, Le st3 st2 ∧ Q (retOf fl) st3)) : CodeOk c (n + 1) (.ref 553) S :=
  CodeOk.fn (w := w_Oc_init ) kf.f_Oc_init (by first | kernel_rfl | decide +kernel) F_Oc_init.nd F_Oc_init.fn (by first | kernel_rfl | decide +kernel) (by first | kernel_rfl | decide +kernel) (by first | kernel_rfl | decide +kernel) (by first | kernel_rfl | decide +kernel) (@sm_Oc_init c n kf  ) (fun ps st Q h => ⟨(hS ps st Q h).1, (hS ps st Q h).2⟩)
theorem co_overlaps (kf : KF c.K)  {S : Spec} (hS : ∀ ps st Q, S ps st Q → ps.length = 2 ∧ w_overlaps  (frame0 nm_overlaps ps) st (fun fl _ st2 => ∃ st3, Le st3 st2 ∧ Q (retOf fl) st3)) : CodeOk c (n + 1) (.ref 560) S :=
  CodeOk.fn (w := w_overlaps ) kf.f_overlaps (by first | kernel_rfl | decide +kernel) F_overlaps.nd F_overlaps.fn (by first | kernel_rfl | decide +kernel) (by first | kernel_rfl | decide +kernel) (by first | kernel_rfl | decide +kernel) (by first | kernel_rfl | decide +kernel) (@sm_overlaps c n kf  ) (fun ps st Q h => ⟨(hS ps st Q h).1, (hS ps st Q h).2⟩)
theorem co_intervals (kf : KF c.K) {S_ends_arguments S_Occupation S_operand_roles : Spec} (h_ends_arguments : CallOk c n (.ref 539) S_ends_arguments) (h_Occupation : CallOk c n (.ref 563) S_Occupation) (h_operand_roles : CallOk c n (.ref 532) S_operand_roles) {S : Spec} (hS : ∀ ps st Q, S ps st Q → ps.length = 2 ∧ w_intervals S_ends_arguments S_Occupation S_operand_roles (frame0 nm_intervals ps) st (fun fl _ st2 => ∃ st3, Le st3 st2 ∧ Q (retOf fl) st3)) : CodeOk c (n + 1) (.ref 572) S :=
  CodeOk.fn (w := w_intervals S_ends_arguments S_Occupation S_operand_roles) kf.f_intervals (by first | kernel_rfl | decide +kernel) F_intervals.nd F_intervals.fn (by first | kernel_rfl | decide +kernel) (by first | kernel_rfl | decide +kernel) (by first | kernel_rfl | decide +kernel) (by first | kernel_rfl | decide +kernel) (@sm_intervals c n kf S_ends_arguments S_Occupation S_operand_roles h_ends_arguments h_Occupation h_operand_roles) (fun ps st Q h => ⟨(hS ps st Q h).1, (hS ps st Q h).2⟩)
theorem co_wishes (kf : KF c.K)  {S : Spec} (hS : ∀ ps st Q, S ps st Q → ps.length = 1 ∧ w_wishes  (frame0 nm_wishes ps) st (fun fl _ st2 => ∃ st3, Le st3 st2 ∧ Q (retOf fl) st3)) : CodeOk c (n + 1) (.ref 579) S :=
  CodeOk.fn (w := w_wishes ) kf.f_wishes (by first | kernel_rfl | decide +kernel) F_wishes.nd F_wishes.fn (by first | kernel_rfl | decide +kernel) (by first | kernel_rfl | decide +kernel) (by first | kernel_rfl | decide +kernel) (by first | kernel_rfl | decide +kernel) (@sm_wishes c n kf  ) (fun ps st Q h => ⟨(hS ps st Q h).1, (hS ps st Q h).2⟩)
theorem co_RF_init (kf : KF c.K)  {S : Spec} (hS : ∀ ps st Q, S ps st Q → ps.length = 1 ∧ w_RF_init  (frame0 nm_RF_init ps) st (fun fl _ st2 => ∃ st3, Le st3 st2 ∧ Q (retOf fl) st3)) : CodeOk c (n + 1) (.ref 593) S :=
  CodeOk.fn (w := w_RF_init ) kf.f_RF_init (by first | kernel_rfl | decide +kernel) F_RF_init.nd F_RF_init.fn (by first | kernel_rfl | decide +kernel) (by first | kernel_rfl | decide +kernel) (by first | kernel_rfl | decide +kernel) (by first | kernel_rfl | decide +kernel) (@sm_RF_init c n kf  ) (fun ps st Q h => ⟨(hS ps st Q h).1, (hS ps st Q h).2⟩)
theorem co_occupy (kf : KF c.K)  {S : Spec} (hS : ∀ ps st Q, S ps st Q → ps.length = 3 ∧ w_occupy  (frame0 nm_occupy ps) st (fun fl _ st2 => ∃ st3, Le st3 st2 ∧ Q (retOf fl) st3)) : CodeOk c (n + 1) (.ref 600) S :=
  CodeOk.fn (w := w_occupy ) kf.f_occupy (by first | kernel_rfl | decide +kernel) F_occupy.nd F_occupy.fn (by first | kernel_rfl | decide +kernel) (by first | kernel_rfl | decide +kernel) (by first | kernel_rfl | decide +kernel) (by first | kernel_rfl | decide +kernel) (@sm_occupy c n kf  ) (fun ps st Q h => ⟨(hS ps st Q h).1, (hS ps st Q h).2⟩)
theorem co_is_free (kf : KF c.K) {S_m_overlaps : Spec} (h_m_overlaps : CallOk c n (.ref 560) S_m_overlaps) {S : Spec} (hS : ∀ ps st Q, S ps st Q → ps.length = 3 ∧ w_is_free S_m_overlaps (frame0 nm_is_free ps) st (fun fl _ st2 => ∃ st3, Le st3 st2 ∧ Q (retOf fl) st3)) : CodeOk c (n + 1) (.ref 607) S :=
  CodeOk.fn (w := w_is_free S_m_overlaps) kf.f_is_free (by first | kernel_rfl | decide +kernel) F_is_free.nd F_is_free.fn (by first | kernel_rfl | decide +kernel) (by first | kernel_rfl | decide +kernel) (by first | kernel_rfl | decide +kernel) (by first | kernel_rfl | decide +kernel) (@sm_is_free c n kf S_m_overlaps h_m_overlaps) (fun ps st Q h => ⟨(hS ps st Q h).1, (hS ps st Q h).2⟩)
theorem co_wished (kf : KF c.K)  {S : Spec} (hS : ∀ ps st Q, S ps st Q → ps.length = 3 ∧ w_wished  (frame0 nm_wished ps) st (fun fl _ st2 => ∃ st3, Le st3 st2 ∧ Q (retOf fl) st3)) : CodeOk c (n + 1) (.ref 614) S :=
  CodeOk.fn (w := w_wished ) kf.f_wished (by first | kernel_rfl | decide +kernel) F_wished.nd F_wished.fn (by first | kernel_rfl | decide +kernel) (by first | kernel_rfl | decide +kernel) (by first | kernel_rfl | decide +kernel) (by first | kernel_rfl | decide +kernel) (@sm_wished c n kf  ) (fun ps st Q h => ⟨(hS ps st Q h).1, (hS ps st Q h).2⟩)
theorem co_place (kf : KF c.K) {S_m_wished S_m_is_free S_m_occupy : Spec} (h_m_wished : CallOk c n (.ref 614) S_m_wished) (h_m_is_free : CallOk c n (.ref 607) S_m_is_free) (h_m_occupy : CallOk c n (.ref 600) S_m_occupy) {S : Spec} (hS : ∀ ps st Q, S ps st Q → ps.length = 3 ∧ w_place S_m_wished S_m_is_free S_m_occupy (frame0 nm_place ps) st (fun fl _ st2 => ∃ st3, Le st3 st2 ∧ Q (retOf fl) st3)) : CodeOk c (n + 1) (.ref 621) S :=
  CodeOk.fn (w := w_place S_m_wished S_m_is_free S_m_occupy) kf.f_place (by first | kernel_rfl | decide +kernel) F_place.nd F_place.fn (by first | kernel_rfl | decide +kernel) (by first | kernel_rfl | decide +kernel) (by first | kernel_rfl | decide +kernel) (by first | kernel_rfl | decide +kernel) (@sm_place c n kf S_m_wished S_m_is_free S_m_occupy h_m_wished h_m_is_free h_m_occupy) (fun ps st Q h => ⟨(hS ps st Q h).1, (hS ps st Q h).2⟩)
theorem co_real_operand (kf : KF c.K)  {S : Spec} (hS : ∀ ps st Q, S ps st Q → ps.length = 2 ∧ w_real_operand  (frame0 nm_real_operand ps) st (fun fl _ st2 => ∃ st3, Le st3 st2 ∧ Q (retOf fl) st3)) : CodeOk c (n + 1) (.ref 642) S :=
  CodeOk.fn (w := w_real_operand ) kf.f_real_operand (by first | kernel_rfl | decide +kernel) F_real_operand.nd F_real_operand.fn (by first | kernel_rfl | decide +kernel) (by first | kernel_rfl | decide +kernel) (by first | kernel_rfl | decide +kernel) (by first | kernel_rfl | decide +kernel) (@sm_real_operand c n kf  ) (fun ps st Q h => ⟨(hS ps st Q h).1, (hS ps st Q h).2⟩)
theorem co_allocate (kf : KF c.K) {S_RegisterFile S_intervals S_wishes S_m_place S_by_start S_real_operand S_greatest : Spec} (h_RegisterFile : CallOk c n (.ref 624) S_RegisterFile) (h_intervals : CallOk c n (.ref 572) S_intervals) (h_wishes : CallOk c n (.ref 579) S_wishes) (h_m_place : CallOk c n (.ref 621) S_m_place) (h_by_start : CallOk c n (.ref 635) S_by_start) (h_real_operand : CallOk c n (.ref 642) S_real_operand) (h_greatest : CallOk c n (.ref 656) S_greatest) {S : Spec} (hS : ∀ ps st Q, S ps st Q → ps.length = 4 ∧ w_allocate S_RegisterFile S_intervals S_wishes S_m_place S_by_start S_real_operand S_greatest (frame0 nm_allocate ps) st (fun fl _ st2 => ∃ st3, Le st3 st2 ∧ Q (retOf fl) st3)) : CodeOk c (n + 1) (.ref 649) S :=
  CodeOk.fn (w := w_allocate S_RegisterFile S_intervals S_wishes S_m_place S_by_start S_real_operand S_greatest) kf.f_allocate (by first | kernel_rfl | decide +kernel) F_allocate.nd F_allocate.fn (by first | kernel_rfl | decide +kernel) (by first | kernel_rfl | decide +kernel) (by first | kernel_rfl | decide +kernel) (by first | kernel_rfl | decide +kernel) (@sm_allocate c n kf S_RegisterFile S_intervals S_wishes S_m_place S_by_start S_real_operand S_greatest h_RegisterFile h_intervals h_wishes h_m_place h_by_start h_real_operand h_greatest) (fun ps st Q h => ⟨(hS ps st Q h).1, (hS ps st Q h).2⟩)
theorem co_greatest (kf : KF c.K) {S_operand_roles : Spec} (h_operand_roles : CallOk c n (.ref 532) S_operand_roles) {S : Spec} (hS : ∀ ps st Q, S ps st Q → ps.length = 1 ∧ w_greatest S_operand_roles (frame0 nm_greatest ps) st (fun fl _ st2 => ∃ st3, Le st3 st2 ∧ Q (retOf fl) st3)) : CodeOk c (n + 1) (.ref 656) S :=
  CodeOk.fn (w := w_greatest S_operand_roles) kf.f_greatest (by first | kernel_rfl | decide +kernel) F_greatest.nd F_greatest.fn (by first | kernel_rfl | decide +kernel) (by first | kernel_rfl | decide +kernel) (by first | kernel_rfl | decide +kernel) (by first | kernel_rfl | decide +kernel) (@sm_greatest c n kf S_operand_roles h_operand_roles) (fun ps st Q h => ⟨(hS ps st Q h).1, (hS ps st Q h).2⟩)
theorem co_l_digit (kf : KF c.K)  {S : Spec} (hS : ∀ ps st Q, S ps st Q → ps.length = 2 ∧ w_l_digit  (frame0 nm_l_digit ps) st (fun fl _ st2 => ∃ st3, Le st3 st2 ∧ Q (retOf fl) st3)) : CodeOk c (n + 1) (.ref 663) S :=
  CodeOk.fn (w := w_l_digit ) kf.f_l_digit (by first | kernel_rfl | decide +kernel) F_l_digit.nd F_l_digit.fn (by first | kernel_rfl | decide +kernel) (by first | kernel_rfl | decide +kernel) (by first | kernel_rfl | decide +kernel) (by first | kernel_rfl | decide +kernel) (@sm_l_digit c n kf  ) (fun ps st Q h => ⟨(hS ps st Q h).1, (hS ps st Q h).2⟩)
theorem co_l_tree (kf : KF c.K) {S_l_digit S_l_tree : Spec} (h_l_digit : CallOk c n (.ref 663) S_l_digit) (h_l_tree : CallOk c n (.ref 670) S_l_tree) {S : Spec} (hS : ∀ ps st Q, S ps st Q → ps.length = 2 ∧ w_l_tree S_l_digit S_l_tree (frame0 nm_l_tree ps) st (fun fl _ st2 => ∃ st3, Le st3 st2 ∧ Q (retOf fl) st3)) : CodeOk c (n + 1) (.ref 670) S :=
  CodeOk.fn (w := w_l_tree S_l_digit S_l_tree) kf.f_l_tree (by first | kernel_rfl | decide +kernel) F_l_tree.nd F_l_tree.fn (by first | kernel_rfl | decide +kernel) (by first | kernel_rfl | decide +kernel) (by first | kernel_rfl | decide +kernel) (by first | kernel_rfl | decide +kernel) (@sm_l_tree c n kf S_l_digit S_l_tree h_l_digit h_l_tree) (fun ps st Q h => ⟨(hS ps st Q h).1, (hS ps st Q h).2⟩)
theorem co_l_nested (kf : KF c.K)  {S : Spec} (hS : ∀ ps st Q, S ps st Q → ps.length = 1 ∧ w_l_nested  (frame0 nm_l_nested ps) st (fun fl _ st2 => ∃ st3, Le st3 st2 ∧ Q (retOf fl) st3)) : CodeOk c (n + 1) (.ref 675) S :=
  CodeOk.fn (w := w_l_nested ) kf.f_l_nested (by first | kernel_rfl | decide +kernel) F_l_nested.nd F_l_nested.fn (by first | kernel_rfl | decide +kernel) (by first | kernel_rfl | decide +kernel) (by first | kernel_rfl | decide +kernel) (by first | kernel_rfl | decide +kernel) (@sm_l_nested c n kf  ) (fun ps st Q h => ⟨(hS ps st Q h).1, (hS ps st Q h).2⟩)
theorem co_l_totals (kf : KF c.K) {S_l_totals S_l_nested : Spec} (h_l_totals : CallOk c n (.ref 682) S_l_totals) (h_l_nested : CallOk c n (.ref 675) S_l_nested) {S : Spec} (hS : ∀ ps st Q, S ps st Q → ps.length = 1 ∧ w_l_totals S_l_totals S_l_nested (frame0 nm_l_totals ps) st (fun fl _ st2 => ∃ st3, Le st3 st2 ∧ Q (retOf fl) st3)) : CodeOk c (n + 1) (.ref 682) S :=
  CodeOk.fn (w := w_l_totals S_l_totals S_l_nested) kf.f_l_totals (by first | kernel_rfl | decide +kernel) F_l_totals.nd F_l_totals.fn (by first | kernel_rfl | decide +kernel) (by first | kernel_rfl | decide +kernel) (by first | kernel_rfl | decide +kernel) (by first | kernel_rfl | decide +kernel) (@sm_l_totals c n kf S_l_totals S_l_nested h_l_totals h_l_nested) (fun ps st Q h => ⟨(hS ps st Q h).1, (hS ps st Q h).2⟩)
theorem co_l_apart (kf : KF c.K) {S_l_nested S_l_apart : Spec} (h_l_nested : CallOk c n (.ref 675) S_l_nested) (h_l_apart : CallOk c n (.ref 689) S_l_apart) {S : Spec} (hS : ∀ ps st Q, S ps st Q → ps.length = 1 ∧ w_l_apart S_l_nested S_l_apart (frame0 nm_l_apart ps) st (fun fl _ st2 => ∃ st3, Le st3 st2 ∧ Q (retOf fl) st3)) : CodeOk c (n + 1) (.ref 689) S :=
  CodeOk.fn (w := w_l_apart S_l_nested S_l_apart) kf.f_l_apart (by first | kernel_rfl | decide +kernel) F_l_apart.nd F_l_apart.fn (by first | kernel_rfl | decide +kernel) (by first | kernel_rfl | decide +kernel) (by first | kernel_rfl | decide +kernel) (by first | kernel_rfl | decide +kernel) (@sm_l_apart c n kf S_l_nested S_l_apart h_l_nested h_l_apart) (fun ps st Q h => ⟨(hS ps st Q h).1, (hS ps st Q h).2⟩)
theorem co_l_together (kf : KF c.K) {S_l_nested S_l_together : Spec} (h_l_nested : CallOk c n (.ref 675) S_l_nested) (h_l_together : CallOk c n (.ref 696) S_l_together) {S : Spec} (hS : ∀ ps st Q, S ps st Q → ps.length = 1 ∧ w_l_together S_l_nested S_l_together (frame0 nm_l_together ps) st (fun fl _ st2 => ∃ st3, Le st3 st2 ∧ Q (retOf fl) st3)) : CodeOk c (n + 1) (.ref 696) S :=
  CodeOk.fn (w := w_l_together S_l_nested S_l_together) kf.f_l_together (by first | kernel_rfl | decide +kernel) F_l_together.nd F_l_together.fn (by first | kernel_rfl | decide +kernel) (by first | kernel_rfl | decide +kernel) (by first | kernel_rfl | decide +kernel) (by first | kernel_rfl | decide +kernel) (@sm_l_together c n kf S_l_nested S_l_together h_l_nested h_l_together) (fun ps st Q h => ⟨(hS ps st Q h).1, (hS ps st Q h).2⟩)
theorem co_l_right (kf : KF c.K) {S_l_totals S_allocate S_greatest : Spec} (h_l_totals : CallOk c n (.ref 682) S_l_totals) (h_allocate : CallOk c n (.ref 649) S_allocate) (h_greatest : CallOk c n (.ref 656) S_greatest) {S : Spec} (hS : ∀ ps st Q, S ps st Q → ps.length = 4 ∧ w_l_right S_l_totals S_allocate S_greatest (frame0 nm_l_right ps) st (fun fl _ st2 => ∃ st3, Le st3 st2 ∧ Q (retOf fl) st3)) : CodeOk c (n + 1) (.ref 703) S :=
  CodeOk.fn (w := w_l_right S_l_totals S_allocate S_greatest) kf.f_l_right (by first | kernel_rfl | decide +kernel) F_l_right.nd F_l_right.fn (by first | kernel_rfl | decide +kernel) (by first | kernel_rfl | decide +kernel) (by first | kernel_rfl | decide +kernel) (by first | kernel_rfl | decide +kernel) (@sm_l_right c n kf S_l_totals S_allocate S_greatest h_l_totals h_allocate h_greatest) (fun ps st Q h => ⟨(hS ps st Q h).1, (hS ps st Q h).2⟩)
end
end Mine
namespace Mine

@[simp ↓] theorem orF_def {α : Type} (o : Option α) (k : α → Prop) : orF o k = (match o with | some a => k a | none => False) := rfl
@[simp ↓] theorem br_def (b : Bool) (A B : Prop) : br b A B = (match b with | true => A | false => B) := rfl
@[simp 10] theorem br_match (b : Bool) (A B : Prop) : (match b with | true => A | false => B) = ((b = true → A) ∧ (b = false → B)) := by cases b <;> simp

@[simp] theorem setL_ls (st : St) (a : Addr) (ps : List PV) (b : Addr) : (st.setL a ps).ls b = if b = a then some ps else st.ls b := rfl
@[simp] theorem setL_ins (st : St) (a : Addr) (ps : List PV) : (st.setL a ps).ins = st.ins := rfl
@[simp] theorem setL_di (st : St) (a : Addr) (ps : List PV) : (st.setL a ps).di = st.di := rfl
@[simp] theorem setL_dk (st : St) (a : Addr) (ps : List PV) : (st.setL a ps).dk = st.dk := rfl
@[simp] theorem setL_dt (st : St) (a : Addr) (ps : List PV) : (st.setL a ps).dt = st.dt := rfl
@[simp] theorem setL_tb (st : St) (a : Addr) (ps : List PV) : (st.setL a ps).tb = st.tb := rfl
@[simp] theorem setI_ls (st : St) (a C : Addr) (ps : List (Nat × PV)) : (st.setI a C ps).ls = st.ls := rfl
@[simp] theorem setI_ins (st : St) (a C : Addr) (ps : List (Nat × PV)) (b : Addr) : (st.setI a C ps).ins b = if b = a then some (C, ps) else st.ins b := rfl
@[simp] theorem setI_di (st : St) (a C : Addr) (ps : List (Nat × PV)) : (st.setI a C ps).di = st.di := rfl
@[simp] theorem setI_dk (st : St) (a C : Addr) (ps : List (Nat × PV)) : (st.setI a C ps).dk = st.dk := rfl
@[simp] theorem setI_dt (st : St) (a C : Addr) (ps : List (Nat × PV)) : (st.setI a C ps).dt = st.dt := rfl
@[simp] theorem setI_tb (st : St) (a C : Addr) (ps : List (Nat × PV)) : (st.setI a C ps).tb = st.tb := rfl
@[simp] theorem setDi_ls (st : St) (a : Addr) (f) : (st.setDi a f).ls = st.ls := rfl
@[simp] theorem setDi_ins (st : St) (a : Addr) (f) : (st.setDi a f).ins = st.ins := rfl
@[simp] theorem setDi_di (st : St) (a : Addr) (f) (b : Addr) : (st.setDi a f).di b = if b = a then some f else st.di b := rfl
@[simp] theorem setDi_dk (st : St) (a : Addr) (f) : (st.setDi a f).dk = st.dk := rfl
@[simp] theorem setDi_dt (st : St) (a : Addr) (f) : (st.setDi a f).dt = st.dt := rfl
@[simp] theorem setDi_tb (st : St) (a : Addr) (f) : (st.setDi a f).tb = st.tb := rfl
@[simp] theorem setDk_ls (st : St) (a : Addr) (f) : (st.setDk a f).ls = st.ls := rfl
@[simp] theorem setDk_ins (st : St) (a : Addr) (f) : (st.setDk a f).ins = st.ins := rfl
@[simp] theorem setDk_dk (st : St) (a : Addr) (f) (b : Addr) : (st.setDk a f).dk b = if b = a then some f else st.dk b := rfl
@[simp] theorem setDk_di (st : St) (a : Addr) (f) : (st.setDk a f).di = st.di := rfl
@[simp] theorem setDk_dt (st : St) (a : Addr) (f) : (st.setDk a f).dt = st.dt := rfl
@[simp] theorem setDk_tb (st : St) (a : Addr) (f) : (st.setDk a f).tb = st.tb := rfl
@[simp] theorem setDt_ls (st : St) (a : Addr) (f) : (st.setDt a f).ls = st.ls := rfl
@[simp] theorem setDt_ins (st : St) (a : Addr) (f) : (st.setDt a f).ins = st.ins := rfl
@[simp] theorem setDt_dt (st : St) (a : Addr) (f) (b : Addr) : (st.setDt a f).dt b = if b = a then some f else st.dt b := rfl
@[simp] theorem setDt_di (st : St) (a : Addr) (f) : (st.setDt a f).di = st.di := rfl
@[simp] theorem setDt_dk (st : St) (a : Addr) (f) : (st.setDt a f).dk = st.dk := rfl
@[simp] theorem setDt_tb (st : St) (a : Addr) (f) : (st.setDt a f).tb = st.tb := rfl

theorem ofString_inj {s t : String} (h : Str.ofString s = Str.ofString t) : s = t := by
  rw [Str.ofString_eq_toList, Str.ofString_eq_toList] at h
  injection h with h
  have h2 : s.toList.map Char.toNat = t.toList.map Char.toNat := by simpa using h
  have inj : ∀ {a b : List Char}, a.map Char.toNat = b.map Char.toNat → a = b := by
    intro a
    induction a with
    | nil => intro b e; cases b with | nil => rfl | cons _ _ => cases e
    | cons x a ih =>
      intro b e
      cases b with
      | nil => cases e
      | cons y b =>
        simp only [List.map_cons, List.cons.injEq] at e
        have : x = y := by
          apply Char.ext
          exact UInt32.toNat_inj.mp e.1
        rw [this, ih e.2]
  exact String.toList_inj.mp (inj h2)
@[simp] theorem ofString_eq (s t : String) : (Str.ofString s = Str.ofString t) ↔ s = t := ⟨ofString_inj, fun e => e ▸ rfl⟩
/-- what stands stays, but at X -/
noncomputable def Keep (X : List Addr) (st st' : St) : Prop := ∀ b mo, b ∉ X → st.has b mo → st'.has b mo
theorem Keep.rfl' (X : List Addr) (st : St) : Keep X st st := fun _ _ _ h => h
theorem Keep.trans {X : List Addr} {s₁ s₂ s₃ : St} (a : Keep X s₁ s₂) (b : Keep X s₂ s₃) : Keep X s₁ s₃ := fun c mo h q => b c mo h (a c mo h q)
theorem Keep.mono {X Y : List Addr} {s₁ s₂ : St} (a : Keep X s₁ s₂) (h : ∀ b, b ∈ X → b ∈ Y) : Keep Y s₁ s₂ := fun c mo q => a c mo (fun z => q (h c z))
theorem Keep.nil {X : List Addr} {s₁ s₂ : St} (a : Keep [] s₁ s₂) : Keep X s₁ s₂ := a.mono (fun _ h => nomatch h)
theorem Keep.ls {X : List Addr} {st st' : St} (k : Keep X st st') {b : Addr} (h : b ∉ X) {ps : List PV} (e : st.ls b = some ps) : st'.ls b = some ps := k b (.list ps) h e
theorem Keep.ins {X : List Addr} {st st' : St} (k : Keep X st st') {b C : Addr} (h : b ∉ X) {fs : List (Nat × PV)} (e : st.ins b = some (C, fs)) : st'.ins b = some (C, fs) := k b (.inst C fs) h e
theorem Keep.di {X : List Addr} {st st' : St} (k : Keep X st st') {b : Addr} (h : b ∉ X) {f} (e : st.di b = some f) : st'.di b = some f := k b (.di f) h e
theorem Keep.dk {X : List Addr} {st st' : St} (k : Keep X st st') {b : Addr} (h : b ∉ X) {f} (e : st.dk b = some f) : st'.dk b = some f := k b (.dk f) h e
theorem Keep.dt {X : List Addr} {st st' : St} (k : Keep X st st') {b : Addr} (h : b ∉ X) {f} (e : st.dt b = some f) : st'.dt b = some f := k b (.dt f) h e
theorem Keep.tb {X : List Addr} {st st' : St} (k : Keep X st st') {b : Addr} (h : b ∉ X) (e : st.tb b = true) : st'.tb b = true := k b .tab h e
theorem keep_setL {X : List Addr} {st : St} {a : Addr} {ps : List PV} (h : a ∈ X ∨ st.free a) : Keep X st (st.setL a ps) := fun b mo hb q => by
  have hba : b ≠ a := fun e => h.elim (fun z => hb (e ▸ z)) (fun z => z mo (e ▸ q))
  cases mo <;> simp [St.has, hba] at q ⊢ <;> exact q
theorem keep_setI {X : List Addr} {st : St} {a C : Addr} {fs : List (Nat × PV)} (h : a ∈ X ∨ st.free a) : Keep X st (st.setI a C fs) := fun b mo hb q => by
  have hba : b ≠ a := fun e => h.elim (fun z => hb (e ▸ z)) (fun z => z mo (e ▸ q))
  cases mo <;> simp [St.has, hba] at q ⊢ <;> exact q
theorem keep_setDi {X : List Addr} {st : St} {a : Addr} {f} (h : a ∈ X ∨ st.free a) : Keep X st (st.setDi a f) := fun b mo hb q => by
  have hba : b ≠ a := fun e => h.elim (fun z => hb (e ▸ z)) (fun z => z mo (e ▸ q))
  cases mo <;> simp [St.has, hba] at q ⊢ <;> exact q
theorem keep_setDk {X : List Addr} {st : St} {a : Addr} {f} (h : a ∈ X ∨ st.free a) : Keep X st (st.setDk a f) := fun b mo hb q => by
  have hba : b ≠ a := fun e => h.elim (fun z => hb (e ▸ z)) (fun z => z mo (e ▸ q))
  cases mo <;> simp [St.has, hba] at q ⊢ <;> exact q
theorem keep_setDt {X : List Addr} {st : St} {a : Addr} {f} (h : a ∈ X ∨ st.free a) : Keep X st (st.setDt a f) := fun b mo hb q => by
  have hba : b ≠ a := fun e => h.elim (fun z => hb (e ▸ z)) (fun z => z mo (e ▸ q))
  cases mo <;> simp [St.has, hba] at q ⊢ <;> exact q
theorem free_ls {st : St} {a : Addr} (h : st.free a) {ps} : st.ls a ≠ some ps := fun e => h (.list ps) e
theorem free_ne_ls {st : St} {a b : Addr} (h : st.free a) {ps} (e : st.ls b = some ps) : b ≠ a := fun z => h (.list ps) (z ▸ e)
theorem free_ne_ins {st : St} {a b C : Addr} (h : st.free a) {fs} (e : st.ins b = some (C, fs)) : b ≠ a := fun z => h (.inst C fs) (z ▸ e)
theorem free_ne_di {st : St} {a b : Addr} (h : st.free a) {f} (e : st.di b = some f) : b ≠ a := fun z => h (.di f) (z ▸ e)
theorem free_back {X : List Addr} {st st' : St} {a : Addr} (k : Keep X st st') (hX : a ∉ X) (h : st'.free a) : st.free a := fun mo q => h mo (k a mo hX q)

/-! ### steps forward -/
theorem orF_of {α : Type} {o : Option α} {a : α} {k : α → Prop} (h : o = some a) (q : k a) : orF o k := by rw [h]; exact q
theorem br_intro {b : Bool} {A B : Prop} (hA : b = true → A) (hB : b = false → B) : br b A B := by
  cases b with
  | true => exact hA rfl
  | false => exact hB rfl
theorem br_t {b : Bool} {A B : Prop} (h : b = true) (q : A) : br b A B := by rw [h]; exact q
theorem br_f {b : Bool} {A B : Prop} (h : b = false) (q : B) : br b A B := by rw [h]; exact q
theorem ls_eq {st : St} {a : Addr} {ps : List PV} : (st.setL a ps).ls a = some ps := if_pos rfl
theorem ls_ne {st : St} {a b : Addr} {ps : List PV} {x : Option (List PV)} (h : b ≠ a) (e : st.ls b = x) : (st.setL a ps).ls b = x := (if_neg h).trans e
theorem ins_eq {st : St} {a C : Addr} {fs : List (Nat × PV)} : (st.setI a C fs).ins a = some (C, fs) := if_pos rfl
theorem ins_ne {st : St} {a b C : Addr} {fs : List (Nat × PV)} {x : Option (Addr × List (Nat × PV))} (h : b ≠ a) (e : st.ins b = x) : (st.setI a C fs).ins b = x := (if_neg h).trans e
theorem di_eq {st : St} {a : Addr} {f} : (st.setDi a f).di a = some f := if_pos rfl
theorem di_ne {st : St} {a b : Addr} {f} {x : Option (Nat × (Int → Option PV))} (h : b ≠ a) (e : st.di b = x) : (st.setDi a f).di b = x := (if_neg h).trans e
theorem gLen_ls {st : St} {a : Addr} {ps : List PV} (h : st.ls a = some ps) : gLen st [.ref a] = some (.int ps.length) := by simp [gLen, h]
theorem insOf_eq {st : St} {C b : Addr} {fs : List (Nat × PV)} (h : st.ins b = some (C, fs)) : insOf C st (.ref b) = some (b, fs) := by simp [insOf, h]
theorem getA_eq {st : St} {C b : Addr} {k : Nat} {fs : List (Nat × PV)} (h : st.ins b = some (C, fs)) : getA C k st (.ref b) = getF k fs := by simp [getA, h]
theorem isL_eq {st : St} {a : Addr} {ps : List PV} (h : st.ls a = some ps) : isL st a = true := by unfold isL; rw [h]; rfl
theorem wp_next {I : Nat → Fm → St → Prop} {k k' : Nat} {m : Fm} {st : St} (hk : k' < k) (h : I k' m st) : ∃ k' m' st', k' < k ∧ LeF m' m ∧ Le st' st ∧ I k' m' st' := ⟨k', m, st, hk, .rfl' _, .rfl' _, h⟩
theorem lp_next {I : Fm → St → Prop} {m : Fm} {st : St} (h : I m st) : ∃ m' st', LeF m' m ∧ Le st' st ∧ I m' st' := ⟨m, st, .rfl' _, .rfl' _, h⟩
theorem st_end {P : St → Prop} {st : St} (h : P st) : ∃ st', Le st' st ∧ P st' := ⟨st, .rfl' _, h⟩
theorem not1 {a b : Addr} (h : a ≠ b) : a ∉ [b] := fun q => h (List.mem_singleton.mp q)
theorem notC {a b : Addr} {X : List Addr} (h : a ≠ b) (q : a ∉ X) : a ∉ b :: X := List.not_mem_cons_of_ne_of_not_mem h q
theorem not0 {a : Addr} : a ∉ ([] : List Addr) := List.not_mem_nil
theorem meth_of {C : Addr} {S : Spec} {i : Nat} {ws : WEs} {m : Fm} {st : St} {Q : PV → St → Prop} {b : Addr} {fs : List (Nat × PV)} {ps : List PV} (hi : lk m i = some (.ref b)) (hb : st.ins b = some (C, fs)) (hw : ∀ R : List PV → St → Prop, R ps st → ws m st R)
    (h : S (.ref b :: ps) st Q) : W.meth C S (W.loc i) ws m st Q := orF_of hi (orF_of (insOf_eq hb) (hw _ h))
theorem attr_of {C : Addr} {k i : Nat} {m : Fm} {st : St} {Q : PV → St → Prop} {b : Addr} {fs : List (Nat × PV)} {p : PV} (hi : lk m i = some (.ref b)) (hb : st.ins b = some (C, fs)) (hf : getF k fs = some p) (h : Q p st) : W.attr C k (W.loc i) m st Q := orF_of hi (orF_of ((getA_eq hb).trans hf) h)
theorem expr_meth {C : Addr} {S : Spec} {i : Nat} {ws : WEs} {rest : WS} {m : Fm} {st : St} {Q : Fl → Fm → St → Prop} {b : Addr} {fs : List (Nat × PV)} {ps : List PV} (hi : lk m i = some (.ref b)) (hb : st.ins b = some (C, fs)) (hw : ∀ R : List PV → St → Prop, R ps st → ws m st R)
    (h : S (.ref b :: ps) st fun r st1 => r.plain = true ∧ rest m st1 Q) : W.seq (W.expr (W.meth C S (W.loc i) ws)) rest m st Q := orF_of hi (orF_of (insOf_eq hb) (hw _ h))
theorem asg_meth {C : Addr} {S : Spec} {i j : Nat} {ws : WEs} {rest : WS} {m : Fm} {st : St} {Q : Fl → Fm → St → Prop} {b : Addr} {fs : List (Nat × PV)} {ps : List PV} (hi : lk m i = some (.ref b)) (hb : st.ins b = some (C, fs)) (hw : ∀ R : List PV → St → Prop, R ps st → ws m st R)
    (h : S (.ref b :: ps) st fun r st1 => rest (m.set j (some r)) st1 Q) : W.seq (W.asg j (W.meth C S (W.loc i) ws)) rest m st Q := orF_of hi (orF_of (insOf_eq hb) (hw _ h))
theorem gEq_str (s : Str) : gEq (.str s) (.str s) = some true := by simp [gEq]
theorem isDi_eq {st : St} {a : Addr} {f} (h : st.di a = some f) : isDi st a = true := by unfold isDi; rw [h]; rfl
theorem isDk_eq {st : St} {a : Addr} {f} (h : st.dk a = some f) : isDk st a = true := by unfold isDk; rw [h]; rfl
theorem isDt_eq {st : St} {a : Addr} {f} (h : st.dt a = some f) : isDt st a = true := by unfold isDt; rw [h]; rfl
theorem gGetDk_eq {st : St} {a : Addr} {f : Nat × (Str → Option PV)} {k : Str} {d : PV} (h : st.dk a = some f) : gGetDk st [.ref a, .str k, d] = some ((f.2 k).getD d) := by show (st.dk a).map _ = _; rw [h]; rfl
theorem gGetDt_eq {st : St} {a : Addr} {f : Nat × (List Int → Option PV)} {k l : Int} {d : PV} (h : st.dt a = some f) : gGetDt st [.ref a, .tup [.int k, .int l], d] = some ((f.2 [k, l]).getD d) := by show (st.dt a).map _ = _; rw [h]; rfl
theorem gGetDi_eq {st : St} {a : Addr} {f : Nat × (Int → Option PV)} {k : Int} {d : PV} (h : st.di a = some f) : gGetDi st [.ref a, .int k, d] = some ((f.2 k).getD d) := by show (st.di a).map _ = _; rw [h]; rfl
theorem take_snoc {α : Type} {l : List α} {i : Nat} {x : α} (h : l[i]? = some x) : l.take (i + 1) = l.take i ++ [x] := by rw [List.take_add_one, h]; rfl
theorem map_get {α β : Type} {f : α → β} {l : List α} {i : Nat} {x : β} (h : (l.map f)[i]? = some x) : ∃ y, l[i]? = some y ∧ f y = x := Option.map_eq_some_iff.mp (List.getElem?_map.symm.trans h)
theorem map_none {α β : Type} {f : α → β} {l : List α} {i : Nat} (h : (l.map f)[i]? = none) : l.take i = l := List.take_of_length_le (by rw [← List.length_map (f := f)]; exact List.getElem?_eq_none_iff.mp h)
theorem get_lt {α : Type} {l : List α} {i : Nat} {x : α} (h : l[i]? = some x) : i < l.length := (List.getElem?_eq_some_iff.mp h).1
theorem expr_methG {C : Addr} {S : Spec} {i : Nat} {ws : WEs} {rest : WS} {m : Fm} {st : St} {Q : Fl → Fm → St → Prop} {b : Addr} {fs : List (Nat × PV)} (hi : lk m i = some (.ref b)) (hb : st.ins b = some (C, fs))
    (h : ws m st fun ps st2 => S (.ref b :: ps) st2 fun r st1 => r.plain = true ∧ rest m st1 Q) : W.seq (W.expr (W.meth C S (W.loc i) ws)) rest m st Q := orF_of hi (orF_of (insOf_eq hb) h)
theorem cons_attr {C k i : Nat} {es : WEs} {m : Fm} {st : St} {Q : List PV → St → Prop} {b : Addr} {fs : List (Nat × PV)} {p : PV} (hi : lk m i = some (.ref b)) (hb : st.ins b = some (C, fs)) (hf : getF k fs = some p) (h : es m st fun ps st2 => Q (p :: ps) st2) : W.cons (W.attr C k (W.loc i)) es m st Q := attr_of hi hb hf h
theorem cons_loc {i : Nat} {es : WEs} {m : Fm} {st : St} {Q : List PV → St → Prop} {p : PV} (hi : lk m i = some p) (h : es m st fun ps st2 => Q (p :: ps) st2) : W.cons (W.loc i) es m st Q := orF_of hi h
theorem call_of {S : Spec} {ws : WEs} {m : Fm} {st : St} {Q : PV → St → Prop} (h : ws m st fun ps st1 => S ps st1 Q) : W.call S ws m st Q := h
/-! ### expressions that change nothing -/
noncomputable def Ev (e : WE) (m : Fm) (st : St) (p : PV) : Prop := ∀ R : PV → St → Prop, R p st → e m st R
noncomputable def EvT (t : WT) (m : Fm) (st : St) (b : Bool) : Prop := ∀ R : Bool → St → Prop, R b st → t m st R
noncomputable def EvS (es : WEs) (m : Fm) (st : St) (ps : List PV) : Prop := ∀ R : List PV → St → Prop, R ps st → es m st R
noncomputable def sq (rest : WS) (Q : Fl → Fm → St → Prop) : Fl → Fm → St → Prop := fun fl m st => match fl with | .next => rest m st Q | fl => Q fl m st
section
variable {m : Fm} {st : St} {e ei : WE} {t ts : WT} {a : Addr} {ps : List PV} {p u r : PV} {k : Int} {i : Nat} {rest : WS} {Q : Fl → Fm → St → Prop}
theorem EvS.nil : EvS W.nil m st [] := fun _ h => h
theorem EvS.cons {es : WEs} (he : Ev e m st p) (h : EvS es m st ps) : EvS (W.cons e es) m st (p :: ps) := fun _ q => he _ (h _ q)
theorem Ev.loc (h : lk m i = some p) : Ev (W.loc i) m st p := fun _ q => orF_of h q
theorem Ev.const : Ev (W.const p) m st p := fun _ q => q
theorem Ev.tup {es : WEs} (h : EvS es m st ps) (hl : lenLe ps 1000 = true) : Ev (W.tup es) m st (.tup ps) := fun _ q => h _ (br_t hl q)
theorem Ev.subL (he : Ev e m st (.ref a)) (hi : Ev ei m st (.int k)) (ha : st.ls a = some ps) (hp : idx ps k = some p) : Ev (W.subL e ei) m st p := fun _ q => he _ (hi _ (orF_of (by unfold getL; dsimp only; rw [ha]; exact hp) q))
theorem Ev.subT (he : Ev e m st (.tup ps)) (hi : Ev ei m st (.int k)) (hp : idx ps k = some p) : Ev (W.subT e ei) m st p := fun _ q => he _ (hi _ (orF_of (show getT (.tup ps) (.int k) = some p from hp) q))
theorem Ev.bin {g : PV → PV → Option PV} (he : Ev e m st p) (hi : Ev ei m st u) (hg : g p u = some r) : Ev (W.bin g e ei) m st r := fun _ q => he _ (hi _ (orF_of hg q))
theorem Ev.neg (he : Ev e m st (.int k)) : Ev (W.neg e) m st (.int (-k)) := fun _ q => he _ q
theorem Ev.attr {C : Addr} {b : Addr} {n : Nat} {fs : List (Nat × PV)} (he : Ev e m st (.ref b)) (hb : st.ins b = some (C, fs)) (hf : getF n fs = some p) : Ev (W.attr C n e) m st p := fun _ q => he _ (orF_of ((getA_eq hb).trans hf) q)
theorem Ev.fn {g : St → List PV → Option PV} {es : WEs} (hs : EvS es m st ps) (hg : g st ps = some r) : Ev (W.call (Sp.fn g) es) m st r := fun _ q => hs _ (orF_of hg q)
theorem Ev.len (he : Ev e m st (.ref a)) (ha : st.ls a = some ps) : Ev (W.call (Sp.fn gLen) (W.cons e W.nil)) m st (.int ps.length) := Ev.fn (EvS.cons he EvS.nil) (gLen_ls ha)
theorem Ev.lenT (he : Ev e m st (.tup ps)) : Ev (W.call (Sp.fn gLen) (W.cons e W.nil)) m st (.int ps.length) := Ev.fn (EvS.cons he EvS.nil) rfl
theorem Ev.tupOf (he : Ev e m st (.ref a)) (ha : st.ls a = some ps) : Ev (W.call Sp.tupOf (W.cons e W.nil)) m st (.tup ps) := fun _ q => he _ ⟨a, ps, rfl, ha, q⟩
theorem EvT.cmp {g : PV → PV → Option Bool} {b : Bool} (he : Ev e m st p) (hi : Ev ei m st u) (hg : g p u = some b) : EvT (W.cmpT g e ei) m st b := fun _ q => he _ (hi _ (orF_of hg q))
theorem EvT.or {b b' : Bool} (h : EvT t m st b) (h' : EvT ts m st b') : EvT (W.orT t ts) m st (b || b') := fun _ q => h _ (by cases b with | true => exact q | false => exact h' _ q)
theorem EvT.and {b b' : Bool} (h : EvT t m st b) (h' : EvT ts m st b') : EvT (W.andT t ts) m st (b && b') := fun _ q => h _ (by cases b with | true => exact h' _ q | false => exact q)
theorem EvT.and_t (h : EvT t m st true) (h' : EvT ts m st true) : EvT (W.andT t ts) m st true := fun _ q => h _ (h' _ q)
theorem EvT.and_f (h : EvT t m st false) : EvT (W.andT t ts) m st false := fun _ q => h _ q
theorem EvT.notInDi {fn : Nat × (Int → Option PV)} (he : Ev e m st (.int k)) (hi : Ev ei m st (.ref a)) (hd : st.di a = some fn) : EvT (W.notInDi e ei) m st (!(fn.2 k).isSome) := fun _ q => he _ (hi _ ⟨k, a, fn, rfl, rfl, hd, q⟩)
theorem Ev.isTup (he : Ev e m st p) (hg : gIsTup st [p] = some r) : Ev (W.isTup e) m st r := fun _ q => he _ (orF_of hg q)
theorem Ev.subDi {fn : Nat × (Int → Option PV)} (he : Ev e m st (.ref a)) (hi : Ev ei m st (.int k)) (hd : st.di a = some fn) (hp : fn.2 k = some p) : Ev (W.subDi e ei) m st p := fun _ q => he _ (hi _ (orF_of (by unfold getDi; dsimp only; rw [hd]; exact hp) q))
theorem EvT.tt {b : Bool} : EvT (W.tt b) m st b := fun _ q => q
theorem EvT.not {b : Bool} (h : EvT t m st b) : EvT (W.notT t) m st (!b) := fun _ q => h _ q
theorem EvT.val {b : Bool} (h : Ev e m st (.bool b)) : EvT (W.valT e) m st b := fun _ q => h _ q
theorem step_asg (he : Ev e m st p) (h : rest (m.set i (some p)) st Q) : W.seq (W.asg i e) rest m st Q := he _ h
theorem step_ret (he : Ev e m st p) (h : Q (.ret p) m st) : W.seq (W.ret e) rest m st Q := he _ h
theorem step_ite {a b : WS} {v : Bool} (ht : EvT t m st v) (hA : v = true → a m st (sq rest Q)) (hB : v = false → b m st (sq rest Q)) : W.seq (W.ite t a b) rest m st Q := ht _ (br_intro hA hB)
theorem step_t {a b : WS} (ht : EvT t m st true) (hA : a m st (sq rest Q)) : W.seq (W.ite t a b) rest m st Q := ht _ hA
theorem step_f {a b : WS} (ht : EvT t m st false) (hB : b m st (sq rest Q)) : W.seq (W.ite t a b) rest m st Q := ht _ hB
theorem skip_sq (h : rest m st Q) : W.skip m st (sq rest Q) := h
theorem skip_next (h : Q .next m st) : W.skip m st Q := h
theorem putL_eq (ha : st.ls a = some ps) (h0 : 0 ≤ k) (hk : k < ps.length) : putL' st (.ref a) (.int k) p = some (a, ps.set k.toNat p) := by simp [putL', setIdx, ha, h0, hk]
theorem step_putL {eo : WE} (he : Ev e m st p) (ho : Ev eo m st (.ref a)) (hi : Ev ei m st (.int k)) (ha : st.ls a = some ps) (h0 : 0 ≤ k) (hk : k < ps.length) (h : rest m (st.setL a (ps.set k.toNat p)) Q) : W.seq (W.putL eo ei e) rest m st Q := he _ (ho _ (hi _ (orF_of (putL_eq ha h0 hk) h)))
theorem step_augL {g : PV → PV → Option PV} {eo : WE} (ho : Ev eo m st (.ref a)) (hi : Ev ei m st (.int k)) (ha : st.ls a = some ps) (hp : idx ps k = some p) (he : Ev e m st u) (hg : g p u = some r) (h0 : 0 ≤ k) (hk : k < ps.length) (h : rest m (st.setL a (ps.set k.toNat r)) Q) : W.seq (W.augL g eo ei e) rest m st Q :=
  ho _ (hi _ (orF_of (by unfold getL; dsimp only; rw [ha]; exact hp) (he _ (orF_of hg (orF_of (putL_eq ha h0 hk) h)))))
theorem step_setA {C b : Addr} {n : Nat} {eo : WE} {fs : List (Nat × PV)} (he : Ev e m st p) (ho : Ev eo m st (.ref b)) (hb : st.ins b = some (C, fs)) (hl : fs.length ≤ 100) (h : rest m (st.setI b C (setF n p fs)) Q) : W.seq (W.setA C n eo e) rest m st Q := he _ (ho _ (orF_of (insOf_eq hb) ⟨hl, h⟩))
theorem setA_ls {C b : Addr} {k : Nat} {fs : List (Nat × PV)} (ho : lk m i = some (.ref b)) (hb : st.ins b = some (C, fs)) (hl : fs.length ≤ 100) (h : ∀ a, st.free a → rest m ((st.setL a []).setI b C (setF k (.ref a) fs)) Q) : W.seq (W.setA C k (W.loc i) (W.list W.nil)) rest m st Q := fun a ha => orF_of ho (orF_of (insOf_eq (st := st.setL a _) hb) ⟨hl, h a ha⟩)
theorem setA_set {C b : Addr} {k : Nat} {fs : List (Nat × PV)} (ho : lk m i = some (.ref b)) (hb : st.ins b = some (C, fs)) (hl : fs.length ≤ 100) (h : ∀ a, rest m (st.setI b C (setF k (.ref a) fs)) Q) : W.seq (W.setA C k (W.loc i) (W.call Sp.set0 W.nil)) rest m st Q := ⟨rfl, fun a => orF_of ho (orF_of (insOf_eq hb) ⟨hl, h a⟩)⟩
theorem ret_call {S : Spec} {ws : WEs} (hs : EvS ws m st ps) (h : S ps st fun r st2 => Q (.ret r) m st2) : W.seq (W.ret (W.call S ws)) rest m st Q := hs _ h
theorem step_aug {g : PV → PV → Option PV} (hm : lk m i = some p) (he : Ev e m st u) (hg : g p u = some r) (h : rest (m.set i (some r)) st Q) : W.seq (W.aug g i e) rest m st Q := orF_of hm (he _ (orF_of hg h))
theorem app_stepE {e : WE} (hi : lk m i = some (.ref a)) (ha : st.ls a = some ps) (h : e m st fun p st1 => Sp.append [.ref a, p] st1 fun r st2 => r.plain = true ∧ rest m st2 Q) : W.seq (W.expr (W.methB isL Sp.append (W.loc i) (W.cons e W.nil))) rest m st Q := orF_of hi ⟨a, rfl, isL_eq ha, h⟩
theorem app_post (ha : st.ls a = some ps) (hl : ps.length < 1000000) (h : rest m (st.setL a (ps ++ [p])) Q) : Sp.append [.ref a, p] st fun r st2 => r.plain = true ∧ rest m st2 Q := ⟨a, p, ps, rfl, ha, hl, rfl, h⟩
theorem idx_get (h0 : 0 ≤ k) (h : ps[k.toNat]? = some p) : idx ps k = some p := (if_pos h0).trans h
end
theorem ite_no {t : WT} {a rest : WS} {m : Fm} {st : St} {Q : Fl → Fm → St → Prop} (ht : ∀ R : Bool → St → Prop, R false st → t m st R) (h : rest m st Q) : W.seq (W.ite t a W.skip) rest m st Q := ht _ h
theorem ite_yes {t : WT} {a b rest : WS} {m : Fm} {st : St} {Q : Fl → Fm → St → Prop} (ht : ∀ R : Bool → St → Prop, R true st → t m st R) (h : W.seq a rest m st Q) : W.seq (W.ite t a b) rest m st Q := ht _ h
theorem asgT_pop {i j k : Nat} {rest : WS} {m : Fm} {st : St} {Q : Fl → Fm → St → Prop} {a : Addr} {xs ys : List PV} {p q : PV} (hk : lk m k = some (.ref a)) (ha : st.ls a = some ys) (hy : ys = xs ++ [.tup [p, q]])
    (h : rest ((m.set i (some p)).set j (some q)) (st.setL a xs) Q) : W.seq (W.asgT (W.tPair i j) (W.methB isL Sp.pop (W.loc k) W.nil)) rest m st Q :=
  orF_of hk ⟨a, rfl, isL_eq ha, a, xs, _, rfl, hy ▸ ha, p, q, rfl, h⟩
theorem app_step {i : Nat} {e : WE} {rest : WS} {m : Fm} {st : St} {Q : Fl → Fm → St → Prop} {a : Addr} {xs : List PV} {p : PV} (hi : lk m i = some (.ref a)) (ha : st.ls a = some xs) (he : ∀ R : PV → St → Prop, R p st → e m st R) (hl : xs.length < 1000000)
    (h : rest m (st.setL a (xs ++ [p])) Q) : W.seq (W.expr (W.methB isL Sp.append (W.loc i) (W.cons e W.nil))) rest m st Q :=
  orF_of hi ⟨a, rfl, isL_eq ha, he _ ⟨a, p, xs, rfl, ha, hl, rfl, h⟩⟩
section
variable {c : Cx} {n : Nat}
/-! ### small functions -/
noncomputable def Sp_constant_cell : Spec := fun ps st Q => ∃ k, ps = [.tup [.str "a", .int k]] ∧ Q (.tup [.int 4, .int k]) st
theorem ok_constant_cell (kf : KF c.K) : CodeOk c (n + 1) (.ref 165) Sp_constant_cell := co_constant_cell kf (fun ps st Q h => by
  obtain ⟨k, rfl, h⟩ := h
  refine ⟨rfl, ?_⟩
  simp [w_constant_cell]
  exact ⟨st, .rfl' _, h⟩)
noncomputable def Sp_emit : Spec := fun ps st Q => ∃ b cd fs code i, ps = [.ref b, i] ∧ st.ins b = some (306, fs) ∧ getF 2 fs = some (.ref cd) ∧ st.ls cd = some code ∧ code.length < 1000 ∧ Q .none (st.setL cd (code ++ [i]))
theorem ok_emit (kf : KF c.K) : CodeOk c (n + 1) (.ref 186) Sp_emit := co_emit kf (fun ps st Q h => by
  obtain ⟨b, cd, fs, code, i, rfl, h1, h2, h3, h4, h⟩ := h
  refine ⟨rfl, ?_⟩
  simp [w_emit, h1, h2, h3, and_assoc]
  exact ⟨by (first | lia | omega), _, .rfl' _, h⟩)
theorem ite_emit {i j : Nat} {s1 s2 : Str} {rest : WS} {m : Fm} {st : St} {Q : Fl → Fm → St → Prop} {b cd : Addr} {fs : List (Nat × PV)} {code : List PV} {f : Int} {x y z ins : PV} (hi : lk m i = some (.tup [y, .int f, z])) (h0 : lk m 0 = some (.ref b)) (hj : lk m j = some x)
    (hb : st.ins b = some (306, fs)) (h2 : getF 2 fs = some (.ref cd)) (hc : st.ls cd = some code) (hl : code.length < 1000) (e1 : f = 0 → ins = .tup [.str s1, x]) (e2 : f ≠ 0 → ins = .tup [.str s2, .int f, x]) (h : rest m (st.setL cd (code ++ [ins])) Q) :
    W.seq (W.ite (W.cmpT gEq (W.subT (W.loc i) (W.const (.int 1))) (W.const (.int 0))) (W.seq (W.expr (W.meth 306 Sp_emit (W.loc 0) (W.cons (W.tup (W.cons (W.const (.str s1)) (W.cons (W.loc j) W.nil))) W.nil))) W.skip)
      (W.seq (W.expr (W.meth 306 Sp_emit (W.loc 0) (W.cons (W.tup (W.cons (W.const (.str s2)) (W.cons (W.subT (W.loc i) (W.const (.int 1))) (W.cons (W.loc j) W.nil)))) W.nil))) W.skip)) rest m st Q := by
  refine orF_of hi (br_intro (fun hf => ?_) (fun hf => ?_))
  · have hf : f = 0 := of_decide_eq_true hf
    obtain rfl := e1 hf
    exact expr_meth h0 hb (fun R h => orF_of hj h) ⟨b, cd, fs, code, _, rfl, hb, h2, hc, hl, rfl, h⟩
  · have hf : f ≠ 0 := of_decide_eq_false hf
    obtain rfl := e2 hf
    exact expr_meth h0 hb (fun R h => orF_of hi (orF_of hj h)) ⟨b, cd, fs, code, _, rfl, hb, h2, hc, hl, rfl, h⟩
noncomputable def Sp_new_temporary : Spec := fun ps st Q => ∃ b fs k, ps = [.ref b] ∧ st.ins b = some (306, fs) ∧ fs.length ≤ 100 ∧ getF 5 fs = some (.int k) ∧ Q (.tup [.str "t", .int k]) (st.setI b 306 (setF 5 (.int (k + 1)) fs))
theorem ok_new_temporary (kf : KF c.K) : CodeOk c (n + 1) (.ref 193) Sp_new_temporary := co_new_temporary kf (fun ps st Q h => by
  obtain ⟨b, fs, k, rfl, h1, h2, h3, h⟩ := h
  refine ⟨rfl, ?_⟩
  simp [w_new_temporary, h1, h2, h3, and_assoc]
  exact ⟨_, .rfl' _, h⟩)
/-- an Occupation -/
noncomputable def ocF (kind : Str) (n i j : Int) : List (Nat × PV) := [(19, .str kind), (20, .int n), (21, .int i), (22, .int j)]
inductive Sp_Oc_init (ps : List PV) (st : St) (Q : PV → St → Prop) : Prop
  | mk (b) (kind) (n) (i) (j) (_ : ps = [.ref b, .str kind, .int n, .int i, .int j]) (_ : st.ins b = some (563, [])) (_ : ∀ st', Keep [b] st st' → st'.ins b = some (563, ocF kind n i j) → Q .none st') : Sp_Oc_init ps st Q
theorem ok_Oc_init (kf : KF c.K) : CodeOk c (n + 1) (.ref 553) Sp_Oc_init := co_Oc_init kf (fun ps st Q h => by
  obtain ⟨b, kind, n, i, j, rfl, h1, h⟩ := h
  refine ⟨rfl, ?_⟩
  simp [w_Oc_init, h1, and_assoc]
  exact ⟨_, .rfl' _, h _ ((((keep_setI (.inl (.head _))).trans (keep_setI (.inl (.head _)))).trans (keep_setI (.inl (.head _)))).trans (keep_setI (.inl (.head _)))) (by simp [ocF])⟩)
inductive Sp_overlaps (ps : List PV) (st : St) (Q : PV → St → Prop) : Prop
  | mk (a) (b) (f) (g) (i) (j) (k) (l) (_ : ps = [.ref a, .ref b]) (_ : st.ins a = some (563, f)) (_ : st.ins b = some (563, g)) (_ : getF 21 f = some (.int i)) (_ : getF 22 f = some (.int j)) (_ : getF 21 g = some (.int k)) (_ : getF 22 g = some (.int l)) (_ : Q (.bool (decide (i < l ∧ k < j))) st) : Sp_overlaps ps st Q
theorem ok_overlaps (kf : KF c.K) : CodeOk c (n + 1) (.ref 560) Sp_overlaps := co_overlaps kf (fun ps st Q h => by
  obtain ⟨a, b, f, g, i, j, k, l, rfl, h1, h2, h3, h4, h5, h6, h⟩ := h
  refine ⟨rfl, ?_⟩
  simp [w_overlaps, h1, h2, h3, h4, h5, h6, and_assoc]
  refine ⟨fun hil => ?_, fun hil => ?_⟩
  · simp [hil] at h ⊢; exact ⟨_, .rfl' _, h⟩
  · have hil' : ¬ i < l := by (first | lia | omega)
    simp [hil'] at h ⊢; exact ⟨_, .rfl' _, h⟩)
/-- the rows of code that are made -/
inductive Row where
  | getL (r : Int) | getS (f r : Int) | uVar (r : Int) | uCon (k : Int) | putL (r : Int) | putS (f r : Int) | sVal (r : Int) | sCon (k : Int)
noncomputable def tmp (r : Int) : PV := .tup [.str "t", .int r]
noncomputable def con (k : Int) : PV := .tup [.int 4, .int k]
noncomputable def Row.parts (w : Int → PV) : Row → List PV
  | .getL r => [.str "get_list", w r] | .getS f r => [.str "get_structure", .int f, w r] | .uVar r => [.str "unify_variable", w r] | .uCon k => [.str "unify_constant", con k]
  | .putL r => [.str "put_list", w r] | .putS f r => [.str "put_structure", .int f, w r] | .sVal r => [.str "set_value", w r] | .sCon k => [.str "set_constant", con k]
/-- what it touches: a writing, or a reading -/
noncomputable def Row.touch : Row → Option (Bool × Int)
  | .getL r => some (false, r) | .getS _ r => some (false, r) | .uVar r => some (true, r) | .putL r => some (true, r) | .putS _ r => some (true, r) | .sVal r => some (false, r)
  | _ => none
noncomputable def roles (w : Int → PV) (r : Row) : List PV := match r.touch with
  | some (b, n) => [.tup [.int (if b then 2 else 1), w n]]
  | none => []
noncomputable def Row.pv (w : Int → PV) (r : Row) : PV := .tup (r.parts w)
inductive Sp_ends_arguments (ps : List PV) (st : St) (Q : PV → St → Prop) : Prop
  | mk (w) (r) (_ : ps = [Row.pv w r]) (_ : Q (.bool false) st) : Sp_ends_arguments ps st Q
theorem ok_ends_arguments (kf : KF c.K) : CodeOk c (n + 1) (.ref 539) Sp_ends_arguments := co_ends_arguments kf (fun ps st Q h => by
  obtain ⟨w, r, rfl, h⟩ := h
  refine ⟨rfl, ?_⟩
  cases r <;> (simp [w_ends_arguments, Row.pv, Row.parts, and_assoc]; exact ⟨_, .rfl' _, h⟩))
theorem asg_sub0 {p : PV} {ps : List PV} {x : Option PV} {rest : WS} {st : St} {Q : Fl → Fm → St → Prop} (h : rest [some (.tup (p :: ps)), some p] st Q) : W.seq (W.asg 1 (W.subT (W.loc 0) (W.const (.int 0)))) rest [some (.tup (p :: ps)), x] st Q := by
  simpa using h
theorem ite1 {s k : Str} {x : Option PV} {a rest : WS} {st : St} {Q : Fl → Fm → St → Prop} (hk : decide (k = s) = false) (h : rest [x, some (.str k)] st Q) : W.seq (W.ite (W.cmpT gEq (W.loc 1) (W.const (.str s))) a W.skip) rest [x, some (.str k)] st Q := by
  simpa [of_decide_eq_false hk] using h
theorem ite2 {s t k : Str} {x : Option PV} {a rest : WS} {st : St} {Q : Fl → Fm → St → Prop} (hk : decide (k = s) = false) (hj : decide (k = t) = false) (h : rest [x, some (.str k)] st Q) : W.seq (W.ite (W.orT (W.cmpT gEq (W.loc 1) (W.const (.str s))) (W.orT (W.cmpT gEq (W.loc 1) (W.const (.str t))) (W.tt false))) a W.skip) rest [x, some (.str k)] st Q := by
  simpa [of_decide_eq_false hk, of_decide_eq_false hj] using h
theorem ite1y {s : Str} {x : Option PV} {e : WE} {rest : WS} {st : St} {Q : Fl → Fm → St → Prop} (h : e [x, some (.str s)] st fun p st1 => Q (.ret p) [x, some (.str s)] st1) : W.seq (W.ite (W.cmpT gEq (W.loc 1) (W.const (.str s))) (W.seq (W.ret e) W.skip) W.skip) rest [x, some (.str s)] st Q := by
  simpa using h
theorem ite2y {s t k : Str} {x : Option PV} {e : WE} {rest : WS} {st : St} {Q : Fl → Fm → St → Prop} (hk : k = s ∨ k = t) (h : e [x, some (.str k)] st fun p st1 => Q (.ret p) [x, some (.str k)] st1) : W.seq (W.ite (W.orT (W.cmpT gEq (W.loc 1) (W.const (.str s))) (W.orT (W.cmpT gEq (W.loc 1) (W.const (.str t))) (W.tt false))) (W.seq (W.ret e) W.skip) W.skip) rest [x, some (.str k)] st Q := by
  by_cases h1 : k = s
  · simpa [h1] using h1 ▸ h
  · have h2 : k = t := hk.resolve_left h1
    subst h2
    simpa [h1] using h
theorem ret1 {k j : Int} {p : PV} {x : Option PV} {ps : List PV} {st : St} {Q : PV → St → Prop} (hj : idx ps j = some p) (h : ∀ a, st.free a → Q (.ref a) (st.setL a [.tup [.int k, p]])) : (W.list (W.cons (W.tup (W.cons (W.const (.int k)) (W.cons (W.subT (W.loc 0) (W.const (.int j))) W.nil))) W.nil)) [some (.tup ps), x] st Q := by
  simpa [-idx, hj] using h
theorem ret0 {m : Fm} {rest : WS} {st : St} {Q : Fl → Fm → St → Prop} (h : ∀ a, st.free a → Q (.ret (.ref a)) m (st.setL a [])) : W.seq (W.ret (W.list W.nil)) rest m st Q := by
  simpa using h
inductive Sp_operand_roles (ps : List PV) (st : St) (Q : PV → St → Prop) : Prop
  | mk (w) (r) (_ : ps = [Row.pv w r]) (_ : ∀ a, st.free a → Q (.ref a) (st.setL a (roles w r))) : Sp_operand_roles ps st Q
theorem ok_operand_roles (kf : KF c.K) : CodeOk c (n + 1) (.ref 532) Sp_operand_roles := co_operand_roles kf (fun ps st Q h => by
  obtain ⟨w, r, rfl, h⟩ := h
  refine ⟨rfl, ?_⟩
  unfold w_operand_roles
  cases r
  · exact asg_sub0 (ite1 (by decide +kernel) (ite1 (by decide +kernel) (ite2 (by decide +kernel) (by decide +kernel) (ite1y (ret1 rfl (fun a ha => ⟨_, .rfl' _, h a ha⟩))))))
  · exact asg_sub0 (ite1 (by decide +kernel) (ite1 (by decide +kernel) (ite2y (by decide +kernel) (ret1 rfl (fun a ha => ⟨_, .rfl' _, h a ha⟩)))))
  · exact asg_sub0 (ite1 (by decide +kernel) (ite1 (by decide +kernel) (ite2 (by decide +kernel) (by decide +kernel) (ite1 (by decide +kernel) (ite2y (by decide +kernel) (ret1 rfl (fun a ha => ⟨_, .rfl' _, h a ha⟩)))))))
  · exact asg_sub0 (ite1 (by decide +kernel) (ite1 (by decide +kernel) (ite2 (by decide +kernel) (by decide +kernel) (ite1 (by decide +kernel) (ite2 (by decide +kernel) (by decide +kernel) (ite2 (by decide +kernel) (by decide +kernel) (ite2 (by decide +kernel) (by decide +kernel) (ite1 (by decide +kernel) (ite2 (by decide +kernel) (by decide +kernel) (ite2 (by decide +kernel) (by decide +kernel) (ite2 (by decide +kernel) (by decide +kernel) (ite2 (by decide +kernel) (by decide +kernel) (ite1 (by decide +kernel) (ret0 (fun a ha => ⟨_, .rfl' _, h a ha⟩)))))))))))))))
  · exact asg_sub0 (ite1 (by decide +kernel) (ite1 (by decide +kernel) (ite2 (by decide +kernel) (by decide +kernel) (ite1 (by decide +kernel) (ite2 (by decide +kernel) (by decide +kernel) (ite2 (by decide +kernel) (by decide +kernel) (ite2 (by decide +kernel) (by decide +kernel) (ite1 (by decide +kernel) (ite2 (by decide +kernel) (by decide +kernel) (ite2 (by decide +kernel) (by decide +kernel) (ite2y (by decide +kernel) (ret1 rfl (fun a ha => ⟨_, .rfl' _, h a ha⟩)))))))))))))
  · exact asg_sub0 (ite1 (by decide +kernel) (ite1 (by decide +kernel) (ite2 (by decide +kernel) (by decide +kernel) (ite1 (by decide +kernel) (ite2 (by decide +kernel) (by decide +kernel) (ite2 (by decide +kernel) (by decide +kernel) (ite2 (by decide +kernel) (by decide +kernel) (ite1 (by decide +kernel) (ite2 (by decide +kernel) (by decide +kernel) (ite2y (by decide +kernel) (ret1 rfl (fun a ha => ⟨_, .rfl' _, h a ha⟩))))))))))))
  · exact asg_sub0 (ite1 (by decide +kernel) (ite1 (by decide +kernel) (ite2 (by decide +kernel) (by decide +kernel) (ite1 (by decide +kernel) (ite2 (by decide +kernel) (by decide +kernel) (ite2y (by decide +kernel) (ret1 rfl (fun a ha => ⟨_, .rfl' _, h a ha⟩))))))))
  · exact asg_sub0 (ite1 (by decide +kernel) (ite1 (by decide +kernel) (ite2 (by decide +kernel) (by decide +kernel) (ite1 (by decide +kernel) (ite2 (by decide +kernel) (by decide +kernel) (ite2 (by decide +kernel) (by decide +kernel) (ite2 (by decide +kernel) (by decide +kernel) (ite1 (by decide +kernel) (ite2 (by decide +kernel) (by decide +kernel) (ite2 (by decide +kernel) (by decide +kernel) (ite2 (by decide +kernel) (by decide +kernel) (ite2 (by decide +kernel) (by decide +kernel) (ite1 (by decide +kernel) (ret0 (fun a ha => ⟨_, .rfl' _, h a ha⟩))))))))))))))))
end
end Mine
namespace Mine
theorem loop_nil {Kp : St → Prop} {t : WA} {b : WS} {m : Fm} {st : St} {Q : Fl → Fm → St → Prop} (hk : Kp st) (hq : Q .next m st) : W.loop Kp [] t b m st Q ⟨⟩ :=
  ⟨fun _ m' st' => m' = m ∧ st' = st, ⟨rfl, rfl⟩, fun i m' st' h => by obtain ⟨rfl, rfl⟩ := h; exact ⟨hk, fun x hx => by simp at hx, fun _ => hq⟩⟩
theorem for_range0 {e : WE} {t : WA} {b rest : WS} {m : Fm} {st : St} {Q : Fl → Fm → St → Prop} (he : Ev e m st (.int 0)) (h : rest m st Q) : W.seq (W.forR e t b) rest m st Q := he _ ⟨0, rfl, Nat.zero_le _, loop_nil trivial h⟩
section
variable {c : Cx} {n : Nat}
noncomputable def kcF (p1 p2 p3 p4 : PV) : List (Nat × PV) := [(10, p1), (11, p2), (12, p3), (13, p4)]
inductive Sp_KC_init (ps : List PV) (st : St) (Q : PV → St → Prop) : Prop
  | mk (k) (p1) (p2) (p3) (p4) (_ : ps = [.ref k, p1, p2, p3, p4]) (_ : st.ins k = some (367, [])) (_ : ∀ st', Keep [k] st st' → st'.ins k = some (367, kcF p1 p2 p3 p4) → Q .none st') : Sp_KC_init ps st Q
theorem ok_KC_init (kf : KF c.K) : CodeOk c (n + 1) (.ref 364) Sp_KC_init := co_KC_init kf (fun ps st Q h => by
  obtain ⟨b, p1, p2, p3, p4, rfl, h1, h⟩ := h
  refine ⟨rfl, ?_⟩
  unfold w_KC_init
  exact step_setA (Ev.loc rfl) (Ev.loc rfl) h1 (Nat.le_of_ble_eq_true rfl) (step_setA (Ev.loc rfl) (Ev.loc rfl) ins_eq (Nat.le_of_ble_eq_true rfl) (step_setA (Ev.loc rfl) (Ev.loc rfl) ins_eq (Nat.le_of_ble_eq_true rfl) (step_setA (Ev.loc rfl) (Ev.loc rfl) ins_eq (Nat.le_of_ble_eq_true rfl) (st_end (h _ ((((keep_setI (.inl (.head _))).trans (keep_setI (.inl (.head _)))).trans (keep_setI (.inl (.head _)))).trans (keep_setI (.inl (.head _)))) ins_eq))))))
inductive Sp_KC (ps : List PV) (st : St) (Q : PV → St → Prop) : Prop
  | mk (p1) (p2) (p3) (p4) (_ : ps = [p1, p2, p3, p4]) (_ : ∀ a st', st.free a → Keep [] st st' → st'.ins a = some (367, kcF p1 p2 p3 p4) → Q (.ref a) st') : Sp_KC ps st Q
theorem keep_free {st st' : St} {a : Addr} {C : Addr} (ha : st.free a) (k : Keep [a] (st.setI a C []) st') : Keep [] st st' := fun b mo _ q => by
  have hb : b ≠ a := fun e => ha mo (e ▸ q)
  exact k b mo (not1 hb) (keep_setI (X := []) (.inr ha) b mo not0 q)
theorem ok_KC (kf : KF c.K) : CodeOk c (n + 2) (.ref 367) Sp_KC := fun _ _ _ _ _ _ _ _ _ _ rm R V hs => CodeOk.cls kf.c_367 (ok_KC_init kf) rm R V (by
  obtain ⟨p1, p2, p3, p4, rfl, h⟩ := hs
  intro a ha
  exact ⟨a, p1, p2, p3, p4, rfl, ins_eq, fun st' k e => ⟨rfl, h a st' ha (keep_free ha k) e⟩⟩)
inductive Sp_CP_init (ps : List PV) (st : St) (Q : PV → St → Prop) : Prop
  | mk (k) (p1) (p2) (p3) (p4) (p5) (_ : ps = [.ref k, p1, p2, p3, p4, p5]) (_ : st.ins k = some (458, [])) (_ : ∀ st', Keep [k] st st' → Q .none st') : Sp_CP_init ps st Q
theorem ok_CP_init (kf : KF c.K) : CodeOk c (n + 1) (.ref 420) Sp_CP_init := co_CP_init kf (fun ps st Q h => by
  obtain ⟨b, p1, p2, p3, p4, p5, rfl, h1, h⟩ := h
  refine ⟨rfl, ?_⟩
  unfold w_CP_init
  exact step_setA (Ev.loc rfl) (Ev.loc rfl) h1 (Nat.le_of_ble_eq_true rfl) (step_setA (Ev.loc rfl) (Ev.loc rfl) ins_eq (Nat.le_of_ble_eq_true rfl) (step_setA (Ev.loc rfl) (Ev.loc rfl) ins_eq (Nat.le_of_ble_eq_true rfl) (step_setA (Ev.loc rfl) (Ev.loc rfl) ins_eq (Nat.le_of_ble_eq_true rfl) (step_setA (Ev.loc rfl) (Ev.loc rfl) ins_eq (Nat.le_of_ble_eq_true rfl) (st_end (h _ (((((keep_setI (.inl (.head _))).trans (keep_setI (.inl (.head _)))).trans (keep_setI (.inl (.head _)))).trans (keep_setI (.inl (.head _)))).trans (keep_setI (.inl (.head _)))))))))))
inductive Sp_CP (ps : List PV) (st : St) (Q : PV → St → Prop) : Prop
  | mk  (_ : ps.length = 5) (_ : ∀ a st', st.free a → Keep [] st st' → Q (.ref a) st') : Sp_CP ps st Q
theorem ok_CP (kf : KF c.K) : CodeOk c (n + 2) (.ref 458) Sp_CP := fun _ _ _ _ _ _ _ _ _ _ rm R V hs => CodeOk.cls kf.c_458 (ok_CP_init kf) rm R V (by
  obtain ⟨hl, h⟩ := hs
  intro a ha
  rename_i ps vs
  obtain ⟨p1, p2, p3, p4, p5, rfl⟩ : ∃ p1 p2 p3 p4 p5, ps = [p1, p2, p3, p4, p5] := by
    match ps, hl with
    | [p1, p2, p3, p4, p5], _ => exact ⟨_, _, _, _, _, rfl⟩
  exact ⟨a, p1, p2, p3, p4, p5, rfl, ins_eq, fun st' k => ⟨rfl, h a st' ha (keep_free ha k)⟩⟩)
inductive Sp_Sv (ps : List PV) (st : St) (Q : PV → St → Prop) : Prop
  | mk  (_ : ps = []) (_ : ∀ a d st', st.free a → Keep [] st st' → st'.ins a = some (500, [(14, .ref d)]) → st'.di d = some (0, fun _ => none) → Q (.ref a) st') : Sp_Sv ps st Q
inductive Sp_Sv_init (ps : List PV) (st : St) (Q : PV → St → Prop) : Prop
  | mk (k) (_ : ps = [.ref k]) (_ : st.ins k = some (500, [])) (_ : ∀ st' d, Keep [k] st st' → st'.ins k = some (500, [(14, .ref d)]) → st'.di d = some (0, fun _ => none) → Q .none st') : Sp_Sv_init ps st Q
theorem ok_Sv_init (kf : KF c.K) : CodeOk c (n + 1) (.ref 483) Sp_Sv_init := co_Sv_init kf (fun ps st Q h => by
  obtain ⟨k, rfl, h1, h⟩ := h
  refine ⟨rfl, ?_⟩
  unfold w_Sv_init
  exact fun a ha => Ev.loc rfl _ (orF_of (insOf_eq (st := st.setDi a _) h1) ⟨Nat.zero_le _, st_end (h _ a (((keep_setDi (.inr ha))).trans (keep_setI (.inl (.head _)))) ins_eq di_eq)⟩))
theorem ok_Sv (kf : KF c.K) : CodeOk c (n + 2) (.ref 500) Sp_Sv := fun _ _ _ _ _ _ _ _ _ _ rm R V hs => CodeOk.cls kf.c_500 (ok_Sv_init kf) rm R V (by
  obtain ⟨rfl, h⟩ := hs
  intro a ha
  exact ⟨a, rfl, ins_eq, fun st' d k e1 e2 => ⟨rfl, h a d st' ha (keep_free ha k) e1 e2⟩⟩)
inductive Sp_terms (ps : List PV) (st : St) (Q : PV → St → Prop) : Prop
  | mk (k) (p) (q) (r) (_ : ps = [.ref k, .tup [], p, q, r]) (_ : Q .none st) : Sp_terms ps st Q
theorem ok_terms (kf : KF c.K) : CodeOk c (n + 1) (.ref 497) Sp_terms := co_terms kf (fun ps st Q h => by
  obtain ⟨k, p, q, r, rfl, h⟩ := h
  refine ⟨rfl, ?_⟩
  unfold w_terms
  exact .inl ⟨[], rfl, loop_nil trivial (st_end h)⟩)
inductive Sp_chunk_numbers (ps : List PV) (st : St) (Q : PV → St → Prop) : Prop
  | mk (a) (_ : ps = [.ref a]) (_ : st.ls a = some []) (_ : ∀ b st', Keep [] st st' → st'.ls b = some [] → Q (.ref b) st') : Sp_chunk_numbers ps st Q
theorem ok_chunk_numbers (kf : KF c.K) : CodeOk c (n + 1) (.ref 469) Sp_chunk_numbers := co_chunk_numbers kf (fun ps st Q h => by
  obtain ⟨a, rfl, h1, h⟩ := h
  refine ⟨rfl, ?_⟩
  unfold w_chunk_numbers
  exact fun b hb => .inr ⟨a, [], rfl, ls_ne (free_ne_ls hb h1) h1, loop_nil (ls_ne (free_ne_ls hb h1) h1) (step_ret (Ev.loc rfl) (st_end (h b _ (keep_setL (.inr hb)) ls_eq)))⟩)
inductive Sp_slot_order (ps : List PV) (st : St) (Q : PV → St → Prop) : Prop
  | mk (a) (f) (_ : ps = [.ref a]) (_ : st.di a = some (0, f)) (_ : ∀ b st', Keep [] st st' → st'.ls b = some [] → Q (.ref b) st') : Sp_slot_order ps st Q
theorem ok_slot_order (kf : KF c.K) : CodeOk c (n + 1) (.ref 518) Sp_slot_order := co_slot_order kf (fun ps st Q h => by
  obtain ⟨a, f, rfl, h1, h⟩ := h
  refine ⟨rfl, ?_⟩
  unfold w_slot_order
  exact fun b hb => ⟨a, f, rfl, h1, fun d hd => .inr ⟨d, [], rfl, ls_eq, loop_nil ls_eq (step_ret (Ev.loc rfl) (st_end (h b _ ((keep_setL (.inr hb)).trans (keep_setL (.inr hd))) (ls_ne (free_ne_ls (ps := []) hd ls_eq) ls_eq))))⟩⟩)
inductive Sp_classify (ps : List PV) (st : St) (Q : PV → St → Prop) : Prop
  | mk (k) (fs) (g) (_ : ps = [.ref k]) (_ : st.ins k = some (367, fs)) (_ : getF 12 fs = some (.ref g)) (_ : getF 11 fs = some (.tup [])) (_ : st.ls g = some []) (_ : ∀ a st', Keep [] st st' → Q (.ref a) st') : Sp_classify ps st Q
theorem ok_classify (kf : KF c.K) : CodeOk c (n + 3) (.ref 525) Sp_classify := co_classify (n := n + 2) kf (CodeOk.call (ok_chunk_numbers (n := n + 1) kf)) (CodeOk.call (ok_Sv kf)) (CodeOk.call (ok_terms (n := n + 1) kf)) (CodeOk.call (ok_slot_order (n := n + 1) kf)) (CodeOk.call (ok_CP kf)) (fun ps st Q h => by
  obtain ⟨k, fs, g, rfl, h1, h2, h3, h4, h⟩ := h
  refine ⟨rfl, ?_⟩
  unfold w_classify
  refine step_asg (Ev.attr (Ev.loc rfl) h1 h2) ⟨g, rfl, h4, fun b st1 k1 e1 => ⟨rfl, fun sv d st2 hsv k2 e2 e3 => ?_⟩⟩
  have k12 := k1.trans k2
  have g4 := k12.ls not0 h4
  refine expr_meth (b := sv) (ps := [.tup [], .str "head", .int (-1), .int 0]) rfl e2 (EvS.cons (Ev.attr (Ev.loc rfl) (k12.ins not0 h1) h3) (EvS.cons Ev.const (EvS.cons (Ev.neg Ev.const) (EvS.cons Ev.const EvS.nil)))) ⟨sv, _, _, _, rfl, ⟨rfl, ?_⟩⟩
  refine step_asg Ev.const (for_range0 (Ev.len (ps := []) (Ev.loc rfl) g4) (step_asg (Ev.attr (Ev.loc rfl) e2 rfl) ⟨d, _, rfl, e3, ⟨d, _, rfl, e3, fun od st3 k3 e5 => for_range0 (Ev.len (ps := []) (Ev.loc rfl) e5) fun la hla => ?_⟩⟩))
  have g5 := k3.ls not0 g4
  refine for_range0 (Ev.len (ps := []) (Ev.loc rfl) (ls_ne (free_ne_ls hla g5) g5)) (ret_call (EvS.cons (Ev.loc rfl) (EvS.cons (Ev.loc rfl) (EvS.cons (Ev.loc rfl) (EvS.cons (Ev.len (Ev.loc rfl) (ls_ne (free_ne_ls hla e5) e5)) (EvS.cons (Ev.loc rfl) EvS.nil))))) ⟨rfl, fun p st4 _ k4 => st_end (h _ _ (((k12.trans k3).trans (keep_setL (.inr hla))).trans k4))⟩))
noncomputable def bdF (k p cd s l : PV) (nx : Int) : List (Nat × PV) := [(0, k), (1, p), (2, cd), (3, s), (4, l), (5, .int nx)]
inductive Sp_CS_init (ps : List PV) (st : St) (Q : PV → St → Prop) : Prop
  | mk (b) (k) (p) (fs) (cnt) (_ : ps = [.ref b, .ref k, p]) (_ : st.ins b = some (306, [])) (_ : st.ins k = some (367, fs)) (_ : getF 13 fs = some (.int cnt)) (_ : ∀ st' cd s l, Keep [b] st st' → st.free cd → st'.ins b = some (306, bdF (.ref k) p (.ref cd) (.ref s) (.ref l) cnt) → st'.ls cd = some [] → Q .none st') : Sp_CS_init ps st Q
theorem ok_CS_init (kf : KF c.K) : CodeOk c (n + 1) (.ref 179) Sp_CS_init := co_CS_init kf (fun ps st Q h => by
  obtain ⟨b, k, p, fs, cnt, rfl, h1, h2, h3, h⟩ := h
  have hkb : k ≠ b := fun e => by rw [e, h1] at h2; cases h2
  refine ⟨rfl, ?_⟩
  unfold w_CS_init
  refine step_setA (Ev.loc rfl) (Ev.loc rfl) h1 (Nat.zero_le _) (step_setA (Ev.loc rfl) (Ev.loc rfl) ins_eq (Nat.le_of_ble_eq_true rfl) (setA_ls rfl ins_eq (Nat.le_of_ble_eq_true rfl) fun cd hcd => setA_set rfl ins_eq (Nat.le_of_ble_eq_true rfl) fun s => setA_set rfl ins_eq (Nat.le_of_ble_eq_true rfl) fun l => ?_))
  have k1 : Keep [b] st ((st.setI b 306 [(0, .ref k)]).setI b 306 [(0, .ref k), (1, p)]) := (keep_setI (.inl (.head _))).trans (keep_setI (.inl (.head _)))
  have hb : b ≠ cd := fun e => hcd (.inst 306 [(0, .ref k), (1, p)]) (e ▸ ins_eq)
  have hf : st.free cd := fun mo q => hcd mo (k1 cd mo (not1 (Ne.symm hb)) q)
  exact step_setA (Ev.attr (Ev.loc rfl) (ins_ne hkb (ins_ne hkb (ins_ne hkb (ins_ne hkb (ins_ne hkb h2))))) h3) (Ev.loc rfl) ins_eq (Nat.le_of_ble_eq_true rfl) (st_end (h _ cd s l (((((k1.trans (keep_setL (.inr hcd))).trans (keep_setI (.inl (.head _)))).trans (keep_setI (.inl (.head _)))).trans (keep_setI (.inl (.head _)))).trans (keep_setI (.inl (.head _)))) hf ins_eq ls_eq)))
inductive Sp_Bd (ps : List PV) (st : St) (Q : PV → St → Prop) : Prop
  | mk (k) (p) (fs) (cnt) (_ : ps = [.ref k, p]) (_ : st.ins k = some (367, fs)) (_ : getF 13 fs = some (.int cnt)) (_ : ∀ b st' cd s l, Keep [] st st' → st.free b → st.free cd → st'.ins b = some (306, bdF (.ref k) p (.ref cd) (.ref s) (.ref l) cnt) → st'.ls cd = some [] → Q (.ref b) st') : Sp_Bd ps st Q
theorem ok_Bd (kf : KF c.K) : CodeOk c (n + 2) (.ref 306) Sp_Bd := fun _ _ _ _ _ _ _ _ _ _ rm R V hs => CodeOk.cls kf.c_306 (ok_CS_init kf) rm R V (by
  obtain ⟨k, p, fs, cnt, rfl, h2, h3, h⟩ := hs
  intro a ha
  have hka : k ≠ a := free_ne_ins ha h2
  refine ⟨a, k, p, fs, cnt, rfl, ins_eq, ins_ne hka h2, h3, fun st' cd s l kk hcd e1 e2 => ⟨rfl, h a st' cd s l (keep_free ha kk) ha ?_ e1 e2⟩⟩
  exact free_back (keep_setI (X := []) (.inr ha)) not0 hcd) 
end
end Mine
namespace Mine
section
variable {c : Cx} {n : Nat}
noncomputable def syF (T A F G : Addr) : List (Nat × PV) := [(6, .ref T), (7, .ref A), (8, .ref F), (9, .ref G)]
noncomputable def AllInt {K : Type} (f : K → Option PV) : Prop := ∀ k p, f k = some p → ∃ i, p = .int i
theorem AllInt.upd {K : Type} [DecidableEq K] {f : K → Option PV} (h : AllInt f) (k : K) (i : Int) : AllInt (upd f k (.int i)) := fun x p e => by
  unfold Mine.upd at e
  split at e
  · cases e; exact ⟨i, rfl⟩
  · exact h x p e
structure SyA (st : St) (s T A F G : Addr) (N : Nat) (ts : List PV) (fA : Nat × (Str → Option PV)) (gs : List PV) (fG : Nat × (List Int → Option PV)) : Prop where
  ins : st.ins s = some (154, syF T A F G)
  t : st.ls T = some ts
  a : st.dk A = some fA
  f : st.ls F = some gs
  g : st.dt G = some fG
  ne : T ≠ F
  l1 : fA.1 ≤ N
  l2 : fG.1 ≤ N
  l3 : ts.length ≤ N
  l4 : gs.length ≤ N
  i1 : AllInt fA.2
  i2 : AllInt fG.2
inductive Sy (st : St) (s T A F G : Addr) (N : Nat) : Prop
  | mk (ts : List PV) (fA : Nat × (Str → Option PV)) (gs : List PV) (fG : Nat × (List Int → Option PV)) (H : SyA st s T A F G N ts fA gs fG)
inductive Sp_atom (ps : List PV) (st : St) (Q : PV → St → Prop) : Prop
  | mk (s) (x) (T) (A) (F) (G) (N) (_ : ps = [.ref s, .str x]) (_ : Sy st s T A F G N) (_ : N < 900) (_ : ∀ st' i, Keep [T, A, F, G] st st' → Sy st' s T A F G (N + 1) → Q (.int i) st') : Sp_atom ps st Q
theorem Sy.mono {st : St} {s T A F G : Addr} {N M : Nat} (h : Sy st s T A F G N) (l : N ≤ M) : Sy st s T A F G M := by
  obtain ⟨ts, fA, gs, fG, H⟩ := h
  exact ⟨ts, fA, gs, fG, H.ins, H.t, H.a, H.f, H.g, H.ne, Nat.le_trans H.l1 l, Nat.le_trans H.l2 l, Nat.le_trans H.l3 l, Nat.le_trans H.l4 l, H.i1, H.i2⟩
theorem allInt_getD {K : Type} {f : K → Option PV} (h : AllInt f) (k : K) : ∃ v, (f k).getD (.int (-1)) = .int v := by
  cases e : f k with
  | none => exact ⟨-1, rfl⟩
  | some p => obtain ⟨i, rfl⟩ := h k p e; exact ⟨i, rfl⟩
section
variable {m : Fm} {st : St} {Q : Fl → Fm → St → Prop} {e eo ei : WE} {ws : WEs} {rest : WS} {a b C : Addr} {ps xs : List PV} {p r : PV} {k i : Nat} {fs : List (Nat × PV)}
theorem Ev.methFn {ok : St → Addr → Bool} {g : St → List PV → Option PV} (he : Ev eo m st (.ref a)) (hok : ok st a = true) (hs : EvS ws m st ps) (hg : g st (.ref a :: ps) = some r) : Ev (W.methB ok (Sp.fn g) eo ws) m st r := fun _ q => he _ ⟨a, rfl, hok, hs _ (orF_of hg q)⟩
theorem app_at (ho : Ev eo m st (.ref a)) (ha : st.ls a = some xs) (he : Ev e m st p) (hl : xs.length < 1000000) (h : rest m (st.setL a (xs ++ [p])) Q) : W.seq (W.expr (W.methB isL Sp.append eo (W.cons e W.nil))) rest m st Q := ho _ ⟨a, rfl, isL_eq ha, he _ ⟨a, p, xs, rfl, ha, hl, rfl, h⟩⟩
theorem step_putDk {x : Str} {fn : Nat × (Str → Option PV)} (he : Ev e m st p) (ho : Ev eo m st (.ref a)) (hi : Ev ei m st (.str x)) (hd : st.dk a = some fn) (hl : fn.1 ≤ 1000) (h : rest m (st.setDk a (fn.1 + 1, upd fn.2 x p)) Q) : W.seq (W.putDk eo ei e) rest m st Q := he _ (ho _ (hi _ ⟨a, x, fn, rfl, rfl, hd, hl, h⟩))
theorem step_putDt {x y : Int} {fn : Nat × (List Int → Option PV)} (he : Ev e m st p) (ho : Ev eo m st (.ref a)) (hi : Ev ei m st (.tup [.int x, .int y])) (hd : st.dt a = some fn) (hl : fn.1 ≤ 1000) (h : rest m (st.setDt a (fn.1 + 1, upd fn.2 [x, y] p)) Q) : W.seq (W.putDt eo ei e) rest m st Q := he _ (ho _ (hi _ ⟨a, x, y, fn, rfl, rfl, hd, hl, h⟩))
theorem setA_dk (ho : lk m i = some (.ref b)) (hb : st.ins b = some (C, fs)) (hl : fs.length ≤ 100) (h : ∀ a, st.free a → rest m ((st.setDk a (0, fun _ => none)).setI b C (setF k (.ref a) fs)) Q) : W.seq (W.setA C k (W.loc i) W.dictDk) rest m st Q := fun a ha => orF_of ho (orF_of (insOf_eq (st := st.setDk a _) hb) ⟨hl, h a ha⟩)
theorem setA_dt (ho : lk m i = some (.ref b)) (hb : st.ins b = some (C, fs)) (hl : fs.length ≤ 100) (h : ∀ a, st.free a → rest m ((st.setDt a (0, fun _ => none)).setI b C (setF k (.ref a) fs)) Q) : W.seq (W.setA C k (W.loc i) W.dictDt) rest m st Q := fun a ha => orF_of ho (orF_of (insOf_eq (st := st.setDt a _) hb) ⟨hl, h a ha⟩)
theorem ret_meth2 {S S' : Spec} {x : Str} {j : Nat} (hi : lk m i = some (.ref b)) (hb : st.ins b = some (C, fs)) (hn : noneNamed x fs = true) (hw : EvS ws m st ps) (h : S' (.ref b :: ps) st fun u st1 => orF (lk m j) fun p => S [.ref b, u, p] st1 fun r st2 => Q (.ret r) m st2) :
    W.seq (W.ret (W.methF C x S (W.loc i) (W.cons (W.meth C S' (W.loc i) ws) (W.cons (W.loc j) W.nil)))) rest m st Q := orF_of hi (orF_of (insOf_eq hb) ⟨hn, orF_of hi (orF_of (insOf_eq hb) (hw _ h))⟩)
end
theorem ok_atom (kf : KF c.K) : CodeOk c (n + 1) (.ref 88) Sp_atom := co_atom kf (fun ps st Q h => by
  obtain ⟨s, x, T, A, F, G, N, rfl, ⟨ts, fA, gs, fG, H⟩, hN, h⟩ := h
  refine ⟨rfl, ?_⟩
  obtain ⟨v, hv⟩ := allInt_getD H.i1 x
  unfold w_atom
  refine step_asg (Ev.methFn (Ev.attr (Ev.loc rfl) H.ins rfl) (isDk_eq H.a) (EvS.cons (Ev.loc rfl) (EvS.cons (Ev.neg Ev.const) EvS.nil)) ((gGetDk_eq H.a).trans (congrArg some hv))) (step_ite (EvT.cmp (Ev.loc rfl) Ev.const rfl) (fun _ => step_ret (Ev.loc rfl) (st_end (h st v (.rfl' _ _) (Sy.mono ⟨ts, fA, gs, fG, H⟩ (Nat.le_succ N))))) (fun _ => skip_sq ?_))
  have l1 := H.l1
  have l3 := H.l3
  refine step_asg (Ev.len (Ev.attr (Ev.loc rfl) H.ins rfl) H.t) (app_at (Ev.attr (Ev.loc rfl) H.ins rfl) H.t (Ev.loc rfl) (by (first | lia | omega)) (step_putDk (Ev.loc rfl) (Ev.attr (Ev.loc rfl) H.ins rfl) (Ev.loc rfl) H.a (by (first | lia | omega)) (step_ret (Ev.loc rfl) (st_end (h _ _ ((keep_setL (.inl (.head _))).trans (keep_setDk (.inl (.tail _ (.head _)))))
    ⟨_, _, gs, fG, H.ins, ls_eq, if_pos rfl, ls_ne (Ne.symm H.ne) H.f, H.g, H.ne, Nat.succ_le_succ l1, Nat.le_succ_of_le H.l2, by rw [List.length_append]; exact Nat.succ_le_succ l3, Nat.le_succ_of_le H.l4, H.i1.upd _ _, H.i2⟩))))))
inductive Sp_functor (ps : List PV) (st : St) (Q : PV → St → Prop) : Prop
  | mk (s) (x) (y) (T) (A) (F) (G) (N) (_ : ps = [.ref s, .int x, .int y]) (_ : Sy st s T A F G N) (_ : N < 900) (_ : ∀ st' i, Keep [T, A, F, G] st st' → Sy st' s T A F G (N + 1) → Q (.int i) st') : Sp_functor ps st Q
theorem ok_functor (kf : KF c.K) : CodeOk c (n + 1) (.ref 102) Sp_functor := co_functor kf (fun ps st Q h => by
  obtain ⟨s, x, y, T, A, F, G, N, rfl, ⟨ts, fA, gs, fG, H⟩, hN, h⟩ := h
  refine ⟨rfl, ?_⟩
  obtain ⟨v, hv⟩ := allInt_getD H.i2 [x, y]
  have l2 := H.l2
  have l4 := H.l4
  unfold w_functor
  refine step_asg (Ev.tup (EvS.cons (Ev.loc rfl) (EvS.cons (Ev.loc rfl) EvS.nil)) rfl) (step_asg (Ev.methFn (Ev.attr (Ev.loc rfl) H.ins rfl) (isDt_eq H.g) (EvS.cons (Ev.loc rfl) (EvS.cons (Ev.neg Ev.const) EvS.nil)) ((gGetDt_eq H.g).trans (congrArg some hv))) (step_ite (EvT.cmp (Ev.loc rfl) Ev.const rfl) (fun _ => step_ret (Ev.loc rfl) (st_end (h st v (.rfl' _ _) (Sy.mono ⟨ts, fA, gs, fG, H⟩ (Nat.le_succ N))))) (fun _ => skip_sq ?_)))
  refine step_asg (Ev.len (Ev.attr (Ev.loc rfl) H.ins rfl) H.f) (app_at (Ev.attr (Ev.loc rfl) H.ins rfl) H.f (Ev.loc rfl) (by (first | lia | omega)) (step_putDt (Ev.loc rfl) (Ev.attr (Ev.loc rfl) H.ins rfl) (Ev.loc rfl) H.g (by (first | lia | omega)) (step_ret (Ev.loc rfl) (st_end (h _ _ ((keep_setL (.inl (.tail _ (.tail _ (.head _))))).trans (keep_setDt (.inl (.tail _ (.tail _ (.tail _ (.head _)))))))
    ⟨ts, fA, _, _, H.ins, ls_ne H.ne H.t, H.a, ls_eq, if_pos rfl, H.ne, Nat.le_succ_of_le H.l1, Nat.succ_le_succ l2, Nat.le_succ_of_le H.l3, by rw [List.length_append]; exact Nat.succ_le_succ l4, H.i1, H.i2.upd _ _⟩))))))
theorem nn_sy (T A F G : Addr) : noneNamed "functor" (syF T A F G) = true := by simp [noneNamed, syF, fname, fieldNames]
inductive Sp_func (ps : List PV) (st : St) (Q : PV → St → Prop) : Prop
  | mk (s) (x) (y) (T) (A) (F) (G) (N) (_ : ps = [.ref s, .str x, .int y]) (_ : Sy st s T A F G N) (_ : N < 800) (_ : ∀ st' i, Keep [T, A, F, G] st st' → Sy st' s T A F G (N + 2) → Q (.int i) st') : Sp_func ps st Q
theorem ok_func (kf : KF c.K) : CodeOk c (n + 2) (.ref 109) Sp_func := co_func (n := n + 1) kf (h_m_functor := CodeOk.call (ok_functor kf)) (h_m_atom := CodeOk.call (ok_atom kf)) (fun ps st Q h => by
  obtain ⟨s, x, y, T, A, F, G, N, rfl, ⟨ts, fA, gs, fG, H⟩, hN, h⟩ := h
  refine ⟨rfl, ?_⟩
  unfold w_func
  exact ret_meth2 (b := s) (ps := [.str x]) rfl H.ins (nn_sy T A F G) (EvS.cons (Ev.loc rfl) EvS.nil) ⟨s, x, T, A, F, G, N, rfl, ⟨ts, fA, gs, fG, H⟩, Nat.lt_trans hN (by decide), fun st' i k1 H1 => ⟨s, i, y, T, A, F, G, N + 1, rfl, H1, Nat.lt_of_le_of_lt hN (by decide), fun st2 j k2 H2 => st_end (h st2 j (k1.trans k2) H2)⟩⟩)
noncomputable def Sp_fixed_atoms : Spec := fun ps st Q => ps = [] ∧ Q (.tup pv_fixed_atoms) st
theorem ok_fixed_atoms (kf : KF c.K) : CodeOk c (n + 1) (.ref 60) Sp_fixed_atoms := co_fixed_atoms kf (fun ps st Q h => by
  obtain ⟨rfl, h⟩ := h
  refine ⟨rfl, ?_⟩
  simp only [w_fixed_atoms, W.seq, W.ret, W.tup, W.consts]
  exact ⟨st, .rfl' _, h⟩)
noncomputable def Sp_fixed_functors : Spec := fun ps st Q => ps = [] ∧ Q (.tup pv_fixed_functors) st
theorem ok_fixed_functors (kf : KF c.K) : CodeOk c (n + 1) (.ref 67) Sp_fixed_functors := co_fixed_functors kf (fun ps st Q h => by
  obtain ⟨rfl, h⟩ := h
  refine ⟨rfl, ?_⟩
  simp only [w_fixed_functors, W.seq, W.ret, W.tup, W.consts]
  exact ⟨st, .rfl' _, h⟩)
noncomputable def isStrP : PV → Bool | .str _ => true | _ => false
noncomputable def isFunP : PV → Bool | .tup [.str _, .int _] => true | _ => false
theorem atoms_str : ∀ x ∈ pv_fixed_atoms, ∃ k, x = .str k := fun x hx => by
  have h : pv_fixed_atoms.all isStrP = true := by decide +kernel
  have := List.all_eq_true.mp h x hx
  cases x <;> simp [isStrP] at this
  exact ⟨_, rfl⟩
theorem functors_ok : ∀ x ∈ pv_fixed_functors, ∃ k i, x = .tup [.str k, .int i] := fun x hx => by
  have h : pv_fixed_functors.all isFunP = true := by decide +kernel
  have := List.all_eq_true.mp h x hx
  unfold isFunP at this
  split at this
  · exact ⟨_, _, rfl⟩
  · cases this
theorem atoms_len : pv_fixed_atoms.length = 29 := by decide +kernel
theorem functors_len : pv_fixed_functors.length = 32 := by decide +kernel
inductive Sp_Sym_init (ps : List PV) (st : St) (Q : PV → St → Prop) : Prop
  | mk (s) (_ : ps = [.ref s]) (_ : st.ins s = some (154, [])) (_ : ∀ st', Keep [s] st st' → Q .none st') : Sp_Sym_init ps st Q
inductive InvY (s T A F G : Addr) (top base : Nat) (x0 : Option PV) (s0 : St) (i : Nat) (m' : Fm) (st' : St) : Prop
  | mk (x y : Option PV) (hm : m' = [some (.ref s), x, y]) (hi : i ≤ top) (k : Keep [T, A, F, G] s0 st') (H : Sy st' s T A F G (base + 2 * i))
theorem ok_Sym_init (kf : KF c.K) : CodeOk c (n + 3) (.ref 81) Sp_Sym_init := co_Sym_init (n := n + 2) kf (h_fixed_atoms := CodeOk.call (ok_fixed_atoms (n := n + 1) kf)) (h_m_atom := CodeOk.call (ok_atom (n := n + 1) kf)) (h_fixed_functors := CodeOk.call (ok_fixed_functors (n := n + 1) kf)) (h_m_func := CodeOk.call (ok_func kf)) (fun ps st Q h => by
  obtain ⟨s, rfl, h1, h⟩ := h
  refine ⟨rfl, ?_⟩
  unfold w_Sym_init
  refine setA_ls rfl h1 (Nat.zero_le _) fun T hT => setA_dk rfl ins_eq (Nat.le_of_ble_eq_true rfl) fun A hA => setA_ls rfl ins_eq (Nat.le_of_ble_eq_true rfl) fun F hF => setA_dt rfl ins_eq (Nat.le_of_ble_eq_true rfl) fun G hG => ?_
  have hTF : T ≠ F := free_ne_ls (ps := []) hF ls_eq
  have k0 := keep_setL (X := []) (ps := []) (.inr hT)
  have k1 := keep_setI (X := [s]) (C := 154) (fs := [(6, PV.ref T)]) (st := st.setL T []) (.inl (.head _))
  have k2 := k1.trans (keep_setDk (X := [s]) (f := (0, fun x => none)) (.inr hA))
  have k3 := k2.trans (keep_setI (C := 154) (fs := [(6, PV.ref T), (7, PV.ref A)]) (.inl (.head _)))
  have k4 := k3.trans (keep_setL (ps := []) (.inr hF))
  have k5 := k4.trans (keep_setI (C := 154) (fs := [(6, PV.ref T), (7, PV.ref A), (8, PV.ref F)]) (.inl (.head _)))
  have k6 := k5.trans (keep_setDt (f := (0, fun x => none)) (.inr hG))
  have k7 := k6.trans (keep_setI (C := 154) (fs := syF T A F G) (.inl (.head _)))
  have hn : ∀ b mo, st.has b mo → b ≠ s → b ≠ T ∧ b ≠ A ∧ b ≠ F ∧ b ≠ G := fun b mo q hb => by
    have q1 := k0 b mo not0 q
    exact ⟨fun e => hT mo (e ▸ q), fun e => hA mo (e ▸ k1 b mo (not1 hb) q1), fun e => hF mo (e ▸ k3 b mo (not1 hb) q1), fun e => hG mo (e ▸ k5 b mo (not1 hb) q1)⟩
  refine ⟨rfl, .inl ⟨_, rfl, InvY s T A F G 29 0 none _, ⟨_, _, rfl, Nat.zero_le _, .rfl' _ _, ⟨[], (0, fun _ => none), [], (0, fun _ => none), ins_eq, ls_ne hTF ls_eq, if_pos rfl, ls_eq, if_pos rfl, hTF, Nat.le_refl _, Nat.le_refl _, Nat.le_refl _, Nat.le_refl _, (fun _ _ e => nomatch e), (fun _ _ e => nomatch e)⟩⟩, fun i m' st' hI => ?_⟩⟩
  obtain ⟨x, z, hm, hi, k, H⟩ := hI
  subst hm
  refine ⟨trivial, fun y hy => ?_, fun _ => ⟨rfl, .inl ⟨_, rfl, InvY s T A F G 32 58 none _, ⟨_, _, rfl, Nat.zero_le _, k, H.mono (by (first | lia | omega))⟩, fun i m' st' hI => ?_⟩⟩⟩
  · obtain ⟨a, rfl⟩ := atoms_str y (List.mem_of_getElem? hy)
    have hlt := get_lt hy
    rw [atoms_len] at hlt
    obtain ⟨ts, fA, gs, fG, H'⟩ := id H
    exact expr_meth (b := s) (ps := [.str a]) rfl H'.ins (EvS.cons (Ev.loc rfl) EvS.nil) ⟨s, a, T, A, F, G, _, rfl, H, by (first | lia | omega), fun st2 j k2 H2 => ⟨rfl, lp_next ⟨_, _, rfl, hlt, k.trans k2, H2.mono (by (first | lia | omega))⟩⟩⟩
  · obtain ⟨x, z, hm, hi, k, H⟩ := hI
    subst hm
    refine ⟨trivial, fun y hy => ?_, fun _ => st_end (h st' fun b mo hb q => ?_)⟩
    · obtain ⟨a, v, rfl⟩ := functors_ok y (List.mem_of_getElem? hy)
      have hlt := get_lt hy
      rw [functors_len] at hlt
      obtain ⟨ts, fA, gs, fG, H'⟩ := id H
      exact expr_meth (b := s) (ps := [.str a, .int v]) rfl H'.ins (EvS.cons (Ev.subT (Ev.loc rfl) Ev.const rfl) (EvS.cons (Ev.subT (Ev.loc rfl) Ev.const rfl) EvS.nil)) ⟨s, a, v, T, A, F, G, _, rfl, H, by (first | lia | omega), fun st2 j k2 H2 => ⟨rfl, lp_next ⟨_, _, rfl, hlt, k.trans k2, H2.mono (by (first | lia | omega))⟩⟩⟩
    · have hb : b ≠ s := fun e => hb (e ▸ .head _)
      obtain ⟨n1, n2, n3, n4⟩ := hn b mo q hb
      exact k b mo (notC n1 (notC n2 (notC n3 (not1 n4)))) (k7 b mo (not1 hb) (k0 b mo not0 q)))
noncomputable def Sp_Sym : Spec := fun ps st Q => ps = [] ∧ ∀ a st', st.free a → Keep [] st st' → Q (.ref a) st'
theorem ok_Sym (kf : KF c.K) : CodeOk c (n + 4) (.ref 154) Sp_Sym := fun _ _ _ _ _ _ _ _ _ _ rm R V hs => CodeOk.cls kf.c_154 (ok_Sym_init kf) rm R V (by
  obtain ⟨rfl, h⟩ := hs
  intro a ha
  exact ⟨a, rfl, ins_eq, fun st' k => ⟨rfl, h a st' ha (keep_free ha k)⟩⟩)
end
end Mine
namespace Mine

/-! ### the trees -/
inductive Arg where
  | atom (k : Int) | sub (l : List Arg)
noncomputable def fnum (n : Nat) : Int := if n = 1 then 12 else if n = 2 then 0 else 26
mutual
noncomputable def Arg.pv : Arg → PV
  | .atom k => .tup [.str "a", .int k]
  | .sub l => .tup [.str "s", .int (fnum l.length), .tup (pvs l)]
noncomputable def pvs : List Arg → List PV
  | [] => []
  | a :: r => a.pv :: pvs r
end
mutual
noncomputable def Arg.comp : Arg → Nat
  | .atom _ => 0
  | .sub l => 1 + comps l
noncomputable def comps : List Arg → Nat
  | [] => 0
  | a :: r => a.comp + comps r
end
mutual
noncomputable def Arg.rows : Arg → Nat
  | .atom _ => 0
  | .sub l => 1 + l.length + rowss l
noncomputable def rowss : List Arg → Nat
  | [] => 0
  | a :: r => a.rows + rowss r
end
mutual
noncomputable def Arg.Good : Arg → Prop
  | .atom _ => True
  | .sub l => 1 ≤ l.length ∧ l.length ≤ 3 ∧ Goods l
noncomputable def Goods : List Arg → Prop
  | [] => True
  | a :: r => a.Good ∧ Goods r
end
noncomputable def Arg.isSub : Arg → Bool | .sub _ => true | _ => false
noncomputable def subs (l : List Arg) : List Arg := l.filter Arg.isSub
mutual
noncomputable def Arg.apart : Arg → Nat
  | .atom _ => 0
  | .sub l => max (max 1 (subs l).length) (apartL l)
noncomputable def apartL : List Arg → Nat
  | [] => 0
  | .atom _ :: r => apartL r
  | .sub l :: r => max ((subs r).length + Arg.apart (.sub l)) (apartL r)
end
mutual
noncomputable def Arg.tog : Arg → Nat
  | .atom _ => 0
  | .sub l => max ((subs l).length + 1) (max (togLast l) (togD (match l.getLast? with | some (.sub _) => 1 | _ => 0) l))
noncomputable def togLast : List Arg → Nat
  | [] => 0
  | [x] => x.tog
  | _ :: y :: r => togLast (y :: r)
noncomputable def togD (k : Nat) : List Arg → Nat
  | [] => 0
  | [_] => 0
  | .atom _ :: y :: r => togD k (y :: r)
  | .sub l :: y :: r => max (k + Arg.tog (.sub l)) (togD (k + 1) (y :: r))
end
theorem pvs_map : ∀ l : List Arg, pvs l = l.map Arg.pv
  | [] => rfl
  | a :: r => by rw [pvs, pvs_map r, List.map_cons]
@[simp] theorem pvs_length (l : List Arg) : (pvs l).length = l.length := by rw [pvs_map, List.length_map]
theorem Goods_mem : ∀ {l : List Arg} {a : Arg}, Goods l → a ∈ l → a.Good
  | _ :: _, _, h, .head _ => h.1
  | _ :: _, _, h, .tail _ m => Goods_mem h.2 m
theorem comps_mem : ∀ {l : List Arg} {a : Arg}, a ∈ l → a.comp ≤ comps l
  | _ :: _, _, .head _ => Nat.le_add_right _ _
  | _ :: _, _, .tail _ m => Nat.le_trans (comps_mem m) (Nat.le_add_left _ _)
theorem isS_pv (a : Arg) : isS a.pv = a.isSub := by
  cases a <;> simp [Arg.pv, isS, Arg.isSub]
theorem filter_pvs (l : List Arg) : (pvs l).filter isS = pvs (subs l) := by
  rw [pvs_map, pvs_map, subs, List.filter_map]
  congr 1
  apply List.filter_congr
  intro x _
  exact isS_pv x
theorem pv_first (a : Arg) : ∃ k r, a.pv = .tup (.str k :: r) := by
  cases a <;> simp [Arg.pv]

section
variable {c : Cx} {n : Nat}
inductive Sp_l_nested (ps : List PV) (st : St) (Q : PV → St → Prop) : Prop
  | mk (l) (_ : ps = [Arg.pv (.sub l)]) (_ : ∀ a, st.free a → Q (.ref a) (st.setL a (pvs (subs l)))) : Sp_l_nested ps st Q
theorem ok_l_nested (kf : KF c.K) : CodeOk c (n + 1) (.ref 675) Sp_l_nested := co_l_nested kf (fun ps st Q h => by
  obtain ⟨l, rfl, h⟩ := h
  refine ⟨rfl, ?_⟩
  unfold w_l_nested
  refine ⟨pvs l, rfl, fun x hx => ?_, fun a ha => st_end (by rw [filter_pvs]; exact h a ha)⟩
  rw [pvs_map] at hx
  obtain ⟨y, _, rfl⟩ := List.mem_map.mp hx
  exact pv_first y)
inductive Sp_l_totals (k : Nat) (ps : List PV) (st : St) (Q : PV → St → Prop) : Prop
  | mk (l) (_ : ps = [Arg.pv (.sub l)]) (_ : Arg.Good (.sub l)) (_ : Arg.comp (.sub l) ≤ k) (_ : ∀ st', Keep [] st st' → Q (.tup [.int (Arg.rows (.sub l)), .int (Arg.comp (.sub l))]) st') : Sp_l_totals k ps st Q
noncomputable def sumBy (f : Arg → Nat) : List Arg → Nat → Nat
  | [], _ => 0
  | _, 0 => 0
  | a :: r, i + 1 => f a + sumBy f r i
theorem sumBy_succ (f : Arg → Nat) : ∀ (l : List Arg) (i : Nat) (a : Arg), l[i]? = some a → sumBy f l (i + 1) = sumBy f l i + f a
  | [], _, _, e => by simp at e
  | b :: r, 0, a, e => by simp at e; subst e; simp [sumBy]; cases r <;> simp [sumBy]
  | b :: r, i + 1, a, e => by
    simp at e
    show f b + sumBy f r (i + 1) = f b + sumBy f r i + f a
    rw [sumBy_succ f r i a e]; (first | lia | omega)
theorem sumBy_zero (f : Arg → Nat) (l : List Arg) : sumBy f l 0 = 0 := by cases l <;> rfl
theorem sumBy_all_rows : ∀ l : List Arg, sumBy Arg.rows (subs l) (subs l).length = rowss l
  | [] => rfl
  | .atom k :: r => by
    have := sumBy_all_rows r
    simpa [subs, Arg.isSub, rowss, Arg.rows] using this
  | .sub x :: r => by
    have := sumBy_all_rows r
    simp [subs, Arg.isSub, rowss] at this ⊢
    show Arg.rows (.sub x) + _ = _
    rw [this]
theorem sumBy_all_comp : ∀ l : List Arg, sumBy Arg.comp (subs l) (subs l).length = comps l
  | [] => rfl
  | .atom k :: r => by
    have := sumBy_all_comp r
    simpa [subs, Arg.isSub, comps, Arg.comp] using this
  | .sub x :: r => by
    have := sumBy_all_comp r
    simp [subs, Arg.isSub, comps] at this ⊢
    show Arg.comp (.sub x) + _ = _
    rw [this]
theorem subs_mem {l : List Arg} {a : Arg} (h : a ∈ subs l) : a ∈ l ∧ ∃ x, a = .sub x := by
  unfold subs at h
  obtain ⟨h1, h2⟩ := List.mem_filter.mp h
  cases a with
  | atom k => simp [Arg.isSub] at h2
  | sub x => exact ⟨h1, x, rfl⟩
theorem subs_get {l : List Arg} {i : Nat} {p : PV} (h : (pvs (subs l))[i]? = some p) (G : Arg.Good (.sub l)) : ∃ x, (subs l)[i]? = some (.sub x) ∧ p = Arg.pv (.sub x) ∧ Arg.Good (.sub x) ∧ Arg.comp (.sub x) < Arg.comp (.sub l) := by
  rw [pvs_map, List.getElem?_map] at h
  obtain ⟨a, h1, rfl⟩ := Option.map_eq_some_iff.mp h
  obtain ⟨h2, x, rfl⟩ := subs_mem (List.mem_of_getElem? h1)
  have h3 := Goods_mem G.2.2 h2
  have h4 := comps_mem h2
  refine ⟨x, h1, rfl, h3, ?_⟩
  show Arg.comp (.sub x) < 1 + comps l
  (first | lia | omega)
inductive InvTo (l : List Arg) (s0 : St) (i : Nat) (m' : Fm) (st' : St) : Prop
  | mk (v1 v2 : Int) (p0 p3 p4 p5 : Option PV) (h1 : v1 = ((1 + l.length + sumBy Arg.rows (subs l) i : Nat) : Int)) (h2 : v2 = ((1 + sumBy Arg.comp (subs l) i : Nat) : Int)) (hm : m' = [p0, some (.int v1), some (.int v2), p3, p4, p5]) (hi : i ≤ (subs l).length) (k : Keep [] s0 st')
theorem ok_l_totals (kf : KF c.K) : ∀ k : Nat, CodeOk c (n + k + 2) (.ref 682) (Sp_l_totals k)
  | 0 => fun _ _ _ _ _ _ _ _ _ _ rm R V hs => by
    obtain ⟨l, _, _, h, _⟩ := hs
    exact absurd h (by show ¬ (1 + comps l ≤ 0); (first | lia | omega))
  | k + 1 => co_l_totals (n := n + k + 2) kf (h_l_nested := CodeOk.call (ok_l_nested (n := n + k + 1) kf)) (h_l_totals := CodeOk.call (ok_l_totals kf k)) (fun ps st Q h => by
    obtain ⟨l, rfl, G, hk, h⟩ := h
    refine ⟨rfl, ?_⟩
    unfold w_l_totals
    refine step_asg (Ev.bin Ev.const (Ev.lenT (ps := pvs l) (Ev.subT (Ev.loc rfl) Ev.const rfl)) rfl) (step_asg Ev.const ⟨l, rfl, fun a ha => .inr ⟨a, _, rfl, ls_eq, InvTo l (st.setL a (pvs (subs l))), ⟨_, _, _, _, _, _, ?_, ?_, rfl, Nat.zero_le _, .rfl' _ _⟩, fun i m' st' hI => ?_⟩⟩)
    · rw [sumBy_zero, pvs_length]; rfl
    · rw [sumBy_zero]; rfl
    obtain ⟨v1, v2, p0, p3, p4, p5, e1, e2, hm, hi, kk⟩ := hI
    subst hm
    refine ⟨kk.ls not0 ls_eq, fun x hx => ?_, fun hx => ?_⟩
    · obtain ⟨y, y1, rfl, y2, y3⟩ := subs_get hx G
      refine ⟨y, rfl, y2, by (first | lia | omega), fun st2 k2 => ⟨_, _, rfl, step_aug rfl (Ev.loc rfl) rfl (step_aug rfl (Ev.loc rfl) rfl (lp_next ⟨_, _, _, _, _, _, ?_, ?_, rfl, get_lt y1, kk.trans k2⟩))⟩⟩
      · rw [sumBy_succ _ _ _ _ y1, e1, ← Nat.add_assoc]; exact (Int.natCast_add _ _).symm
      · rw [sumBy_succ _ _ _ _ y1, e2, ← Nat.add_assoc]; exact (Int.natCast_add _ _).symm
    · obtain rfl : i = (subs l).length := Nat.le_antisymm hi (by rw [← pvs_length]; exact List.getElem?_eq_none_iff.mp hx)
      rw [sumBy_all_rows] at e1
      rw [sumBy_all_comp] at e2
      subst e1 e2
      exact step_ret (Ev.tup (EvS.cons (Ev.loc rfl) (EvS.cons (Ev.loc rfl) EvS.nil)) rfl) (st_end (h st' ((keep_setL (.inr ha)).trans kk))))
theorem maxI (i j : Nat) : (if ((i : Nat) : Int) < (j : Nat) then ((j : Nat) : Int) else (i : Nat)) = ((max i j : Nat) : Int) := by
  by_cases h : ((i : Nat) : Int) < (j : Nat)
  · rw [if_pos h]; congr 1; (first | lia | omega)
  · rw [if_neg h]; congr 1; (first | lia | omega)
/-- the loop of _law_apart, worked out -/
noncomputable def apM (ps : List Arg) : Nat → Nat
  | 0 => max 1 ps.length
  | i + 1 => max (apM ps i) (ps.length - 1 - i + (ps[i]?.map Arg.apart).getD 0)
theorem apartL_subs : ∀ l : List Arg, apartL l = apartL (subs l)
  | [] => rfl
  | .atom k :: r => by
    show apartL r = apartL (subs (.atom k :: r))
    rw [apartL_subs r]; rfl
  | .sub x :: r => by
    have e : subs (.sub x :: r) = .sub x :: subs r := rfl
    have e2 : subs (subs r) = subs r := by simp [subs]
    rw [e]
    show max ((subs r).length + _) (apartL r) = max ((subs (subs r)).length + _) (apartL (subs r))
    rw [e2, apartL_subs r]
noncomputable def supF (g : Nat → Nat) : Nat → Nat | 0 => 0 | i + 1 => max (supF g i) (g i)
theorem supF_front (g : Nat → Nat) : ∀ i, supF g (i + 1) = max (g 0) (supF (fun j => g (j + 1)) i)
  | 0 => by simp [supF]
  | i + 1 => by
    show max (supF g (i + 1)) (g (i + 1)) = max (g 0) (max (supF (fun j => g (j + 1)) i) (g (i + 1)))
    rw [supF_front g i]; exact Nat.max_assoc _ _ _
theorem supF_congr {g h : Nat → Nat} : ∀ {i}, (∀ j, j < i → g j = h j) → supF g i = supF h i
  | 0, _ => rfl
  | i + 1, k => by
    show max _ _ = max _ _
    rw [supF_congr (fun j hj => k j (by (first | lia | omega))), k i (by (first | lia | omega))]
theorem apM_sup (ps : List Arg) : ∀ i, apM ps i = max (max 1 ps.length) (supF (fun i => ps.length - 1 - i + (ps[i]?.map Arg.apart).getD 0) i)
  | 0 => by simp [apM, supF]
  | i + 1 => by
    show max _ _ = _
    rw [apM_sup ps i]
    exact Nat.max_assoc _ _ _
theorem apartL_sup : ∀ ps : List Arg, (∀ a ∈ ps, a.isSub = true) → apartL ps = supF (fun i => ps.length - 1 - i + (ps[i]?.map Arg.apart).getD 0) ps.length
  | [], _ => rfl
  | .atom k :: r, h => by have := h (.atom k) (.head _); simp [Arg.isSub] at this
  | .sub x :: r, h => by
    have hr : subs r = r := List.filter_eq_self.mpr (fun a ha => h a (.tail _ ha))
    show max ((subs r).length + _) (apartL r) = supF _ (r.length + 1)
    rw [supF_front, hr, apartL_sup r (fun a ha => h a (.tail _ ha))]
    have e1 : supF (fun j => (Arg.sub x :: r).length - 1 - (j + 1) + (((Arg.sub x :: r)[j + 1]?).map Arg.apart).getD 0) r.length = supF (fun i => r.length - 1 - i + (r[i]?.map Arg.apart).getD 0) r.length := supF_congr fun j hj => by
      simp only [List.length_cons, List.getElem?_cons_succ]
      (first | lia | omega)
    rw [e1]
    simp
theorem apM_apart (l : List Arg) : apM (subs l) (subs l).length = Arg.apart (.sub l) := by
  rw [apM_sup, ← apartL_sup (subs l) (fun a ha => (List.mem_filter.mp ha).2), ← apartL_subs]
  rfl
inductive Sp_l_apart (k : Nat) (ps : List PV) (st : St) (Q : PV → St → Prop) : Prop
  | mk (l) (_ : ps = [Arg.pv (.sub l)]) (_ : Arg.Good (.sub l)) (_ : Arg.comp (.sub l) ≤ k) (_ : ∀ st', Keep [] st st' → Q (.int (Arg.apart (.sub l))) st') : Sp_l_apart k ps st Q
theorem natList_get {n i : Nat} {p : PV} (h : (natList n)[i]? = some p) : i < n ∧ p = .int i := by
  unfold natList at h
  rw [List.getElem?_map] at h
  obtain ⟨j, h1, rfl⟩ := Option.map_eq_some_iff.mp h
  obtain ⟨h2, h3⟩ := List.getElem?_eq_some_iff.mp h1
  simp at h2 h3
  exact ⟨h2, by rw [h3]⟩
theorem natList_none {n i : Nat} (h : (natList n)[i]? = none) : n ≤ i := by
  unfold natList at h
  rw [List.getElem?_eq_none_iff] at h
  simpa using h
theorem gMax_nat (st : St) (i j : Nat) : gMax st [.int i, .int j] = some (.int ((max i j : Nat) : Int)) := congrArg (fun z => some (PV.int z)) (maxI i j)
theorem for_range {e : WE} {t : WA} {b rest : WS} {m : Fm} {st : St} {Q : Fl → Fm → St → Prop} {n : Nat} (he : Ev e m st (.int n)) (hn : n ≤ 1000000) (hw : W.loop (fun _ => True) (natList n) t b m st (sq rest Q) ⟨⟩) : W.seq (W.forR e t b) rest m st Q := he _ ⟨n, rfl, hn, hw⟩
theorem max_rec {S : Spec} {i j : Nat} {X e : WE} {rest : WS} {m : Fm} {st : St} {Q : Fl → Fm → St → Prop} {p x u' : PV} (hj : lk m j = some p) (hX : Ev X m st x) (he : Ev e m st u') (h : S [u'] st fun u st2 => orF (gAdd x u) fun v => orF (gMax st2 [p, v]) fun r => rest (m.set i (some r)) st2 Q) :
    W.seq (W.asg i (W.call (Sp.fn gMax) (W.cons (W.loc j) (W.cons (W.bin gAdd X (W.call S (W.cons e W.nil))) W.nil)))) rest m st Q := orF_of hj (hX _ (he _ h))
theorem pvs_at {l : List Arg} {i : Nat} {b : Arg} (hb : l[i]? = some b) : idx (pvs l) (i : Int) = some b.pv := idx_get (Int.natCast_nonneg i) (by rw [Int.toNat_natCast, pvs_map, List.getElem?_map, hb]; rfl)
inductive InvAp (l : List Arg) (a : Addr) (s0 : St) (i : Nat) (m' : Fm) (st' : St) : Prop
  | mk (v : Int) (p0 p3 : Option PV) (hv : v = (apM (subs l) i : Nat)) (hm : m' = [p0, some (.ref a), some (.int v), p3]) (hi : i ≤ (subs l).length) (k : Keep [] s0 st')
theorem ok_l_apart (kf : KF c.K) : ∀ k : Nat, CodeOk c (n + k + 2) (.ref 689) (Sp_l_apart k)
  | 0 => fun _ _ _ _ _ _ _ _ _ _ rm R V hs => by
    obtain ⟨l, _, _, h, _⟩ := hs
    exact absurd h (by show ¬ (1 + comps l ≤ 0); (first | lia | omega))
  | k + 1 => co_l_apart (n := n + k + 2) kf (h_l_nested := CodeOk.call (ok_l_nested (n := n + k + 1) kf)) (h_l_apart := CodeOk.call (ok_l_apart kf k)) (fun ps st Q h => by
    obtain ⟨l, rfl, G, hk, h⟩ := h
    refine ⟨rfl, ?_⟩
    unfold w_l_apart
    have hl3 : (subs l).length ≤ 3 := Nat.le_trans (List.length_filter_le _ _) G.2.1
    refine ⟨l, rfl, fun a ha => step_asg (Ev.fn (EvS.cons Ev.const (EvS.cons (Ev.len (Ev.loc rfl) ls_eq) EvS.nil)) (gMax_nat _ 1 _)) (for_range (Ev.len (Ev.loc rfl) ls_eq) (by rw [pvs_length]; (first | lia | omega)) ⟨InvAp l a (st.setL a (pvs (subs l))), ⟨_, _, _, by rw [pvs_length]; rfl, rfl, Nat.zero_le _, .rfl' _ _⟩, fun i m' st' hI => ?_⟩)⟩
    obtain ⟨v, p0, p3, hv, hm, hi, kk⟩ := hI
    subst hm
    refine ⟨trivial, fun x hx => ?_, fun hx => ?_⟩
    · rw [pvs_length] at hx
      obtain ⟨hlt, rfl⟩ := natList_get hx
      obtain ⟨b, hb⟩ : ∃ b, (subs l)[i]? = some b := ⟨_, List.getElem?_eq_getElem hlt⟩
      obtain ⟨hm2, y, rfl⟩ := subs_mem (List.mem_of_getElem? hb)
      have y3 := comps_mem hm2
      have hk' : 1 + comps l ≤ k + 1 := hk
      have ea := kk.ls not0 (show (st.setL a (pvs (subs l))).ls a = _ from ls_eq)
      subst hv
      have e9 : ((pvs (subs l)).length : Int) - 1 - i + (Arg.apart (.sub y) : Nat) = (((subs l).length - 1 - i + Arg.apart (.sub y) : Nat) : Int) := by rw [pvs_length]; (first | lia | omega)
      have e10 : gAdd (.int (((pvs (subs l)).length : Int) - 1 - i)) (.int (Arg.apart (.sub y) : Nat)) = some (.int (((subs l).length - 1 - i + Arg.apart (.sub y) : Nat) : Int)) := congrArg (fun z => some (PV.int z)) e9
      refine max_rec rfl (Ev.bin (Ev.bin (Ev.len (Ev.loc rfl) ea) Ev.const rfl) (Ev.loc rfl) rfl) (Ev.subL (Ev.loc rfl) (Ev.loc rfl) ea (pvs_at hb)) ⟨y, rfl, Goods_mem G.2.2 hm2, by (first | lia | omega), fun st2 k2 => orF_of (a := .int (((subs l).length - 1 - i + Arg.apart (.sub y) : Nat) : Int)) e10 (orF_of (gMax_nat _ _ _) (lp_next ⟨_, _, _, ?_, rfl, hlt, kk.trans k2⟩))⟩
      show _ = ((max (apM (subs l) i) ((subs l).length - 1 - i + (((subs l)[i]?).map Arg.apart).getD 0) : Nat) : Int)
      rw [hb]; rfl
    · obtain rfl : i = (subs l).length := Nat.le_antisymm hi (by have := natList_none hx; rw [pvs_length] at this; exact this)
      rw [apM_apart] at hv
      subst hv
      exact step_ret (Ev.loc rfl) (st_end (h st' ((keep_setL (.inr ha)).trans kk))))
end
end Mine
namespace Mine
noncomputable def lastS (l : List Arg) : List Arg := match l.getLast? with | some (.sub x) => [.sub x] | _ => []
noncomputable def ordP (l : List Arg) : List Arg := lastS l ++ subs l.dropLast
noncomputable def togL (k : Nat) : List Arg → Nat | [] => 0 | a :: r => max (k + a.tog) (togL (k + 1) r)
theorem togD_eq : ∀ (l : List Arg) (k : Nat), togD k l = togL k (subs l.dropLast)
  | [], _ => rfl
  | [_], _ => rfl
  | .atom a :: y :: r, k => by
    show togD k (y :: r) = togL k (subs (.atom a :: (y :: r).dropLast))
    rw [togD_eq (y :: r) k]; rfl
  | .sub a :: y :: r, k => by
    show max (k + _) (togD (k + 1) (y :: r)) = togL k (subs (.sub a :: (y :: r).dropLast))
    rw [togD_eq (y :: r) (k + 1)]; rfl
theorem togLast_eq : ∀ l : List Arg, togLast l = togL 0 (lastS l)
  | [] => rfl
  | [.atom a] => rfl
  | [.sub a] => by
    show Arg.tog (.sub a) = max (0 + Arg.tog (.sub a)) 0
    (first | lia | omega)
  | _ :: y :: r => by
    show togLast (y :: r) = _
    rw [togLast_eq (y :: r)]
    unfold lastS
    rw [List.getLast?_cons_cons]
theorem togL_append : ∀ (a b : List Arg) (k : Nat), togL k (a ++ b) = max (togL k a) (togL (k + a.length) b)
  | [], b, k => by simp [togL]
  | x :: a, b, k => by
    show max (k + x.tog) (togL (k + 1) (a ++ b)) = max (max (k + x.tog) (togL (k + 1) a)) _
    rw [togL_append a b (k + 1)]
    rw [show k + 1 + a.length = k + (x :: a).length by simp; (first | lia | omega)]
    exact (Nat.max_assoc _ _ _).symm
theorem ordP_length (l : List Arg) : (ordP l).length = (subs l).length := by
  unfold ordP lastS
  cases h : l.getLast? with
  | none => rw [List.getLast?_eq_none_iff] at h; subst h; rfl
  | some x =>
    have e : l = l.dropLast ++ [x] := by
      rw [List.getLast?_eq_some_iff] at h
      obtain ⟨ys, rfl⟩ := h
      simp
    have e2 : subs l = subs l.dropLast ++ subs [x] := by
      conv => lhs; rw [e]
      unfold subs; rw [List.filter_append]
    rw [e2]
    cases x with
    | atom k => simp [subs, Arg.isSub]
    | sub x =>
      have e3 : subs [.sub x] = [.sub x] := rfl
      rw [e3]; simp
theorem tog_eq (l : List Arg) : Arg.tog (.sub l) = max ((ordP l).length + 1) (togL 0 (ordP l)) := by
  rw [ordP_length]
  unfold ordP
  rw [togL_append, ← togLast_eq]
  show max _ (max (togLast l) (togD _ l)) = _
  rw [togD_eq]
  congr 3
  unfold lastS
  cases l.getLast? with
  | none => rfl
  | some x => cases x <;> rfl
noncomputable def togM (ps : List Arg) : Nat → Nat
  | 0 => ps.length + 1
  | i + 1 => max (togM ps i) (i + (ps[i]?.map Arg.tog).getD 0)
theorem togM_sup (ps : List Arg) : ∀ i, togM ps i = max (ps.length + 1) (supF (fun i => i + (ps[i]?.map Arg.tog).getD 0) i)
  | 0 => by simp [togM, supF]
  | i + 1 => by
    show max _ _ = _
    rw [togM_sup ps i]
    exact Nat.max_assoc _ _ _
theorem togL_sup : ∀ (ps : List Arg) (k : Nat), togL k ps = supF (fun i => k + i + (ps[i]?.map Arg.tog).getD 0) ps.length
  | [], _ => rfl
  | a :: r, k => by
    show max (k + _) (togL (k + 1) r) = supF _ (r.length + 1)
    rw [supF_front, togL_sup r (k + 1)]
    have e1 : supF (fun i => k + 1 + i + (r[i]?.map Arg.tog).getD 0) r.length = supF (fun j => k + (j + 1) + (((a :: r)[j + 1]?).map Arg.tog).getD 0) r.length := supF_congr fun j hj => by
      simp only [List.getElem?_cons_succ]
      (first | lia | omega)
    rw [e1]
    simp
theorem togM_tog (l : List Arg) : togM (ordP l) (ordP l).length = Arg.tog (.sub l) := by
  rw [togM_sup, tog_eq, togL_sup]
  congr 2
  funext i
  (first | lia | omega)
theorem ordP_mem {l : List Arg} {a : Arg} (h : a ∈ ordP l) : a ∈ subs l := by
  unfold ordP at h
  rcases List.mem_append.mp h with h | h
  · unfold lastS at h
    split at h
    · rename_i x e
      rw [List.mem_singleton.mp h]
      exact List.mem_filter.mpr ⟨List.mem_of_getLast? e, rfl⟩
    · cases h
  · unfold subs at h ⊢
    obtain ⟨h1, h2⟩ := List.mem_filter.mp h
    exact List.mem_filter.mpr ⟨List.dropLast_subset l h1, h2⟩
theorem ord_sub {l : List Arg} {x : List Arg} (h : l.getLast? = some (.sub x)) : pvs (ordP l) = (pvs (subs l)).drop ((subs l).length - 1) ++ (pvs (subs l)).take ((subs l).length - 1) := by
  obtain ⟨ys, rfl⟩ := List.getLast?_eq_some_iff.mp h
  have e2 : subs (ys ++ [.sub x]) = subs ys ++ [.sub x] := by unfold subs; rw [List.filter_append]; rfl
  unfold ordP lastS
  rw [h, List.dropLast_concat, e2, pvs_map, pvs_map]
  simp
theorem ord_atom {l : List Arg} {k : Int} (h : l.getLast? = some (.atom k)) : ordP l = subs l := by
  obtain ⟨ys, rfl⟩ := List.getLast?_eq_some_iff.mp h
  unfold ordP lastS
  rw [h, List.dropLast_concat]
  unfold subs
  rw [List.filter_append]
  simp [Arg.isSub]
section
variable {c : Cx} {n : Nat}
inductive Sp_l_together (k : Nat) (ps : List PV) (st : St) (Q : PV → St → Prop) : Prop
  | mk (l) (_ : ps = [Arg.pv (.sub l)]) (_ : Arg.Good (.sub l)) (_ : Arg.comp (.sub l) ≤ k) (_ : ∀ st', Keep [] st st' → Q (.int (Arg.tog (.sub l))) st') : Sp_l_together k ps st Q
theorem last_pv {l : List Arg} (h : 1 ≤ l.length) : ∃ a, l.getLast? = some a ∧ (pvs l)[l.length - 1]? = some a.pv := by
  cases e : l.getLast? with
  | none => rw [List.getLast?_eq_none_iff] at e; subst e; simp at h
  | some a =>
    refine ⟨a, rfl, ?_⟩
    rw [pvs_map, List.getElem?_map]
    rw [List.getLast?_eq_getElem?] at e
    rw [e]; rfl
inductive InvTg (l : List Arg) (a : Addr) (s0 : St) (i : Nat) (m' : Fm) (st' : St) : Prop
  | mk (v : Int) (p0 p3 : Option PV) (hv : v = (togM (ordP l) i : Nat)) (hm : m' = [p0, some (.ref a), some (.int v), p3]) (hi : i ≤ (ordP l).length) (k : Keep [] s0 st')
/-- the loop, from a list of the parts as they are ordered -/
theorem tog_loop {k : Nat} {l : List Arg} {a : Addr} {st1 : St} {p0 p3 : Option PV} {v : Int} {nn : Nat} {Q : Fl → Fm → St → Prop} (G : Arg.Good (.sub l)) (hk : 1 + comps l ≤ k + 1) (hn : nn = (ordP l).length) (ha : st1.ls a = some (pvs (ordP l))) (hv : v = ((ordP l).length + 1 : Nat))
    (hQ : ∀ p0 p3 st', Keep [] st1 st' → Q .next [p0, some (.ref a), some (.int (Arg.tog (.sub l) : Nat)), p3] st') :
    W.loop (fun x => True) (natList nn) (W.tName 3) (W.seq (W.asg 2 (W.call (Sp.fn gMax) (W.cons (W.loc 2) (W.cons (W.bin gAdd (W.loc 3) (W.call (Sp_l_together k) (W.cons (W.subL (W.loc 1) (W.loc 3)) W.nil))) W.nil)))) W.skip) [p0, some (.ref a), some (.int v), p3] st1 Q ⟨⟩ := by
  subst hn
  refine ⟨InvTg l a st1, ⟨_, _, _, hv, rfl, Nat.zero_le _, .rfl' _ _⟩, fun i m' st' hI => ?_⟩
  obtain ⟨v, p0, p3, hv, hm, hi, kk⟩ := hI
  subst hm hv
  refine ⟨trivial, fun x hx => ?_, fun hx => ?_⟩
  · obtain ⟨hlt, rfl⟩ := natList_get hx
    obtain ⟨b, hb⟩ : ∃ b, (ordP l)[i]? = some b := ⟨_, List.getElem?_eq_getElem hlt⟩
    obtain ⟨hm2, y, rfl⟩ := subs_mem (ordP_mem (List.mem_of_getElem? hb))
    have y3 := comps_mem hm2
    refine max_rec rfl (Ev.loc rfl) (Ev.subL (Ev.loc rfl) (Ev.loc rfl) (kk.ls not0 ha) (pvs_at hb)) ⟨y, rfl, Goods_mem G.2.2 hm2, by (first | lia | omega), fun st2 k2 => orF_of (a := .int ((i + Arg.tog (.sub y) : Nat) : Int)) rfl (orF_of (gMax_nat _ _ _) (lp_next ⟨_, _, _, ?_, rfl, hlt, kk.trans k2⟩))⟩
    show _ = ((max (togM (ordP l) i) (i + (((ordP l)[i]?).map Arg.tog).getD 0) : Nat) : Int)
    rw [hb]; rfl
  · obtain rfl : i = (ordP l).length := Nat.le_antisymm hi (natList_none hx)
    rw [togM_tog]
    exact hQ _ _ st' kk
theorem rot {rest : WS} {m : Fm} {st : St} {Q : Fl → Fm → St → Prop} {a : Addr} {ps : List PV} (hi : lk m 1 = some (.ref a)) (ha : st.ls a = some ps) (hp : 1 ≤ ps.length) (hl : ps.length ≤ 1000) (h : ∀ st2 d, Keep [] st st2 → st2.ls d = some (ps.drop (ps.length - 1) ++ ps.take (ps.length - 1)) → rest (m.set 1 (some (.ref d))) st2 Q) :
    W.seq (W.asg 1 (W.addL (W.listDrop (W.loc 1) (W.bin gSub (W.call (Sp.fn gLen) (W.cons (W.loc 1) W.nil)) (W.const (.int 1)))) (W.listTake (W.loc 1) (W.bin gSub (W.call (Sp.fn gLen) (W.cons (W.loc 1) W.nil)) (W.const (.int 1)))))) rest m st Q := by
  have e : ((ps.length : Int) - 1).toNat = ps.length - 1 := by (first | lia | omega)
  have e0 : (0 : Int) ≤ (ps.length : Int) - 1 := by (first | lia | omega)
  have drop : ∀ R : PV → St → Prop, (∀ b, st.free b → R (.ref b) (st.setL b (ps.drop (ps.length - 1)))) → W.listDrop (W.loc 1) (W.bin gSub (W.call (Sp.fn gLen) (W.cons (W.loc 1) W.nil)) (W.const (.int 1))) m st R := fun R hR => Ev.loc hi _ (Ev.bin (Ev.len (Ev.loc hi) ha) Ev.const rfl _ ⟨a, ps, _, rfl, rfl, e0, ha, by rw [e]; exact hR⟩)
  have take : ∀ (s : St) (R : PV → St → Prop), s.ls a = some ps → (∀ b, s.free b → R (.ref b) (s.setL b (ps.take (ps.length - 1)))) → W.listTake (W.loc 1) (W.bin gSub (W.call (Sp.fn gLen) (W.cons (W.loc 1) W.nil)) (W.const (.int 1))) m s R := fun s R ha hR => Ev.loc hi _ (Ev.bin (Ev.len (Ev.loc hi) ha) Ev.const rfl _ ⟨a, ps, _, rfl, rfl, e0, ha, by rw [e]; exact hR⟩)
  dsimp only [W.seq, W.asg, W.addL]
  refine drop _ (fun b hb => ?_)
  refine take _ _ (ls_ne (free_ne_ls hb ha) ha) (fun b1 hb1 => ?_)
  refine ⟨b, b1, _, _, rfl, rfl, ls_ne (free_ne_ls hb1 ls_eq) ls_eq, ls_eq, ?_, fun d hd => h _ d (((keep_setL (.inr hb)).trans (keep_setL (.inr hb1))).trans (keep_setL (.inr hd))) ls_eq⟩
  rw [List.length_drop, List.length_take]; (first | lia | omega)
theorem ok_l_together (kf : KF c.K) : ∀ k : Nat, CodeOk c (n + k + 2) (.ref 696) (Sp_l_together k)
  | 0 => fun _ _ _ _ _ _ _ _ _ _ rm R V hs => by
    obtain ⟨l, _, _, h, _⟩ := hs
    exact absurd h (by show ¬ (1 + comps l ≤ 0); (first | lia | omega))
  | k + 1 => co_l_together (n := n + k + 2) kf (h_l_nested := CodeOk.call (ok_l_nested (n := n + k + 1) kf)) (h_l_together := CodeOk.call (ok_l_together kf k)) (fun ps st Q h => by
    obtain ⟨l, rfl, G, hk, h⟩ := h
    refine ⟨rfl, ?_⟩
    obtain ⟨z, hz, hz2⟩ := last_pv G.1
    have hl3 : (subs l).length ≤ 3 := Nat.le_trans (List.length_filter_le _ _) G.2.1
    have hlast : idx (pvs l) (((pvs l).length : Int) - 1) = some z.pv := by
      have hl1 := G.1
      rw [pvs_length]
      exact idx_get (by (first | lia | omega)) (by rw [show ((l.length : Int) - 1).toNat = l.length - 1 by (first | lia | omega)]; exact hz2)
    have hO := ordP_length l
    unfold w_l_together
    refine ⟨l, rfl, fun a ha => ?_⟩
    have k1 : Keep [] st (st.setL a (pvs (subs l))) := keep_setL (.inr ha)
    have ev : Ev (W.subT (W.subT (W.loc 0) (W.const (.int 2))) (W.bin gSub (W.call (Sp.fn gLen) (W.cons (W.subT (W.loc 0) (W.const (.int 2))) W.nil)) (W.const (.int 1)))) [some (Arg.pv (.sub l)), some (.ref a), none, none] (st.setL a (pvs (subs l))) z.pv :=
      Ev.subT (ps := pvs l) (Ev.subT (Ev.loc rfl) Ev.const rfl) (Ev.bin (Ev.lenT (ps := pvs l) (Ev.subT (Ev.loc rfl) Ev.const rfl)) Ev.const rfl) hlast
    have go : ∀ d st2, Keep [] st st2 → st2.ls d = some (pvs (ordP l)) → W.seq (W.asg 2 (W.bin gAdd (W.call (Sp.fn gLen) (W.cons (W.loc 1) W.nil)) (W.const (.int 1)))) (W.seq (W.forR (W.call (Sp.fn gLen) (W.cons (W.loc 1) W.nil)) (W.tName 3) (W.seq (W.asg 2 (W.call (Sp.fn gMax) (W.cons (W.loc 2) (W.cons (W.bin gAdd (W.loc 3) (W.call (Sp_l_together k) (W.cons (W.subL (W.loc 1) (W.loc 3)) W.nil))) W.nil)))) W.skip)) (W.seq (W.ret (W.loc 2)) W.skip))
        [some (Arg.pv (.sub l)), some (.ref d), none, none] st2 (fun fl _ st' => ∃ st'', Le st'' st' ∧ Q (retOf fl) st'') := fun d st2 k2 d2 =>
      step_asg (Ev.bin (Ev.len (Ev.loc rfl) d2) Ev.const rfl) (for_range (Ev.len (Ev.loc rfl) d2) (by rw [pvs_length]; (first | lia | omega)) (tog_loop G hk (pvs_length _) d2 (by rw [pvs_length]; rfl) fun p0 p3 st' kk => step_ret (Ev.loc rfl) (st_end (h st' (k2.trans kk)))))
    cases z with
    | atom j => exact step_f (EvT.cmp (Ev.subT ev Ev.const rfl) Ev.const (congrArg some (by decide +kernel))) (skip_sq (go a _ k1 (ls_eq.trans (by rw [ord_atom hz]))))
    | sub x =>
      have hpos : 1 ≤ (subs l).length := List.length_pos_of_mem (List.mem_filter.mpr ⟨List.mem_of_getLast? hz, rfl⟩ : Arg.sub x ∈ subs l)
      exact step_t (EvT.cmp (Ev.subT ev Ev.const rfl) Ev.const (gEq_str _)) (rot rfl ls_eq (by rw [pvs_length]; exact hpos) (by rw [pvs_length]; (first | lia | omega)) fun st2 d k2 d2 => skip_sq (go d st2 (k1.trans k2) (d2.trans (by rw [pvs_length, ord_sub hz])))))
end
end Mine
namespace Mine
noncomputable def intL (l : List Int) : List PV := l.map .int
structure TapeA (st : St) (t a : Addr) (l : List Int) (spot used : Int) : Prop where
  ht : st.ls t = some [.ref a, .int spot, .int used]
  ha : st.ls a = some (intL l)
  hne : t ≠ a
  hp : 0 ≤ spot
inductive Tape (st : St) (t a : Addr) : Prop
  | mk (l : List Int) (spot used : Int) (H : TapeA st t a l spot used)
section
variable {c : Cx} {n : Nat}
inductive Sp_l_digit (ps : List PV) (st : St) (Q : PV → St → Prop) : Prop
  | mk (t a : Addr) (lim : Int) (_ : ps = [.ref t, .int lim]) (_ : 1 < lim) (_ : lim < 100) (_ : Tape st t a) (_ : ∀ st' r, 0 ≤ r → r < lim → Keep [t, a] st st' → Tape st' t a → Q (.int r) st')
theorem ok_l_digit (kf : KF c.K) : CodeOk c (n + 1) (.ref 663) Sp_l_digit := co_l_digit kf (fun ps st Q h => by
  obtain ⟨t, a, lim, rfl, h1, h2, ⟨l, spot, used, ht, ha, hne, hp⟩, h⟩ := h
  refine ⟨rfl, ?_⟩
  unfold w_l_digit
  refine step_ite (EvT.cmp (Ev.subL (Ev.loc rfl) Ev.const ht rfl) (Ev.len (Ev.subL (Ev.loc rfl) Ev.const ht rfl) ha) rfl) (fun _ => step_ret Ev.const (st_end (h st 0 (Int.le_refl _) (by (first | lia | omega)) (.rfl' _ _) ⟨l, spot, used, ht, ha, hne, hp⟩))) (fun hlt => skip_sq ?_)
  have hlt : spot < ((intL l).length : Int) := Int.not_le.mp (of_decide_eq_false hlt)
  have e1 : (0 : Int) < lim := by (first | lia | omega)
  obtain ⟨v, hv⟩ : ∃ v, (intL l)[spot.toNat]? = some (.int v) := by
    unfold intL at hlt ⊢
    rw [List.length_map] at hlt
    rw [List.getElem?_map, List.getElem?_eq_getElem (by (first | lia | omega) : spot.toNat < l.length)]
    exact ⟨_, rfl⟩
  have kt : ∀ {s : St} {x : List PV}, Keep [t, a] s (s.setL t x) := keep_setL (.inl (.head _))
  refine step_asg (Ev.subL (Ev.subL (Ev.loc rfl) Ev.const ht rfl) (Ev.subL (Ev.loc rfl) Ev.const ht rfl) ha (idx_get hp hv)) ?_
  refine step_asg (Ev.bin (Ev.loc rfl) (Ev.loc rfl) (if_pos ⟨e1, h2⟩)) (step_asg (Ev.bin (Ev.loc rfl) (Ev.loc rfl) (if_pos ⟨e1, h2⟩)) ?_)
  refine step_augL (Ev.loc rfl) Ev.const ht rfl Ev.const rfl (by decide) (by show (2 : Int) < 3; decide) ?_
  have hm0 := Int.emod_nonneg v (Int.ne_of_gt e1)
  have hm1 := Int.emod_lt_of_pos v e1
  refine step_ite (EvT.or (EvT.cmp (Ev.loc rfl) Ev.const rfl) (EvT.or (EvT.cmp (Ev.loc rfl) (Ev.neg Ev.const) rfl) (EvT.or (EvT.cmp (Ev.subL (Ev.loc rfl) Ev.const ls_eq rfl) Ev.const rfl) EvT.tt))) (fun _ => ?_) (fun _ => ?_)
  · refine step_augL (Ev.loc rfl) Ev.const ls_eq rfl Ev.const rfl (by decide) (by show (1 : Int) < 3; decide) (step_putL Ev.const (Ev.loc rfl) Ev.const ls_eq (by decide) (by show (2 : Int) < 3; decide) (skip_sq (step_ret (Ev.loc rfl) (st_end (h _ _ hm0 hm1 ((kt.trans kt).trans kt) ⟨l, spot + 1, 0, ls_eq, ls_ne (Ne.symm hne) (ls_ne (Ne.symm hne) (ls_ne (Ne.symm hne) ha)), hne, Int.le_add_one hp⟩)))))
  · refine step_putL (Ev.loc rfl) (Ev.subL (Ev.loc rfl) Ev.const ls_eq rfl) (Ev.subL (Ev.loc rfl) Ev.const ls_eq rfl) (ls_ne (Ne.symm hne) ha) hp hlt (skip_sq (step_ret (Ev.loc rfl) (st_end (h _ _ hm0 hm1 (kt.trans (keep_setL (.inl (.tail _ (.head _))))) ⟨l.set spot.toNat (v / lim), spot, used + 1, ls_ne hne ls_eq, ls_eq.trans (by unfold intL; rw [List.map_set]), hne, hp⟩)))))
inductive Sp_l_tree (k : Nat) (ps : List PV) (st : St) (Q : PV → St → Prop) : Prop
  | mk (t a lf : Addr) (j : Nat) (_ : ps = [.ref t, .ref lf]) (_ : Tape st t a) (_ : st.ls lf = some [.int j]) (_ : j ≤ k) (_ : lf ≠ t) (_ : lf ≠ a) (_ : ∀ st' l (j' : Nat), Arg.Good (.sub l) → Arg.comp (.sub l) + j' ≤ 1 + j → Keep [t, a, lf] st st' → Tape st' t a → st'.ls lf = some [.int j'] → Q (Arg.pv (.sub l)) st') : Sp_l_tree k ps st Q
theorem Tape.keep {st st' : St} {t a : Addr} {X : List Addr} (h : Tape st t a) (k : Keep X st st') (ht : t ∉ X) (ha : a ∉ X) : Tape st' t a := by
  obtain ⟨l, spot, used, H⟩ := h
  exact ⟨l, spot, used, k.ls ht H.ht, k.ls ha H.ha, H.hne, H.hp⟩
theorem Goods_snoc : ∀ {l : List Arg} {x : Arg}, Goods l → x.Good → Goods (l ++ [x])
  | [], _, _, h => ⟨h, trivial⟩
  | _ :: r, _, h, hx => ⟨h.1, Goods_snoc h.2 hx⟩
theorem comps_snoc : ∀ (l : List Arg) (x : Arg), comps (l ++ [x]) = comps l + x.comp
  | [], x => by simp [comps]
  | a :: r, x => by show a.comp + comps (r ++ [x]) = a.comp + comps r + x.comp; rw [comps_snoc r x]; (first | lia | omega)
theorem pvs_snoc (l : List Arg) (x : Arg) : pvs (l ++ [x]) = pvs l ++ [x.pv] := by rw [pvs_map, pvs_map]; simp
theorem sub2 {t a lf P x : Addr} (h : x ∈ [t, a]) : x ∈ [t, a, lf, P] := by
  cases h with
  | head => exact .head _
  | tail _ h => cases h with
    | head => exact .tail _ (.head _)
    | tail _ h => cases h
theorem sub3 {t a lf P x : Addr} (h : x ∈ [t, a, lf]) : x ∈ [t, a, lf, P] := by
  cases h with
  | head => exact .head _
  | tail _ h => cases h with
    | head => exact .tail _ (.head _)
    | tail _ h => cases h with
      | head => exact .tail _ (.tail _ (.head _))
      | tail _ h => cases h
inductive InvT (t a lf P : Addr) (j nn : Nat) (s0 : St) (i : Nat) (m' : Fm) (st' : St) : Prop
  | mk (p3 p4 : Option PV) (args : List Arg) (j' : Nat) (hm : m' = [some (.ref t), some (.ref lf), some (.ref P), p3, p4]) (hi : i ≤ nn) (ha1 : args.length = i) (ha2 : Goods args) (ha3 : comps args + j' ≤ j) (ha4 : Keep [t, a, lf, P] s0 st') (ha5 : Tape st' t a) (ha6 : st'.ls lf = some [.int j']) (ha7 : st'.ls P = some (pvs args))
theorem InvT.snoc {t a lf P : Addr} {j nn j2 i : Nat} {s0 st3 : St} {p3 p4 : Option PV} {args : List Arg} {x : Arg} (hi : i < nn) (ha1 : args.length = i) (ha2 : Goods args) (G : x.Good) (hc : comps args + x.comp + j2 ≤ j) (k : Keep [t, a, lf, P] s0 st3) (T3 : Tape st3 t a) (l3 : st3.ls lf = some [.int j2]) (hPt : t ≠ P) (hPa : a ≠ P) (hPl : lf ≠ P) :
    InvT t a lf P j nn s0 (i + 1) [some (.ref t), some (.ref lf), some (.ref P), p3, p4] (st3.setL P (pvs args ++ [x.pv])) :=
  ⟨_, _, args ++ [x], j2, rfl, hi, by rw [List.length_append, ha1]; rfl, Goods_snoc ha2 G, by rw [comps_snoc]; exact hc, k.trans (keep_setL (.inl (.tail _ (.tail _ (.tail _ (.head _)))))), T3.keep (X := [P]) (keep_setL (.inl (.head _))) (not1 hPt) (not1 hPa), ls_ne hPl l3, by rw [pvs_snoc]; exact ls_eq⟩
theorem tree_atom {t a lf P : Addr} {j nn j' i : Nat} {s0 st2 : St} {p3 p4 : Option PV} {args : List Arg} {Q : Fl → Fm → St → Prop} (hPt : t ≠ P) (hPa : a ≠ P) (hPl : lf ≠ P) (n1 : lf ≠ t) (n2 : lf ≠ a) (p2 : st2.ls P = some (pvs args)) (hlen : (pvs args).length < 1000000) (T2 : Tape st2 t a) (k : Keep [t, a, lf, P] s0 st2) (l2 : st2.ls lf = some [.int j'])
    (hi : i < nn) (ha1 : args.length = i) (ha2 : Goods args) (ha3 : comps args + j' ≤ j) : W.seq (W.expr (W.methB isL Sp.append (W.loc 2) (W.cons (W.tup (W.cons (W.const (.str "a")) (W.cons (W.call Sp_l_digit (W.cons (W.loc 0) (W.cons (W.const (.int 4)) W.nil))) W.nil))) W.nil))) W.skip [some (.ref t), some (.ref lf), some (.ref P), p3, p4] st2 (sq W.skip (LoopPost Q (InvT t a lf P j nn s0 (i + 1)))) := by
  refine app_stepE rfl p2 ⟨t, a, 4, rfl, by decide, by decide, T2, fun st3 q q0 q1 k3 T3 => app_post (k3.ls (notC (Ne.symm hPt) (not1 (Ne.symm hPa))) p2) hlen (lp_next (InvT.snoc (x := .atom q) (j2 := j') hi ha1 ha2 trivial ha3 (k.trans (k3.mono fun x hx => sub2 hx)) T3 (k3.ls (notC n1 (not1 n2)) l2) hPt hPa hPl))⟩
theorem InvT.last {t a lf P : Addr} {j j' : Nat} {s st' : St} {p3 p4 : Option PV} {args : List Arg} {Q : PV → St → Prop} (hP : s.free P) (h : ∀ st' l (j' : Nat), Arg.Good (.sub l) → Arg.comp (.sub l) + j' ≤ 1 + j → Keep [t, a, lf] s st' → Tape st' t a → st'.ls lf = some [.int j'] → Q (Arg.pv (.sub l)) st')
    (h1 : 1 ≤ args.length) (h3 : args.length ≤ 3) (ha2 : Goods args) (ha3 : comps args + j' ≤ j) (ha4 : Keep [t, a, lf, P] (s.setL P []) st') (ha5 : Tape st' t a) (ha6 : st'.ls lf = some [.int j']) (ha7 : st'.ls P = some (pvs args)) :
    W.seq (W.ret (W.tup (W.cons (W.const (.str "s")) (W.cons (W.subL (W.list (W.cons (W.const (.int 12)) (W.cons (W.const (.int 0)) (W.cons (W.const (.int 26)) W.nil)))) (W.bin gSub (W.call (Sp.fn gLen) (W.cons (W.loc 2) W.nil)) (W.const (.int 1)))) (W.cons (W.call Sp.tupOf (W.cons (W.loc 2) W.nil)) W.nil)))))
      W.skip [some (.ref t), some (.ref lf), some (.ref P), p3, p4] st' (fun fl _ st' => ∃ st'', Le st'' st' ∧ Q (retOf fl) st'') := by
  intro d hd
  have p' : (st'.setL d [PV.int 12, PV.int 0, PV.int 26]).ls P = some (pvs args) := ls_ne (free_ne_ls hd ha7) ha7
  have e3 : idx [PV.int 12, PV.int 0, PV.int 26] ((pvs args).length - 1) = some (.int (fnum args.length)) := by
    rw [pvs_length]
    generalize args.length = k at h1 h3
    match k, h1, h3 with
    | 1, _, _ => rfl
    | 2, _, _ => rfl
    | 3, _, _ => rfl
  have e4 : getL (st'.setL d [PV.int 12, PV.int 0, PV.int 26]) (.ref d) (.int ((pvs args).length - 1)) = some (.int (fnum args.length)) := by unfold getL; dsimp only; rw [ls_eq]; exact e3
  refine Ev.bin (Ev.len (Ev.loc rfl) p') Ev.const rfl _ ?_
  refine orF_of e4 ⟨P, _, rfl, p', ?_⟩
  refine st_end (h _ args j' ⟨h1, h3, ha2⟩ (by show 1 + comps args + j' ≤ 1 + j; (first | lia | omega)) (fun b mo hb q => ?_) (ha5.keep (X := []) (keep_setL (.inr hd)) not0 not0) (ls_ne (free_ne_ls hd ha6) ha6))
  · exact keep_setL (X := []) (.inr hd) b mo not0 (ha4 b mo (notC (fun e => hb (e ▸ .head _)) (notC (fun e => hb (e ▸ .tail _ (.head _))) (notC (fun e => hb (e ▸ .tail _ (.tail _ (.head _)))) (not1 fun e => hP mo (e ▸ q))))) (keep_setL (X := []) (.inr hP) b mo not0 q))
theorem ok_l_tree (kf : KF c.K) : ∀ k : Nat, CodeOk c (n + k + 2) (.ref 670) (Sp_l_tree k) := fun k => by
  induction k using Nat.strongRecOn with
  | _ k ih =>
  have hrec : ∀ j : Nat, j < k → CallOk c (n + k + 1) (.ref 670) (Sp_l_tree j) := fun j hj => by
    have : CallOk c (n + j + 2) (.ref 670) (Sp_l_tree j) := CodeOk.call (ih j hj)
    intro P L names A s m st Q ps vs rm R V hs
    exact this (rm.le (by (first | lia | omega))) R V hs
  have hall : CallOk c (n + k + 1) (.ref 670) (fun ps st Q => ∃ j, j < k ∧ Sp_l_tree j ps st Q) := fun _ _ _ _ _ _ _ _ _ _ rm R V hs => by
    obtain ⟨j, hj, h⟩ := hs
    exact hrec j hj rm R V h
  exact co_l_tree (n := n + k + 1) kf (h_l_digit := CodeOk.call (ok_l_digit (n := n + k) kf)) (h_l_tree := hall) (fun ps st Q h => by
    obtain ⟨t, a, lf, j, rfl, hT, hlf, hjk, n1, n2, h⟩ := h
    refine ⟨rfl, ?_⟩
    unfold w_l_tree
    intro P hP
    have hPt : t ≠ P := by obtain ⟨l, sp, us, H⟩ := hT; exact free_ne_ls hP H.ht
    have hPa : a ≠ P := by obtain ⟨l, sp, us, H⟩ := hT; exact free_ne_ls hP H.ha
    have hPl : lf ≠ P := free_ne_ls hP hlf
    refine ⟨t, a, 3, rfl, by decide, by decide, hT.keep (keep_setL (X := []) (.inr hP)) not0 not0, fun st1 r hr0 hr3 k1 T1 => ⟨(1 + r).toNat, congrArg PV.int (Int.toNat_of_nonneg (by (first | lia | omega))).symm, by (first | lia | omega), InvT t a lf P j (1 + r).toNat (st.setL P []), ?_, fun i m' st' hI => ?_⟩⟩
    · exact ⟨_, _, [], j, rfl, Nat.zero_le _, rfl, trivial, by rw [show comps [] = 0 from rfl]; (first | lia | omega), k1.mono (fun x hx => sub2 hx), T1, k1.ls (notC n1 (not1 n2)) (ls_ne hPl hlf), k1.ls (notC (Ne.symm hPt) (not1 (Ne.symm hPa))) ls_eq⟩
    obtain ⟨p3, p4, args, j', hm, hi, ha1, ha2, ha3, ha4, ha5, ha6, ha7⟩ := hI
    subst hm
    refine ⟨trivial, fun x hx => ?_, fun hx => ?_⟩
    · obtain ⟨hlt, rfl⟩ := natList_get hx
      have hlen : (pvs args).length < 1000000 := by rw [pvs_length]; (first | lia | omega)
      refine ⟨t, a, 2, rfl, by decide, by decide, ha5, fun st2 d hd0 hd2 k2 T2 => ?_⟩
      have l2 := k2.ls (notC n1 (not1 n2)) ha6
      have p2 := k2.ls (notC (Ne.symm hPt) (not1 (Ne.symm hPa))) ha7
      have k12 := ha4.trans (k2.mono fun x hx => sub2 hx)
      refine br_intro (fun hd => ?_) (fun hd => ?_)
      · refine EvT.and (EvT.cmp (Ev.subL (Ev.loc rfl) Ev.const l2 rfl) Ev.const rfl) EvT.tt _ (br_intro (fun hj => ?_) (fun hj => ?_))
        · have hj : 0 < j' := Int.natCast_pos.mp (of_decide_eq_true (by simpa using hj))
          refine step_augL (r := .int ((j' - 1 : Nat) : Int)) (Ev.loc rfl) Ev.const l2 rfl Ev.const (congrArg (fun z => some (PV.int z)) (by (first | lia | omega))) (by decide) (by show (0 : Int) < 1; decide) ?_
          refine ⟨j' - 1, by (first | lia | omega), t, a, lf, j' - 1, rfl, T2.keep (X := [lf]) (keep_setL (.inl (.head _))) (not1 (Ne.symm n1)) (not1 (Ne.symm n2)), ls_eq, Nat.le_refl _, n1, n2, fun st3 l j2 G hc k3 T3 l3 => ?_⟩
          have p3 := k3.ls (notC (Ne.symm hPt) (notC (Ne.symm hPa) (not1 (Ne.symm hPl)))) (ls_ne (Ne.symm hPl) p2)
          exact app_step rfl p3 (Ev.loc rfl) hlen (lp_next (InvT.snoc hlt ha1 ha2 G (by (first | lia | omega)) ((k12.trans (keep_setL (.inl (.tail _ (.tail _ (.head _)))))).trans (k3.mono fun x hx => sub3 hx)) T3 l3 hPt hPa hPl))
        · exact tree_atom hPt hPa hPl n1 n2 p2 hlen T2 k12 l2 hlt ha1 ha2 ha3
      · exact tree_atom hPt hPa hPl n1 n2 p2 hlen T2 k12 l2 hlt ha1 ha2 ha3
    · have hlen := natList_none hx
      refine InvT.last hP (h := h) ?_ ?_ ha2 ha3 ha4 ha5 ha6 ha7
      all_goals (first | lia | omega))
end
end Mine
namespace Mine
noncomputable def code (rs : List Row) : List PV := rs.map (Row.pv tmp)
structure BsA (st : St) (b cd : Addr) (rs : List Row) (nx : Int) (k p s l : PV) : Prop where
  hb : st.ins b = some (306, bdF k p (.ref cd) s l nx)
  hc : st.ls cd = some (code rs)
inductive Bs (st : St) (b cd : Addr) (rs : List Row) (nx : Int) : Prop
  | mk (k p s l : PV) (H : BsA st b cd rs nx k p s l)
theorem Bs.keep {st st' : St} {b cd : Addr} {rs : List Row} {nx : Int} {X : List Addr} (h : Bs st b cd rs nx) (k : Keep X st st') (h1 : b ∉ X) (h2 : cd ∉ X) : Bs st' b cd rs nx := by
  obtain ⟨a1, a2, a3, a4, H⟩ := h
  exact ⟨a1, a2, a3, a4, k.ins h1 H.hb, k.ls h2 H.hc⟩
theorem ins_ne_ls {st : St} {a b C : Addr} {fs ps} (h : ∀ x y, st.has a x → st.has a y → x = y) (e1 : st.ins a = some (C, fs)) (e2 : st.ls b = some ps) : a ≠ b := fun e => by
  subst e
  have := h (.inst C fs) (.list ps) e1 e2
  cases this
noncomputable def argRows : List Arg → Int → List Row
  | [], _ => []
  | .atom k :: r, nx => .uCon k :: argRows r nx
  | .sub _ :: r, nx => .uVar nx :: argRows r (nx + 1)
noncomputable def numb : List Arg → Int → List (Arg × Int)
  | [], _ => []
  | .atom _ :: r, nx => numb r nx
  | .sub l :: r, nx => (.sub l, nx) :: numb r (nx + 1)
noncomputable def pairPV (x : Arg × Int) : PV := .tup [x.1.pv, tmp x.2]
noncomputable def pairs (l : List (Arg × Int)) : List PV := l.map pairPV
@[simp] theorem subs_nil' : subs [] = [] := rfl
@[simp] theorem subs_sub' (x : List Arg) (r : List Arg) : subs (.sub x :: r) = .sub x :: subs r := rfl
@[simp] theorem subs_atom' (k : Int) (r : List Arg) : subs (.atom k :: r) = subs r := rfl
theorem subs_snoc (l : List Arg) (x : Arg) : subs (l ++ [x]) = subs l ++ subs [x] := by unfold subs; rw [List.filter_append]
theorem argRows_snoc : ∀ (l : List Arg) (x : Arg) (nx : Int), argRows (l ++ [x]) nx = argRows l nx ++ argRows [x] (nx + (subs l).length)
  | [], x, nx => by simp [argRows]
  | .atom k :: r, x, nx => by
    have := argRows_snoc r x nx
    simp [argRows] at this ⊢
    exact this
  | .sub k :: r, x, nx => by
    have := argRows_snoc r x (nx + 1)
    simp [argRows] at this ⊢
    rw [this]
    congr 2
    (first | lia | omega)
theorem numb_snoc : ∀ (l : List Arg) (x : Arg) (nx : Int), numb (l ++ [x]) nx = numb l nx ++ numb [x] (nx + (subs l).length)
  | [], x, nx => by simp [numb]
  | .atom k :: r, x, nx => by
    have := numb_snoc r x nx
    simp [numb] at this ⊢
    exact this
  | .sub k :: r, x, nx => by
    have := numb_snoc r x (nx + 1)
    simp [numb] at this ⊢
    rw [this]
    congr 2
    (first | lia | omega)
theorem numb_length : ∀ (l : List Arg) (nx : Int), (numb l nx).length = (subs l).length
  | [], _ => rfl
  | .atom k :: r, nx => by simpa [numb] using numb_length r nx
  | .sub k :: r, nx => by simpa [numb] using numb_length r (nx + 1)
theorem argRows_length : ∀ (l : List Arg) (nx : Int), (argRows l nx).length = l.length
  | [], _ => rfl
  | .atom k :: r, nx => by simpa [argRows] using argRows_length r nx
  | .sub k :: r, nx => by simpa [argRows] using argRows_length r (nx + 1)
section
variable {c : Cx} {n : Nat}
inductive Sp_m_match_arguments (ps : List PV) (st : St) (Q : PV → St → Prop) : Prop
  | mk (b cd w : Addr) (args : List Arg) (rs : List Row) (nx : Int) (Wt : List PV) (_ : ps = [.ref b, .tup (pvs args), .ref w]) (_ : Bs st b cd rs nx) (_ : st.ls w = some Wt) (_ : w ≠ cd) (_ : args.length ≤ 3) (_ : rs.length ≤ 500) (_ : Wt.length ≤ 500) (_ : ∀ st', Keep [b, cd, w] st st' → Bs st' b cd (rs ++ argRows args nx) (nx + (subs args).length) → st'.ls w = some (Wt ++ (pairs (numb args nx)).reverse) → Q .none st') : Sp_m_match_arguments ps st Q
theorem gEq_ne {x y : Str} (h : decide (x = y) = false) : gEq (.str x) (.str y) = some false := congrArg some h
theorem ma_head {i j : Nat} {s : Str} {r : List PV} {X Y : WS} {m : Fm} {st : St} {Q : Fl → Fm → St → Prop} (hs : decide (s = ("v" : Str)) = false) (h5 : lk m i = some (.tup (.str s :: r))) (h4 : lk m j = some (.int 0)) (h : X m st (sq Y Q)) :
    W.seq (W.ite (W.andT (W.cmpT gEq (W.subT (W.loc i) (W.const (.int 0))) (W.const (.str "v"))) (W.andT W.bad (W.tt true))) W.bad W.skip) (W.seq (W.ite (W.cmpT gGt (W.loc j) (W.const (.int 0))) W.bad W.skip)
      (W.seq (W.ite (W.cmpT gEq (W.subT (W.loc i) (W.const (.int 0))) (W.const (.str "v"))) W.bad X) Y)) m st Q :=
  step_f (EvT.and_f (EvT.cmp (Ev.subT (Ev.loc h5) Ev.const rfl) Ev.const (gEq_ne hs))) (skip_sq (step_f (EvT.cmp (Ev.loc h4) Ev.const rfl) (skip_sq (step_f (EvT.cmp (Ev.subT (Ev.loc h5) Ev.const rfl) Ev.const (gEq_ne hs)) h))))
theorem code_snoc (rs : List Row) (r : Row) : code rs ++ [Row.pv tmp r] = code (rs ++ [r]) := by unfold code; rw [List.map_append]; rfl
theorem code_lt {rs : List Row} (h : rs.length ≤ 999) : (code rs).length < 1000 := by unfold code; rw [List.length_map]; exact Nat.lt_succ_of_le h
inductive InvA (b cd w N : Addr) (args : List Arg) (rs : List Row) (nx : Int) (Wt : List PV) (s0 : St) (i : Nat) (m' : Fm) (st' : St) : Prop
  | mk (p5 p6 : Option PV) (hm : m' = [some (.ref b), some (.tup (pvs args)), some (.ref w), some (.ref N), some (.int 0), p5, p6]) (k1 : Keep [b, cd, w, N] s0 st') (B1 : Bs st' b cd (rs ++ argRows (args.take i) nx) (nx + (subs (args.take i)).length)) (w1 : st'.ls w = some Wt) (N1 : st'.ls N = some (pairs (numb (args.take i) nx)))
inductive InvA2 (b cd w N : Addr) (args : List Arg) (rs : List Row) (nx : Int) (Wt : List PV) (s0 : St) (m0 : Fm) (kk : Nat) (m' : Fm) (st2 : St) : Prop
  | mk (rem done : List (Arg × Int)) (e1 : kk = rem.length) (e2 : numb args nx = rem ++ done) (hm : m' = m0) (k2 : Keep [b, cd, w, N] s0 st2) (B2 : Bs st2 b cd (rs ++ argRows args nx) (nx + (subs args).length)) (w2 : st2.ls w = some (Wt ++ (pairs done).reverse)) (N2 : st2.ls N = some (pairs rem))
theorem keepA {b cd w N : Addr} {st st' : St} {ps : List PV} (hN : st.free N) (k : Keep [b, cd, w, N] (st.setL N ps) st') : Keep [b, cd, w] st st' := fun b' mo hb q =>
  k b' mo (notC (fun e => hb (e ▸ .head _)) (notC (fun e => hb (e ▸ .tail _ (.head _))) (notC (fun e => hb (e ▸ .tail _ (.tail _ (.head _)))) (not1 (fun e => hN mo (e ▸ q)))))) (keep_setL (X := []) (.inr hN) b' mo not0 q)
theorem subs_le (l : List Arg) : (subs l).length ≤ l.length := List.length_filter_le _ _
theorem ok_match_arguments (kf : KF c.K) : CodeOk c (n + 2) (.ref 249) Sp_m_match_arguments := co_match_arguments (n := n + 1) kf (h_m_new_temporary := CodeOk.call (ok_new_temporary kf)) (h_m_emit := CodeOk.call (ok_emit kf)) (h_constant_cell := CodeOk.call (ok_constant_cell kf)) (fun ps st Q h => by
    obtain ⟨b, cd, w, args, rs, nx, Wt, rfl, hB, hw, hne, hal, hrl, hWl, h⟩ := h
    refine ⟨rfl, ?_⟩
    unfold w_match_arguments
    intro N hN
    have hNw : w ≠ N := free_ne_ls hN hw
    obtain ⟨a1, a2, a3, a4, H⟩ := id hB
    have hNc : cd ≠ N := free_ne_ls hN H.hc
    refine .inl ⟨_, rfl, InvA b cd w N args rs nx Wt (st.setL N []), ⟨_, _, rfl, .rfl' _ _, ?_, ls_ne hNw hw, ls_eq⟩, fun i m' st' hI => ?_⟩
    · rw [List.take_zero]; show Bs _ b cd (rs ++ []) (nx + 0); rw [List.append_nil, Int.add_zero]; exact hB.keep (X := []) (keep_setL (.inr hN)) not0 not0
    obtain ⟨p5, p6, hm, k1, B1, w1, N1⟩ := hI
    subst hm
    refine ⟨trivial, fun x hx => ?_, fun hx => ?_⟩
    · rw [pvs_map] at hx
      obtain ⟨y, hy, rfl⟩ := map_get hx
      have hlt := get_lt hy
      obtain ⟨a1, a2, a3, a4, H⟩ := B1
      have hlr : (rs ++ argRows (args.take i) nx).length ≤ 999 := by rw [List.length_append, argRows_length, List.length_take]; (first | lia | omega)
      cases y with
      | atom q =>
        refine ma_head (s := "a") (by decide +kernel) rfl rfl (step_f (EvT.cmp (Ev.subT (Ev.loc rfl) Ev.const rfl) Ev.const (gEq_ne (by decide +kernel))) ?_)
        refine expr_methG (b := b) rfl H.hb ⟨q, rfl, b, cd, _, _, Row.pv tmp (.uCon q), rfl, H.hb, rfl, H.hc, code_lt hlr, rfl, lp_next ⟨_, _, rfl, k1.trans (keep_setL (.inl (.tail _ (.head _)))), ?_, ls_ne hne w1, ?_⟩⟩
        · rw [take_snoc hy, subs_snoc, argRows_snoc, ← List.append_assoc]; exact ⟨a1, a2, a3, a4, by rw [List.length_append]; exact H.hb, code_snoc _ (.uCon q) ▸ ls_eq⟩
        · rw [take_snoc hy, numb_snoc]; exact ls_ne (Ne.symm hNc) (N1.trans (by rw [show numb [Arg.atom q] (nx + (subs (args.take i)).length) = [] from rfl, List.append_nil]))
      | sub q =>
        have hlp : (pairs (numb (args.take i) nx)).length < 1000000 := by
          unfold pairs; rw [List.length_map, numb_length]
          have := subs_le (args.take i)
          rw [List.length_take] at this; (first | lia | omega)
        refine ma_head (s := "s") (by decide +kernel) rfl rfl (step_t (EvT.cmp (Ev.subT (Ev.loc rfl) Ev.const rfl) Ev.const (gEq_str _)) ?_)
        refine asg_meth (b := b) (ps := []) rfl H.hb EvS.nil ⟨b, _, nx + (subs (args.take i)).length, rfl, H.hb, Nat.le_of_ble_eq_true rfl, rfl, ?_⟩
        refine expr_meth (b := b) (ps := [Row.pv tmp (.uVar (nx + (subs (args.take i)).length))]) rfl ins_eq (EvS.cons (Ev.tup (EvS.cons Ev.const (EvS.cons (Ev.loc rfl) EvS.nil)) rfl) EvS.nil) ⟨b, cd, _, _, _, rfl, ins_eq, rfl, H.hc, code_lt hlr, rfl, ?_⟩
        refine app_step (p := pairPV (.sub q, nx + (subs (args.take i)).length)) rfl (ls_ne (Ne.symm hNc) N1) (Ev.tup (EvS.cons (Ev.loc rfl) (EvS.cons (Ev.loc rfl) EvS.nil)) rfl) hlp (lp_next ⟨_, _, rfl, ((k1.trans (keep_setI (.inl (.head _)))).trans (keep_setL (.inl (.tail _ (.head _))))).trans (keep_setL (.inl (.tail _ (.tail _ (.tail _ (.head _)))))), ?_, ls_ne hNw (ls_ne hne w1), ?_⟩)
        · rw [take_snoc hy, subs_snoc, argRows_snoc, ← List.append_assoc, List.length_append]
          refine ⟨a1, a2, a3, a4, ?_, code_snoc _ (.uVar _) ▸ ls_ne hNc ls_eq⟩
          rw [show nx + (((subs (args.take i)).length + (subs [Arg.sub q]).length : Nat) : Int) = nx + (subs (args.take i)).length + 1 from (Int.add_assoc nx ((subs (args.take i)).length : Int) 1).symm]; exact ins_eq
        · rw [take_snoc hy, numb_snoc]; unfold pairs; rw [List.map_append]; exact ls_eq
    · rw [pvs_map] at hx
      rw [map_none hx] at B1 N1
      have hnl : (numb args nx).length ≤ 3 := by rw [numb_length]; exact Nat.le_trans (subs_le args) hal
      refine step_f (EvT.cmp (Ev.loc rfl) Ev.const rfl) (skip_sq ⟨InvA2 b cd w N args rs nx Wt (st.setL N []) _, ⟨_, numb args nx, [], rfl, (List.append_nil _).symm, rfl, k1, B1, w1.trans (by rw [show pairs [] = [] from rfl, List.reverse_nil, List.append_nil]), N1⟩, fun kk m' st2 hI => ?_⟩)
      obtain ⟨rem, done, e1, e2, e3, k2, B2, w2, N2⟩ := hI
      subst e3
      refine EvT.cmp (Ev.len (Ev.loc rfl) N2) Ev.const rfl _ (br_intro (fun hpos => ?_) (fun hz => ?_))
      · obtain ⟨r', x, rfl⟩ : ∃ r' x, rem = r' ++ [x] := by
          cases h' : rem.getLast? with
          | none => rw [List.getLast?_eq_none_iff] at h'; subst h'; simp [pairs] at hpos
          | some x => rw [List.getLast?_eq_some_iff] at h'; obtain ⟨ys, rfl⟩ := h'; exact ⟨ys, x, rfl⟩
        rw [List.length_append] at e1
        rw [e2, List.length_append, List.length_append] at hnl
        refine app_stepE rfl w2 ⟨N, rfl, isL_eq N2, N, pairs r', pairPV x, rfl, N2.trans (by unfold pairs; rw [List.map_append]; rfl), app_post (ls_ne hNw w2) ?_ (wp_next (k' := r'.length) (by rw [e1]; exact Nat.lt_succ_self _) ⟨r', x :: done, rfl, by rw [e2, List.append_assoc]; rfl, rfl, (k2.trans (keep_setL (.inl (.tail _ (.tail _ (.tail _ (.head _))))))).trans (keep_setL (.inl (.tail _ (.tail _ (.head _))))), ?_, ?_, ls_ne (Ne.symm hNw) ls_eq⟩)⟩
        · unfold pairs; rw [List.length_append, List.length_reverse, List.length_map]; (first | lia | omega)
        · obtain ⟨a1, a2, a3, a4, H⟩ := B2
          exact ⟨a1, a2, a3, a4, H.hb, ls_ne (Ne.symm hne) (ls_ne hNc H.hc)⟩
        · rw [show (pairs (x :: done)).reverse = (pairs done).reverse ++ [pairPV x] from List.reverse_cons, ← List.append_assoc]; exact ls_eq
      · have : rem = [] := by
          cases rem with
          | nil => rfl
          | cons x r => simp [pairs] at hz
        subst this
        exact st_end (h st2 (keepA hN k2) B2 (by rw [w2, e2]; rfl)))
end
end Mine
namespace Mine
noncomputable def headM (l : List Arg) (r : Int) : Row := if fnum l.length = 0 then .getL r else .getS (fnum l.length) r
inductive MRun : List (Arg × Int) → Int → List Row → Int → Prop
  | nil (nx : Int) : MRun [] nx [] nx
  | cons {l : List Arg} {r nx nx' : Int} {rest : List (Arg × Int)} {rows : List Row} : MRun (numb l nx ++ rest) (nx + (subs l).length) rows nx' → MRun ((.sub l, r) :: rest) nx (headM l r :: argRows l nx ++ rows) nx'
noncomputable def rsum : List (Arg × Int) → Nat
  | [] => 0
  | x :: r => x.1.rows + rsum r
theorem rsum_append : ∀ a b : List (Arg × Int), rsum (a ++ b) = rsum a + rsum b
  | [], b => by simp [rsum]
  | x :: a, b => by show x.1.rows + rsum (a ++ b) = x.1.rows + rsum a + rsum b; rw [rsum_append a b]; (first | lia | omega)
theorem rsum_numb : ∀ (l : List Arg) (nx : Int), rsum (numb l nx) = rowss l
  | [], _ => rfl
  | .atom k :: r, nx => by
    show rsum (numb r nx) = 0 + rowss r
    rw [rsum_numb r nx]; (first | lia | omega)
  | .sub k :: r, nx => by
    show Arg.rows (.sub k) + rsum (numb r (nx + 1)) = Arg.rows (.sub k) + rowss r
    rw [rsum_numb r (nx + 1)]
mutual
theorem rows_comp : ∀ a : Arg, a.Good → a.rows ≤ 4 * a.comp
  | .atom _, _ => Nat.le_refl _
  | .sub l, h => by
    have := rowss_comps l h.2.2
    have h2 := h.2.1
    show 1 + l.length + rowss l ≤ 4 * (1 + comps l)
    (first | lia | omega)
theorem rowss_comps : ∀ l : List Arg, Goods l → rowss l ≤ 4 * comps l
  | [], _ => Nat.le_refl _
  | a :: r, h => by
    have h1 := rows_comp a h.1
    have h2 := rowss_comps r h.2
    show a.rows + rowss r ≤ 4 * (a.comp + comps r)
    (first | lia | omega)
end
noncomputable def GoodSt (s : List (Arg × Int)) : Prop := ∀ x ∈ s, ∃ l, x.1 = .sub l ∧ Arg.Good (.sub l)
theorem GoodSt.numb : ∀ {l : List Arg} {nx : Int}, Goods l → GoodSt (numb l nx)
  | [], _, _ => fun _ h => nomatch h
  | .atom _ :: r, nx, h => GoodSt.numb (l := r) h.2
  | .sub k :: r, nx, h => fun x hx => by
    rcases List.mem_cons.mp hx with rfl | hx
    · exact ⟨k, rfl, h.1⟩
    · exact GoodSt.numb (l := r) h.2 x hx
theorem GoodSt.len : ∀ {s : List (Arg × Int)}, GoodSt s → s.length ≤ rsum s
  | [], _ => Nat.le_refl _
  | x :: r, h => by
    obtain ⟨l, e, _⟩ := h x (.head _)
    have := GoodSt.len (s := r) fun y hy => h y (.tail _ hy)
    show r.length + 1 ≤ x.1.rows + rsum r
    rw [e]
    show _ ≤ 1 + l.length + rowss l + rsum r
    (first | lia | omega)
section
variable {c : Cx} {n : Nat}
inductive Sp_m_match (ps : List PV) (st : St) (Q : PV → St → Prop) : Prop
  | mk (b cd : Addr) (l : List Arg) (_ : ps = [.ref b, Arg.pv (.sub l), tmp 0]) (_ : Bs st b cd [] 1) (_ : Arg.Good (.sub l)) (_ : Arg.comp (.sub l) ≤ 13) (_ : ∀ st' rows nx', Keep [b, cd] st st' → MRun [(.sub l, 0)] 1 rows nx' → Bs st' b cd rows nx' → Q .none st') : Sp_m_match ps st Q
theorem headM_pv (l : List Arg) (r : Int) : (fnum l.length = 0 → Row.pv tmp (headM l r) = .tup [.str "get_list", tmp r]) ∧ (fnum l.length ≠ 0 → Row.pv tmp (headM l r) = .tup [.str "get_structure", .int (fnum l.length), tmp r]) := by
  unfold headM
  exact ⟨fun h => by rw [if_pos h]; rfl, fun h => by rw [if_neg h]; rfl⟩
theorem pairs_pop (x : Arg × Int) (rest : List (Arg × Int)) : (pairs (x :: rest)).reverse = (pairs rest).reverse ++ [pairPV x] := List.reverse_cons
inductive InvM (b cd N : Addr) (l : List Arg) (s0 : St) (kk : Nat) (m' : Fm) (st' : St) : Prop
  | mk (stack : List (Arg × Int)) (rs : List Row) (nx : Int) (p4 p5 : Option PV) (e1 : kk = rsum stack) (hm : m' = [some (.ref b), some (Arg.pv (.sub l)), some (tmp 0), some (.ref N), p4, p5]) (g1 : GoodSt stack) (g2 : rs.length + rsum stack ≤ 60) (k1 : Keep [b, cd, N] s0 st')
      (B1 : Bs st' b cd rs nx) (N1 : st'.ls N = some (pairs stack).reverse) (run : ∀ rows nx', MRun stack nx rows nx' → MRun [(.sub l, 0)] 1 (rs ++ rows) nx')
theorem keep_self {X : List Addr} {st : St} {N : Addr} {ps qs : List PV} (h : N ∈ X) : Keep X (st.setL N ps) (st.setL N qs) := fun b mo hb q => by
  have hbN : b ≠ N := fun e => hb (e ▸ h)
  cases mo <;> simp [St.has, hbN] at q ⊢ <;> exact q
/-- a turn of the loop of match, after the instruction -/
theorem match_turn {b cd N : Addr} {l al : List Arg} {s0 st' : St} {rest : List (Arg × Int)} {r nx : Int} {rs : List Row} {p4 p5 : Option PV} (hNc : cd ≠ N) (ga : Arg.Good (.sub al)) (g1 : GoodSt rest)
    (g2 : rs.length + (1 + al.length + rowss al + rsum rest) ≤ 60) (k1 : Keep [b, cd, N] s0 st') (B1 : Bs st' b cd rs nx) (run : ∀ rows nx', MRun ((.sub al, r) :: rest) nx rows nx' → MRun [(.sub l, 0)] 1 (rs ++ rows) nx')
    {Q : PV → St → Prop} (hQ : ∀ st3, InvM b cd N l s0 (rowss al + rsum rest) [some (.ref b), some (Arg.pv (.sub l)), some (tmp 0), some (.ref N), p4, p5] st3 → Q .none st3) :
    Sp_m_match_arguments [.ref b, .tup (pvs al), .ref N] ((st'.setL N (pairs rest).reverse).setL cd (code rs ++ [Row.pv tmp (headM al r)])) Q := by
  obtain ⟨a1, a2, a3, a4, H⟩ := B1
  have hrest := g1.len
  refine ⟨b, cd, N, al, rs ++ [headM al r], nx, _, rfl, ⟨a1, a2, a3, a4, H.hb, code_snoc rs _ ▸ ls_eq⟩, ls_ne (Ne.symm hNc) ls_eq, Ne.symm hNc, ga.2.1, ?_, ?_, fun st3 k3 B3 N3 => hQ st3 ⟨numb al nx ++ rest, _, _, _, _, ?_, rfl, ?_, ?_,
    ((k1.trans (keep_setL (.inl (.tail _ (.tail _ (.head _)))))).trans (keep_setL (.inl (.tail _ (.head _))))).trans k3, B3, ?_, fun rows nx' hrun => ?_⟩⟩
  · rw [List.length_append]; show rs.length + 1 ≤ 500; (first | lia | omega)
  · unfold pairs; rw [List.length_reverse, List.length_map]; (first | lia | omega)
  · rw [rsum_append, rsum_numb]
  · intro x hx
    rcases List.mem_append.mp hx with hx | hx
    · exact GoodSt.numb ga.2.2 x hx
    · exact g1 x hx
  · rw [rsum_append, rsum_numb, List.length_append, List.length_append, argRows_length]; show rs.length + 1 + al.length + (rowss al + rsum rest) ≤ 60; (first | lia | omega)
  · rw [N3]; unfold pairs; rw [List.map_append, List.reverse_append]
  · rw [List.append_assoc, List.append_assoc]; exact run _ _ (MRun.cons (r := r) hrun)
theorem keep3 {b cd N : Addr} {st st' : St} {ps : List PV} (hN : st.free N) (k : Keep [b, cd, N] (st.setL N ps) st') : Keep [b, cd] st st' := fun b' mo hb q =>
  k b' mo (notC (fun e => hb (e ▸ .head _)) (notC (fun e => hb (e ▸ .tail _ (.head _))) (not1 (fun e => hN mo (e ▸ q))))) (keep_setL (X := []) (.inr hN) b' mo not0 q)
theorem ok_match (kf : KF c.K) : CodeOk c (n + 3) (.ref 242) Sp_m_match := co_match (n := n + 2) kf (h_m_emit := CodeOk.call (ok_emit (n := n + 1) kf)) (h_m_match_arguments := CodeOk.call (ok_match_arguments kf)) (fun ps st Q h => by
    obtain ⟨b, cd, l, rfl, hB, hG, hC, h⟩ := h
    refine ⟨rfl, ?_⟩
    unfold w_match
    intro N hN
    have hR := rows_comp _ hG
    obtain ⟨a1, a2, a3, a4, H⟩ := id hB
    have hNc := free_ne_ls hN H.hc
    refine ⟨InvM b cd N l (st.setL N [.tup [Arg.pv (.sub l), tmp 0]]), ⟨_, [(.sub l, 0)], [], 1, _, _, rfl, rfl, ?_, ?_, .rfl' _ _, hB.keep (X := []) (keep_setL (.inr hN)) not0 not0, ls_eq, fun rows nx' z => z⟩, fun kk m' st' hI => ?_⟩
    · intro x hx; rw [List.mem_singleton.mp hx]; exact ⟨l, rfl, hG⟩
    · show 0 + (Arg.rows (.sub l) + 0) ≤ 60; (first | lia | omega)
    obtain ⟨stack, rs, nx, p4, p5, e1, hm, g1, g2, k1, B1, N1, run⟩ := hI
    subst hm
    refine orF_of (gLen_ls N1) ?_
    cases stack with
    | nil =>
      have hrun := run [] nx (.nil nx)
      rw [List.append_nil] at hrun
      exact st_end (h st' rs nx (keep3 hN k1) hrun B1)
    | cons x rest =>
      refine br_t (decide_eq_true (by rw [pairs_pop, List.length_append]; exact Int.natCast_pos.mpr (Nat.succ_pos _))) ?_
      obtain ⟨x1, r⟩ := x
      obtain ⟨al, rfl, ga⟩ := g1 (x1, r) (.head _)
      obtain ⟨a1, a2, a3, a4, H⟩ := id B1
      refine asgT_pop (p := Arg.pv (.sub al)) (q := tmp r) rfl N1 (pairs_pop _ _) ?_
      have h60 : rs.length ≤ 60 := Nat.le_trans (Nat.le_add_right _ _) g2
      refine ite_emit (ins := Row.pv tmp (headM al r)) rfl rfl rfl H.hb rfl (ls_ne hNc H.hc) (code_lt (Nat.le_trans h60 (by decide))) (headM_pv al r).1 (headM_pv al r).2 ?_
      refine expr_meth (b := b) (ps := [.tup (pvs al), .ref N]) rfl H.hb (fun R h => h) ?_
      exact match_turn hNc ga (fun y hy => g1 y (.tail _ hy)) g2 k1 B1 run (fun st3 hI => ⟨rfl, wp_next (by rw [e1]; show _ < 1 + al.length + rowss al + rsum rest; (first | lia | omega)) hI⟩))
end
end Mine
namespace Mine
noncomputable def wkPV (x : Bool × Arg) : PV := .tup [.bool x.1, x.2.pv]
noncomputable def wk (l : List (Bool × Arg)) : List PV := l.map wkPV
noncomputable def fal (l : List Arg) : List (Bool × Arg) := l.map fun a => (false, a)
theorem lastS_sub {l : List Arg} {x : List Arg} (h : l.getLast? = some (.sub x)) : lastS l = [.sub x] := by unfold lastS; rw [h]
theorem lastS_atom {l : List Arg} {k : Int} (h : l.getLast? = some (.atom k)) : lastS l = [] := by unfold lastS; rw [h]
theorem pv_at {l : List Arg} {i : Nat} {a : Arg} (h : l[i]? = some a) : (pvs l)[i]? = some a.pv := by rw [pvs_map, List.getElem?_map, h]; rfl
theorem pv_idx {ini r : List Arg} {a : Arg} {j : Nat} {x : Int} (hx : x = j) (h : ini[j]? = some a) : idx (pvs (ini ++ r)) x = some a.pv := by
  subst hx
  exact idx_get (Int.natCast_nonneg j) (pv_at (by rw [Int.toNat_natCast, List.getElem?_append_left (get_lt h)]; exact h))
theorem pv_last (ini : List Arg) (z : Arg) {x : Int} (hx : x = ini.length) : idx (pvs (ini ++ [z])) x = some z.pv := by
  subst hx
  exact idx_get (Int.natCast_nonneg _) (pv_at (by rw [Int.toNat_natCast]; exact List.getElem?_concat_length))
theorem len_last (ini : List Arg) (z : Arg) : gSub (.int (pvs (ini ++ [z])).length) (.int 1) = some (.int ini.length) := congrArg (fun z => some (PV.int z)) (by rw [pvs_length, List.length_append]; exact Int.add_sub_cancel (ini.length : Int) 1)
theorem split_last {l : List Arg} (h : 1 ≤ l.length) : ∃ ini z, l = ini ++ [z] := by
  obtain ⟨z, hz, _⟩ := last_pv h
  obtain ⟨ys, rfl⟩ := List.getLast?_eq_some_iff.mp hz
  exact ⟨ys, z, rfl⟩
theorem lastS_at (ini : List Arg) (k : Int) : lastS (ini ++ [.atom k]) = [] := lastS_atom List.getLast?_concat
theorem lastS_su (ini k : List Arg) : lastS (ini ++ [.sub k]) = [.sub k] := lastS_sub List.getLast?_concat
theorem drop_at {α : Type} {l : List α} {j : Nat} {a : α} (h : l[j]? = some a) : l.drop j = a :: l.drop (j + 1) := by
  rw [List.drop_eq_getElem_cons (get_lt h), (List.getElem?_eq_some_iff.mp h).2]
theorem down (j : Nat) : gSub (.int (((j + 1 : Nat) : Int) - 1)) (.int 1) = some (.int ((j : Int) - 1)) := congrArg (fun z => some (PV.int z)) (by rw [show ((j + 1 : Nat) : Int) - 1 = j from Int.add_sub_cancel (j : Int) 1])
theorem fal_le {l : List Arg} {Wt : List PV} (h1 : l.length ≤ 3) (h2 : Wt.length ≤ 500) : (Wt ++ (wk (fal (subs l))).reverse).length < 1000000 := by
  have := subs_le l
  rw [List.length_append, List.length_reverse]
  unfold wk fal
  rw [List.length_map, List.length_map]
  (first | lia | omega)
theorem fal_snoc (Wt : List PV) (x : Arg) (l : List Arg) : Wt ++ (wk (fal l)).reverse ++ [wkPV (false, x)] = Wt ++ (wk (fal (x :: l))).reverse := by
  rw [List.append_assoc]; exact congrArg _ List.reverse_cons.symm
inductive InvW (b w : Addr) (ini : List Arg) (z : Arg) (Wt : List PV) (st : St) (kk : Nat) (m' : Fm) (st' : St) : Prop
  | mk (hk : kk ≤ ini.length) (hm : m' = [some (.ref b), some (.tup (pvs (ini ++ [z]))), some (.ref w), some (.int ini.length), some (.int ((kk : Int) - 1))]) (k1 : Keep [w] st st') (w1 : st'.ls w = some (Wt ++ (wk (fal (subs (ini.drop kk)))).reverse))
section
variable {c : Cx} {n : Nat}
inductive Sp_m_wait_for_nested (ps : List PV) (st : St) (Q : PV → St → Prop) : Prop
  | mk (b w : Addr) (args : List Arg) (Wt : List PV) (_ : ps = [.ref b, .tup (pvs args), .ref w]) (_ : st.ls w = some Wt) (_ : 1 ≤ args.length) (_ : args.length ≤ 3) (_ : Wt.length ≤ 500) (_ : ∀ st', Keep [w] st st' → st'.ls w = some (Wt ++ (wk (fal (ordP args))).reverse) → Q .none st') : Sp_m_wait_for_nested ps st Q
theorem ok_wait_for_nested (kf : KF c.K) : CodeOk c (n + 1) (.ref 282) Sp_m_wait_for_nested := co_wait_for_nested kf (fun ps st Q h => by
    obtain ⟨b, w, args, Wt, rfl, hw, h1, h3, hWl, h⟩ := h
    refine ⟨rfl, ?_⟩
    obtain ⟨ini, z, rfl⟩ := split_last h1
    have hil : ini.length ≤ 3 := Nat.le_trans (by rw [List.length_append]; exact Nat.le_add_right _ _) h3
    unfold w_wait_for_nested
    refine step_asg (Ev.bin (Ev.lenT (Ev.loc rfl)) Ev.const (len_last ini z)) (step_asg (Ev.bin (Ev.loc rfl) Ev.const rfl) ⟨InvW b w ini z Wt st, ⟨ini.length, Nat.le_refl _, rfl, .rfl' _ _, by rw [List.drop_length]; exact hw.trans (congrArg some (List.append_nil _).symm)⟩, fun kk m' st' hI => ?_⟩)
    obtain ⟨hk, hm, k1, w1⟩ := hI
    subst hm
    refine EvT.cmp (Ev.loc rfl) Ev.const rfl _ (br_intro (fun hpos => ?_) (fun hneg => ?_))
    · cases kk with
      | zero => cases hpos
      | succ j =>
        obtain ⟨a, ha⟩ : ∃ a, ini[j]? = some a := ⟨_, List.getElem?_eq_getElem hk⟩
        have hidx := pv_idx (r := [z]) (Int.add_sub_cancel (j : Int) 1) ha
        have hwl := fal_le (l := ini.drop (j + 1)) (by rw [List.length_drop]; (first | lia | omega)) hWl
        have hd := drop_at ha
        cases a with
        | atom q => exact step_f (EvT.cmp (Ev.subT (Ev.subT (Ev.loc rfl) (Ev.loc rfl) hidx) Ev.const rfl) Ev.const (gEq_ne (by decide +kernel))) (skip_sq (step_aug rfl Ev.const (down j) (wp_next (Nat.lt_succ_self j) ⟨Nat.le_of_succ_le hk, rfl, k1, by rw [hd]; exact w1⟩)))
        | sub q => exact step_t (EvT.cmp (Ev.subT (Ev.subT (Ev.loc rfl) (Ev.loc rfl) hidx) Ev.const rfl) Ev.const (gEq_str _)) (app_step (p := wkPV (false, .sub q)) rfl w1 (Ev.tup (EvS.cons Ev.const (EvS.cons (Ev.subT (Ev.loc rfl) (Ev.loc rfl) hidx) EvS.nil)) rfl) hwl (skip_sq (step_aug rfl Ev.const (down j) (wp_next (Nat.lt_succ_self j) ⟨Nat.le_of_succ_le hk, rfl, k1.trans (keep_setL (.inl (.head _))), by rw [hd]; exact ls_eq.trans (congrArg some (fal_snoc _ _ _))⟩))))
    · have hk0 : kk = 0 := by have := of_decide_eq_false hneg; (first | lia | omega)
      subst hk0
      rw [List.drop_zero] at w1
      have hidx := pv_last ini z rfl
      have h0 : ∀ x, ordP (ini ++ [x]) = lastS (ini ++ [x]) ++ subs ini := fun x => by unfold ordP; rw [List.dropLast_concat]
      cases z with
      | atom q => exact step_f (EvT.cmp (Ev.subT (Ev.subT (Ev.loc rfl) (Ev.loc rfl) hidx) Ev.const rfl) Ev.const (gEq_ne (by decide +kernel))) (skip_sq (st_end (h st' k1 (by rw [h0, lastS_at]; exact w1))))
      | sub q => exact step_t (EvT.cmp (Ev.subT (Ev.subT (Ev.loc rfl) (Ev.loc rfl) hidx) Ev.const rfl) Ev.const (gEq_str _)) (app_step (p := wkPV (false, .sub q)) rfl w1 (Ev.tup (EvS.cons Ev.const (EvS.cons (Ev.subT (Ev.loc rfl) (Ev.loc rfl) hidx) EvS.nil)) rfl) (fal_le hil hWl) (skip_sq (st_end (h _ (k1.trans (keep_setL (.inl (.head _)))) (by rw [h0, lastS_su]; exact ls_eq.trans (congrArg some (fal_snoc _ _ _)))))))  )
end
end Mine
namespace Mine
inductive Pc where
  | atom (k : Int) | reg (r : Int)
noncomputable def Pc.pv : Pc → PV | .atom k => .tup [.str "a", .int k] | .reg r => tmp r
noncomputable def pcs (l : List Pc) : List PV := l.map Pc.pv
noncomputable def fill : List Arg → List Int → List Pc
  | [], _ => []
  | .atom k :: r, rs => .atom k :: fill r rs
  | .sub _ :: r, x :: rs => .reg x :: fill r rs
  | .sub _ :: r, [] => .reg 0 :: fill r []
noncomputable def tmps (l : List Int) : List PV := l.map tmp
noncomputable def lastL (l : List Arg) : List Arg := match l.getLast? with | some a => [a] | none => []
noncomputable def pieces (l : List Arg) (regs : List Int) : List Pc := fill l.dropLast (regs.drop (lastS l).length) ++ fill (lastL l) regs
@[simp] theorem pvs_nil : pvs [] = [] := rfl
theorem fill_length : ∀ (l : List Arg) (rs : List Int), (fill l rs).length = l.length
  | [], _ => rfl
  | .atom k :: r, rs => by simp [fill, fill_length r rs]
  | .sub k :: r, x :: rs => by simp [fill, fill_length r rs]
  | .sub k :: r, [] => by simp [fill, fill_length r []]
theorem pcs_cons (x : Pc) (l : List Pc) : pcs (x :: l) = x.pv :: pcs l := rfl
theorem tmps_app (a b : List Int) : tmps (a ++ b) = tmps a ++ tmps b := List.map_append
theorem fill_all : ∀ (l : List Arg) (rs : List Int), (pcs (fill l rs)).length = l.length := fun l rs => by unfold pcs; rw [List.length_map, fill_length]
theorem putL_pop {i j k : Nat} {rest : WS} {m : Fm} {st : St} {Q : Fl → Fm → St → Prop} {a B : Addr} {ps xs : List PV} {p : PV} {x : Int} (hk : lk m k = some (.ref B)) (hB : st.ls B = some (xs ++ [p])) (hi : lk m i = some (.ref a)) (hj : lk m j = some (.int x)) (ha : st.ls a = some ps) (hne : a ≠ B) (h0 : 0 ≤ x) (hl : x < ps.length)
    (h : rest m ((st.setL B xs).setL a (ps.set x.toNat p)) Q) : W.seq (W.putL (W.loc i) (W.loc j) (W.methB isL Sp.pop (W.loc k) W.nil)) rest m st Q := orF_of hk ⟨B, rfl, isL_eq hB, B, xs, p, rfl, hB, orF_of hi (orF_of hj (orF_of (putL_eq (ls_ne hne ha) h0 hl) h))⟩
theorem set_mid (a b : List PV) (x y : PV) {k : Int} (hk : k = a.length) : (a ++ x :: b).set k.toNat y = a ++ y :: b := by
  subst hk
  rw [Int.toNat_natCast, List.set_append_right _ _ (Nat.le_refl _), Nat.sub_self]; rfl
theorem mid_lt (a b : List PV) (x : PV) {k : Int} (hk : k = a.length) : k < (a ++ x :: b).length := by
  subst hk
  rw [List.length_append]; exact Int.ofNat_lt.mpr (Nat.lt_add_of_pos_right (Nat.succ_pos _))
/-- kk arguments are still to be looked at -/
inductive InvK (b B p : Addr) (ini : List Arg) (z : Arg) (Bt : List PV) (regL regsD : List Int) (s0 : St) (kk : Nat) (m' : Fm) (st' : St) : Prop
  | mk (hk : kk ≤ ini.length) (hm : m' = [some (.ref b), some (.tup (pvs (ini ++ [z]))), some (.ref B), some (.ref p), some (.int ini.length), some (.int ((kk : Int) - 1))]) (k1 : Keep [B, p] s0 st')
      (B1 : st'.ls B = some (Bt ++ tmps regL ++ tmps (regsD.take (subs (ini.take kk)).length))) (p1 : st'.ls p = some (pvs (ini.take kk) ++ (pcs (fill (ini.drop kk) (regsD.drop (subs (ini.take kk)).length)) ++ [z.pv])))
theorem pvs_app (a b : List Arg) : pvs (a ++ b) = pvs a ++ pvs b := by rw [pvs_map, pvs_map, pvs_map, List.map_append]
theorem InvK.atom {b B p : Addr} {ini : List Arg} {z : Arg} {Bt : List PV} {regL regsD : List Int} {s0 st' : St} {j : Nat} {q : Int} (ha : ini[j]? = some (.atom q)) (k1 : Keep [B, p] s0 st') (B1 : st'.ls B = some (Bt ++ tmps regL ++ tmps (regsD.take (subs (ini.take (j + 1))).length)))
    (p1 : st'.ls p = some (pvs (ini.take (j + 1)) ++ (pcs (fill (ini.drop (j + 1)) (regsD.drop (subs (ini.take (j + 1))).length)) ++ [z.pv]))) : InvK b B p ini z Bt regL regsD s0 j [some (.ref b), some (.tup (pvs (ini ++ [z]))), some (.ref B), some (.ref p), some (.int ini.length), some (.int ((j : Int) - 1))] st' := by
  have es : subs (ini.take (j + 1)) = subs (ini.take j) := by rw [take_snoc ha, subs_snoc]; exact List.append_nil _
  rw [es] at B1 p1
  refine ⟨Nat.le_of_lt (get_lt ha), rfl, k1, B1, p1.trans (congrArg some ?_)⟩
  rw [take_snoc ha, drop_at ha, pvs_app, List.append_assoc]; rfl
theorem InvK.sub {b B p : Addr} {ini : List Arg} {z : Arg} {Bt : List PV} {regL regsD : List Int} {s0 st' : St} {j : Nat} {q : List Arg} (hBp : B ≠ p) (hrD : regsD.length = (subs ini).length) (ha : ini[j]? = some (.sub q)) (k1 : Keep [B, p] s0 st') (B1 : st'.ls B = some (Bt ++ tmps regL ++ tmps (regsD.take (subs (ini.take (j + 1))).length)))
    (p1 : st'.ls p = some (pvs (ini.take (j + 1)) ++ (pcs (fill (ini.drop (j + 1)) (regsD.drop (subs (ini.take (j + 1))).length)) ++ [z.pv]))) {rest : WS} {Q : Fl → Fm → St → Prop}
    (h : ∀ st2, InvK b B p ini z Bt regL regsD s0 j [some (.ref b), some (.tup (pvs (ini ++ [z]))), some (.ref B), some (.ref p), some (.int ini.length), some (.int ((j : Int) - 1))] st2 → rest [some (.ref b), some (.tup (pvs (ini ++ [z]))), some (.ref B), some (.ref p), some (.int ini.length), some (.int (((j + 1 : Nat) : Int) - 1))] st2 Q) :
    W.seq (W.putL (W.loc 3) (W.loc 5) (W.methB isL Sp.pop (W.loc 2) W.nil)) rest [some (.ref b), some (.tup (pvs (ini ++ [z]))), some (.ref B), some (.ref p), some (.int ini.length), some (.int (((j + 1 : Nat) : Int) - 1))] st' Q := by
  have es : subs (ini.take (j + 1)) = subs (ini.take j) ++ [.sub q] := by rw [take_snoc ha, subs_snoc]; rfl
  have hm : (subs (ini.take j)).length < regsD.length := by
    have h5 : (subs (ini.take (j + 1))).length ≤ (subs ini).length := (List.Sublist.filter _ (List.take_sublist _ _)).length_le
    rw [es, List.length_append, ← hrD] at h5; exact h5
  have hr : regsD[(subs (ini.take j)).length]? = some regsD[(subs (ini.take j)).length] := List.getElem?_eq_getElem hm
  rw [es, List.length_append] at B1 p1
  have e1 : ((j + 1 : Nat) : Int) - 1 = (pvs (ini.take j)).length := by rw [pvs_length, List.length_take, Nat.min_eq_left (Nat.le_of_lt (get_lt ha))]; exact Int.add_sub_cancel (j : Int) 1
  rw [take_snoc ha, pvs_app, List.append_assoc] at p1
  refine putL_pop (p := tmp regsD[(subs (ini.take j)).length]) rfl (B1.trans (congrArg some ?_)) rfl rfl p1 (Ne.symm hBp) (by rw [e1]; exact Int.natCast_nonneg _) (mid_lt _ _ _ e1) (h _ ⟨Nat.le_of_lt (get_lt ha), rfl, (k1.trans (keep_setL (.inl (.head _)))).trans (keep_setL (.inl (.tail _ (.head _)))), ls_ne hBp ls_eq, ls_eq.trans (congrArg some ?_)⟩)
  · rw [show (subs (ini.take j)).length + [Arg.sub q].length = (subs (ini.take j)).length + 1 from rfl, take_snoc hr, tmps_app, ← List.append_assoc]; rfl
  · refine (set_mid _ _ _ _ e1).trans ?_
    rw [drop_at ha, drop_at hr]; rfl
theorem keepK {B p : Addr} {st st2 : St} {ps : List PV} (hp : st.free p) (k : Keep [B, p] (st.setL p ps) st2) : Keep [B] st st2 := fun b' mo hb q => k b' mo (notC (fun e => hb (e ▸ .head _)) (not1 fun e => hp mo (e ▸ q))) (keep_setL (X := []) (.inr hp) b' mo not0 q)
theorem pieces_at (ini : List Arg) (z : Arg) (rs : List Int) : pieces (ini ++ [z]) rs = fill ini (rs.drop (lastS (ini ++ [z])).length) ++ fill [z] rs := by
  unfold pieces lastL
  rw [List.dropLast_concat, List.getLast?_concat]
section
variable {c : Cx} {n : Nat}
inductive Sp_m_take_nested (ps : List PV) (st : St) (Q : PV → St → Prop) : Prop
  | mk (b B : Addr) (args : List Arg) (Bt : List PV) (regs : List Int) (_ : ps = [.ref b, .tup (pvs args), .ref B]) (_ : st.ls B = some (Bt ++ tmps regs)) (_ : regs.length = (ordP args).length) (_ : 1 ≤ args.length) (_ : args.length ≤ 3) (_ : ∀ st' p, Keep [B] st st' → st.free p → st'.ls B = some Bt → st'.ls p = some (pcs (pieces args regs)) → Q (.ref p) st') : Sp_m_take_nested ps st Q
theorem ok_take_nested (kf : KF c.K) : CodeOk c (n + 1) (.ref 289) Sp_m_take_nested := co_take_nested kf (fun ps st Q h => by
    obtain ⟨b, B, args, Bt, regs, rfl, hB, hreg, h1, h3, h⟩ := h
    refine ⟨rfl, ?_⟩
    obtain ⟨ini, z, rfl⟩ := split_last h1
    have hO : ordP (ini ++ [z]) = lastS (ini ++ [z]) ++ subs ini := by unfold ordP; rw [List.dropLast_concat]
    rw [hO, List.length_append] at hreg
    obtain ⟨regL, regsD, rfl, hrL, hrD⟩ : ∃ regL regsD, regs = regL ++ regsD ∧ regL.length = (lastS (ini ++ [z])).length ∧ regsD.length = (subs ini).length :=
      ⟨regs.take (lastS (ini ++ [z])).length, regs.drop (lastS (ini ++ [z])).length, (List.take_append_drop _ _).symm, by rw [List.length_take, hreg]; exact Nat.min_eq_left (Nat.le_add_right _ _), by rw [List.length_drop, hreg]; exact Nat.add_sub_cancel_left _ _⟩
    rw [tmps_app, ← List.append_assoc] at hB
    unfold w_take_nested
    refine orF_of rfl ⟨_, rfl, fun p hp => ?_⟩
    have hBp : B ≠ p := free_ne_ls hp hB
    refine step_asg (Ev.bin (Ev.lenT (Ev.loc rfl)) Ev.const (len_last ini z)) (step_asg (Ev.bin (Ev.loc rfl) Ev.const rfl) ⟨InvK b B p ini z Bt regL regsD (st.setL p (pvs (ini ++ [z]))), ⟨ini.length, Nat.le_refl _, rfl, .rfl' _ _, ls_ne hBp (by rw [List.take_length, ← hrD, List.take_length]; exact hB), ls_eq.trans (by rw [List.take_length, List.drop_length, pvs_app]; rfl)⟩, fun kk m' st' hI => ?_⟩)
    obtain ⟨hk, hm, k1, B1, p1⟩ := hI
    subst hm
    refine EvT.cmp (Ev.loc rfl) Ev.const rfl _ (br_intro (fun hpos => ?_) (fun hneg => ?_))
    · cases kk with
      | zero => cases hpos
      | succ j =>
        obtain ⟨a, ha⟩ : ∃ a, ini[j]? = some a := ⟨_, List.getElem?_eq_getElem hk⟩
        have hidx := pv_idx (r := [z]) (Int.add_sub_cancel (j : Int) 1) ha
        cases a with
        | atom q => exact step_f (EvT.cmp (Ev.subT (Ev.subT (Ev.loc rfl) (Ev.loc rfl) hidx) Ev.const rfl) Ev.const (gEq_ne (by decide +kernel))) (skip_sq (step_aug rfl Ev.const (down j) (wp_next (Nat.lt_succ_self j) (InvK.atom ha k1 B1 p1))))
        | sub q => exact step_t (EvT.cmp (Ev.subT (Ev.subT (Ev.loc rfl) (Ev.loc rfl) hidx) Ev.const rfl) Ev.const (gEq_str _)) (InvK.sub hBp hrD ha k1 B1 p1 fun st2 hI => skip_sq (step_aug rfl Ev.const (down j) (wp_next (Nat.lt_succ_self j) hI)))
    · have hk0 : kk = 0 := by have := of_decide_eq_false hneg; (first | lia | omega)
      subst hk0
      have hidx := pv_last ini z rfl
      have B1 : st'.ls B = some (Bt ++ tmps regL) := B1.trans (congrArg some (List.append_nil _))
      have p1 : st'.ls p = some (pcs (fill ini regsD) ++ [z.pv]) := p1
      cases z with
      | atom q =>
        have hl0 : regL = [] := by rw [lastS_at] at hrL; exact List.eq_nil_of_length_eq_zero hrL
        subst hl0
        exact step_f (EvT.cmp (Ev.subT (Ev.subT (Ev.loc rfl) (Ev.loc rfl) hidx) Ev.const rfl) Ev.const (gEq_ne (by decide +kernel))) (skip_sq (step_ret (Ev.loc rfl) (st_end (h st' p (keepK hp k1) hp (B1.trans (congrArg some (List.append_nil _))) (p1.trans (by rw [pieces_at, lastS_at]; unfold pcs; rw [List.map_append]; rfl))))))
      | sub q =>
        obtain ⟨r0, rfl⟩ : ∃ r0, regL = [r0] := by
          rw [lastS_su] at hrL
          match regL, hrL with
          | [r0], _ => exact ⟨r0, rfl⟩
        have e1 : (ini.length : Int) = (pcs (fill ini regsD)).length := by rw [fill_all]
        exact step_t (EvT.cmp (Ev.subT (Ev.subT (Ev.loc rfl) (Ev.loc rfl) hidx) Ev.const rfl) Ev.const (gEq_str _)) (putL_pop (p := tmp r0) rfl B1 rfl rfl p1 (Ne.symm hBp) (Int.natCast_nonneg _) (mid_lt _ _ _ e1) (skip_sq (step_ret (Ev.loc rfl) (st_end (h _ p (keepK hp ((k1.trans (keep_setL (.inl (.head _)))).trans (keep_setL (.inl (.tail _ (.head _)))))) hp (ls_ne hBp ls_eq) (ls_eq.trans (by rw [pieces_at, lastS_su, set_mid _ _ _ _ e1]; unfold pcs; rw [List.map_append]; rfl)))))))  )
end
end Mine
namespace Mine
noncomputable def Pc.row : Pc → Row | .atom k => .sCon k | .reg r => .sVal r
noncomputable def setRows (l : List Pc) : List Row := l.map Pc.row
section
variable {c : Cx} {n : Nat}
inductive Sp_m_set_arguments (ps : List PV) (st : St) (Q : PV → St → Prop) : Prop
  | mk (b cd p : Addr) (rs : List Row) (nx : Int) (l : List Pc) (_ : ps = [.ref b, .ref p]) (_ : Bs st b cd rs nx) (_ : st.ls p = some (pcs l)) (_ : p ≠ cd) (_ : rs.length + l.length ≤ 500) (_ : ∀ st', Keep [cd] st st' → Bs st' b cd (rs ++ setRows l) nx → Q .none st') : Sp_m_set_arguments ps st Q
inductive InvS (b cd p : Addr) (l : List Pc) (rs : List Row) (nx : Int) (s0 : St) (i : Nat) (m' : Fm) (st' : St) : Prop
  | mk (p3 : Option PV) (hm : m' = [some (.ref b), some (.ref p), some (.int 0), p3]) (k1 : Keep [cd] s0 st') (B1 : Bs st' b cd (rs ++ setRows (l.take i)) nx)
theorem InvS.snoc {b cd p : Addr} {l : List Pc} {rs : List Row} {nx : Int} {s0 st' : St} {i : Nat} {p3 : Option PV} {y : Pc} (hy : l[i]? = some y) (k1 : Keep [cd] s0 st') {a1 a2 a3 a4 : PV} (H : BsA st' b cd (rs ++ setRows (l.take i)) nx a1 a2 a3 a4) :
    InvS b cd p l rs nx s0 (i + 1) [some (.ref b), some (.ref p), some (.int 0), p3] (st'.setL cd (code (rs ++ setRows (l.take i)) ++ [Row.pv tmp y.row])) :=
  ⟨_, rfl, k1.trans (keep_setL (.inl (.head _))), a1, a2, a3, a4, H.hb, by rw [take_snoc hy, code_snoc, List.append_assoc]; unfold setRows; rw [List.map_append]; exact ls_eq⟩
theorem ok_set_arguments (kf : KF c.K) : CodeOk c (n + 2) (.ref 296) Sp_m_set_arguments := co_set_arguments (n := n + 1) kf (h_m_emit := CodeOk.call (ok_emit kf)) (h_constant_cell := CodeOk.call (ok_constant_cell kf)) (fun ps st Q h => by
    obtain ⟨b, cd, p, rs, nx, l, rfl, hB, hp, hne, hl, h⟩ := h
    refine ⟨rfl, ?_⟩
    unfold w_set_arguments
    refine .inr ⟨p, _, rfl, hp, InvS b cd p l rs nx st, ⟨_, rfl, .rfl' _ _, by rw [List.take_zero]; exact (List.append_nil rs).symm ▸ hB⟩, fun i m' st' hI => ?_⟩
    obtain ⟨p3, hm, k1, B1⟩ := hI
    subst hm
    refine ⟨k1.ls (not1 hne) hp, fun x hx => ?_, fun hx => ?_⟩
    · obtain ⟨y, hy, rfl⟩ := map_get hx
      have hlt := get_lt hy
      obtain ⟨a1, a2, a3, a4, H⟩ := B1
      have hlr := code_lt (rs := rs ++ setRows (l.take i)) (by unfold setRows; rw [List.length_append, List.length_map, List.length_take]; (first | lia | omega))
      cases y with
      | atom q => exact ma_head (s := "a") (by decide +kernel) rfl rfl (step_f (EvT.cmp (Ev.subT (Ev.loc rfl) Ev.const rfl) Ev.const (gEq_ne (by decide +kernel))) (expr_methG (b := b) rfl H.hb ⟨q, rfl, b, cd, _, _, Row.pv tmp (.sCon q), rfl, H.hb, rfl, H.hc, hlr, rfl, lp_next (InvS.snoc hy k1 H)⟩))
      | reg q => exact ma_head (s := "t") (by decide +kernel) rfl rfl (step_t (EvT.cmp (Ev.subT (Ev.loc rfl) Ev.const rfl) Ev.const (gEq_str _)) (expr_meth (b := b) (ps := [Row.pv tmp (.sVal q)]) rfl H.hb (EvS.cons (Ev.tup (EvS.cons Ev.const (EvS.cons (Ev.loc rfl) EvS.nil)) rfl) EvS.nil) ⟨b, cd, _, _, _, rfl, H.hb, rfl, H.hc, hlr, rfl, lp_next (InvS.snoc hy k1 H)⟩))
    · rw [map_none hx] at B1
      exact step_f (EvT.cmp (Ev.loc rfl) Ev.const rfl) (skip_sq (st_end (h st' k1 B1))))
end
noncomputable def headB (l : List Arg) (r : Int) : Row := if fnum l.length = 0 then .putL r else .putS (fnum l.length) r
inductive BRun : List (Bool × Arg) → List Int → Int → List Row → Int → Prop
  | nil (regs : List Int) (nx : Int) : BRun [] regs nx [] nx
  | opn {l : List Arg} {rest : List (Bool × Arg)} {regs : List Int} {nx nx' : Int} {rows : List Row} : BRun (fal (ordP l) ++ (true, .sub l) :: rest) regs nx rows nx' → BRun ((false, .sub l) :: rest) regs nx rows nx'
  | shut {l : List Arg} {rest : List (Bool × Arg)} {regs own : List Int} {nx nx' : Int} {rows : List Row} : own.length = (ordP l).length → rest ≠ [] → BRun rest (regs ++ [nx]) (nx + 1) rows nx' →
      BRun ((true, .sub l) :: rest) (regs ++ own) nx (headB l nx :: setRows (pieces l own) ++ rows) nx'
  | last {l : List Arg} {regs own : List Int} {nx nx' : Int} {rows : List Row} : own.length = (ordP l).length → BRun [] (regs ++ [0]) nx rows nx' →
      BRun [(true, .sub l)] (regs ++ own) nx (headB l 0 :: setRows (pieces l own) ++ rows) nx'
/-- what stands on the stack can be served -/
noncomputable def Srv : List (Bool × Arg) → Nat → Prop
  | [], _ => True
  | (false, a) :: r, k => (∃ l, a = .sub l ∧ Arg.Good (.sub l)) ∧ Srv r (k + 1)
  | (true, a) :: r, k => (∃ l, a = .sub l ∧ Arg.Good (.sub l) ∧ (ordP l).length ≤ k ∧ Srv r (k - (ordP l).length + 1))
theorem Srv.fal : ∀ {l : List Arg} {r : List (Bool × Arg)} {k : Nat}, (∀ a ∈ l, ∃ x, a = .sub x ∧ Arg.Good (.sub x)) → Srv r (k + l.length) → Srv (fal l ++ r) k
  | [], r, k, _, h => h
  | a :: l, r, k, hg, h => ⟨hg a (.head _), Srv.fal (l := l) (fun x hx => hg x (.tail _ hx)) (by rw [List.length_cons] at h; rw [show k + 1 + l.length = k + (l.length + 1) by (first | lia | omega)]; exact h)⟩
noncomputable def wmeas : List (Bool × Arg) → Nat
  | [] => 0
  | (false, a) :: r => 2 * a.comp + wmeas r
  | (true, _) :: r => 1 + wmeas r
noncomputable def wrows : List (Bool × Arg) → Nat
  | [] => 0
  | (false, a) :: r => a.rows + wrows r
  | (true, .sub l) :: r => 1 + l.length + wrows r
  | (true, .atom _) :: r => wrows r
theorem wmeas_fal : ∀ (l : List Arg) (r : List (Bool × Arg)), wmeas (fal l ++ r) = 2 * comps l + wmeas r
  | [], r => by simp [fal, comps]
  | a :: l, r => by show 2 * a.comp + wmeas (fal l ++ r) = 2 * (a.comp + comps l) + wmeas r; rw [wmeas_fal l r]; (first | lia | omega)
theorem wrows_fal : ∀ (l : List Arg) (r : List (Bool × Arg)), wrows (fal l ++ r) = rowss l + wrows r
  | [], r => by simp [fal, rowss]
  | a :: l, r => by show a.rows + wrows (fal l ++ r) = a.rows + rowss l + wrows r; rw [wrows_fal l r]; (first | lia | omega)
theorem comps_append : ∀ a b : List Arg, comps (a ++ b) = comps a + comps b
  | [], b => by simp [comps]
  | x :: a, b => by show x.comp + comps (a ++ b) = x.comp + comps a + comps b; rw [comps_append a b]; (first | lia | omega)
theorem rowss_append : ∀ a b : List Arg, rowss (a ++ b) = rowss a + rowss b
  | [], b => by simp [rowss]
  | x :: a, b => by show x.rows + rowss (a ++ b) = x.rows + rowss a + rowss b; rw [rowss_append a b]; (first | lia | omega)
theorem comps_subs : ∀ l : List Arg, comps (subs l) = comps l
  | [] => rfl
  | .atom k :: r => by show comps (subs r) = 0 + comps r; rw [comps_subs r]; (first | lia | omega)
  | .sub k :: r => by show Arg.comp (.sub k) + comps (subs r) = _; rw [comps_subs r]; rfl
theorem rowss_subs : ∀ l : List Arg, rowss (subs l) = rowss l
  | [] => rfl
  | .atom k :: r => by show rowss (subs r) = 0 + rowss r; rw [rowss_subs r]; (first | lia | omega)
  | .sub k :: r => by show Arg.rows (.sub k) + rowss (subs r) = _; rw [rowss_subs r]; rfl
theorem ordP_comps (l : List Arg) : comps (ordP l) = comps l := by
  cases h : l.getLast? with
  | none => rw [List.getLast?_eq_none_iff] at h; subst h; rfl
  | some x =>
    obtain ⟨ys, rfl⟩ := List.getLast?_eq_some_iff.mp h
    unfold ordP
    rw [comps_append, List.dropLast_concat, comps_subs, comps_append]
    cases x with
    | atom k => rw [lastS_atom h]; simp [comps, Arg.comp]
    | sub k => rw [lastS_sub h]; (first | lia | omega)
theorem ordP_rowss (l : List Arg) : rowss (ordP l) = rowss l := by
  cases h : l.getLast? with
  | none => rw [List.getLast?_eq_none_iff] at h; subst h; rfl
  | some x =>
    obtain ⟨ys, rfl⟩ := List.getLast?_eq_some_iff.mp h
    unfold ordP
    rw [rowss_append, List.dropLast_concat, rowss_subs, rowss_append]
    cases x with
    | atom k => rw [lastS_atom h]; simp [rowss, Arg.rows]
    | sub k => rw [lastS_sub h]; (first | lia | omega)
theorem ordP_good {l : List Arg} (h : Arg.Good (.sub l)) : ∀ a ∈ ordP l, ∃ x, a = .sub x ∧ Arg.Good (.sub x) := fun a ha => by
  obtain ⟨h1, x, rfl⟩ := subs_mem (ordP_mem ha)
  exact ⟨x, rfl, Goods_mem h.2.2 h1⟩
theorem Srv.len : ∀ {s : List (Bool × Arg)} {k : Nat}, Srv s k → s.length ≤ wrows s
  | [], _, _ => Nat.le_refl _
  | (false, a) :: r, k, h => by
    obtain ⟨⟨l, rfl, _⟩, h2⟩ := h
    have := h2.len
    show r.length + 1 ≤ 1 + l.length + rowss l + wrows r
    (first | lia | omega)
  | (true, a) :: r, k, h => by
    obtain ⟨l, rfl, _, _, h2⟩ := h
    have := h2.len
    show r.length + 1 ≤ 1 + l.length + wrows r
    (first | lia | omega)
end Mine
namespace Mine
section
variable {c : Cx} {n : Nat}
inductive Sp_m_build (ps : List PV) (st : St) (Q : PV → St → Prop) : Prop
  | mk (b cd : Addr) (l : List Arg) (_ : ps = [.ref b, Arg.pv (.sub l), tmp 0]) (_ : Bs st b cd [] 1) (_ : Arg.Good (.sub l)) (_ : Arg.comp (.sub l) ≤ 13) (_ : ∀ st' rows nx', Keep [b, cd] st st' → BRun [(false, .sub l)] [] 1 rows nx' → Bs st' b cd rows nx' → Q .none st')
inductive InvB (b cd N M : Addr) (l : List Arg) (s0 : St) (kk : Nat) (m' : Fm) (st' : St) : Prop
  | mk (stack : List (Bool × Arg)) (regs : List Int) (rs : List Row) (nx : Int) (p5 p6 p7 p8 : Option PV) (e1 : kk = wmeas stack) (hm : m' = [some (.ref b), some (Arg.pv (.sub l)), some (tmp 0), some (.ref N), some (.ref M), p5, p6, p7, p8]) (g1 : Srv stack regs.length)
      (g2 : rs.length + wrows stack ≤ 60) (g3 : regs.length + wmeas stack ≤ 40) (k1 : Keep [b, cd, N, M] s0 st') (B1 : Bs st' b cd rs nx) (N1 : st'.ls N = some (wk stack).reverse) (M1 : st'.ls M = some (tmps regs)) (run : ∀ rows nx', BRun stack regs nx rows nx' → BRun [(false, .sub l)] [] 1 (rs ++ rows) nx')
theorem headB_pv (l : List Arg) (r : Int) : (fnum l.length = 0 → Row.pv tmp (headB l r) = .tup [.str "put_list", tmp r]) ∧ (fnum l.length ≠ 0 → Row.pv tmp (headB l r) = .tup [.str "put_structure", .int (fnum l.length), tmp r]) := by
  unfold headB
  exact ⟨fun h => by rw [if_pos h]; rfl, fun h => by rw [if_neg h]; rfl⟩
theorem tmps_snoc (a : List Int) (r : Int) : tmps a ++ [tmp r] = tmps (a ++ [r]) := by unfold tmps; rw [List.map_append]; rfl
theorem pieces_ln {al : List Arg} (h : 1 ≤ al.length) (own : List Int) : (pieces al own).length = al.length := by
  obtain ⟨z, hz, _⟩ := last_pv h
  unfold pieces
  rw [List.length_append, fill_length, fill_length]
  unfold lastL; rw [hz]
  rw [List.length_dropLast]
  exact Nat.sub_add_cancel h
theorem setRows_len (l : List Pc) : (setRows l).length = l.length := List.length_map _
/-- the end of a turn: the instruction, its arguments, the register -/
theorem build_tail {b cd N M p : Addr} {s0 st3 : St} {l al : List Arg} {rest : List (Bool × Arg)} {rg own : List Int} {rs : List Row} {nx1 r : Int} {a1 a2 a3 a4 : PV} {p5 : Option PV} {Q : Fl → Fm → St → Prop} (hcM : cd ≠ M) (hcN : cd ≠ N) (hNM : N ≠ M) (hbM : b ≠ M) (hcp : p ≠ cd)
    (b3 : st3.ins b = some (306, bdF a1 a2 (.ref cd) a3 a4 nx1)) (c3 : st3.ls cd = some (code rs)) (N3 : st3.ls N = some (wk rest).reverse) (M3 : st3.ls M = some (tmps rg)) (p3 : st3.ls p = some (pcs (pieces al own))) (k3 : Keep [b, cd, N, M] s0 st3)
    (ga : 1 ≤ al.length) (h60 : rs.length + (1 + al.length + wrows rest) ≤ 60) (h40 : rg.length + 1 + wmeas rest ≤ 40) (hs : Srv rest (rg.length + 1)) (run : ∀ rows nx', BRun rest (rg ++ [r]) nx1 rows nx' → BRun [(false, .sub l)] [] 1 (rs ++ (headB al r :: setRows (pieces al own) ++ rows)) nx')
    (hQ : ∀ m st4, InvB b cd N M l s0 (wmeas rest) m st4 → Q .next m st4) :
    W.seq (W.ite (W.cmpT gEq (W.subT (W.loc 6) (W.const (.int 1))) (W.const (.int 0))) (W.seq (W.expr (W.meth 306 Sp_emit (W.loc 0) (W.cons (W.tup (W.cons (W.const (.str "put_list")) (W.cons (W.loc 8) W.nil))) W.nil))) W.skip)
      (W.seq (W.expr (W.meth 306 Sp_emit (W.loc 0) (W.cons (W.tup (W.cons (W.const (.str "put_structure")) (W.cons (W.subT (W.loc 6) (W.const (.int 1))) (W.cons (W.loc 8) W.nil)))) W.nil))) W.skip))
    (W.seq (W.expr (W.meth 306 Sp_m_set_arguments (W.loc 0) (W.cons (W.loc 7) W.nil))) (W.seq (W.expr (W.methB isL Sp.append (W.loc 4) (W.cons (W.loc 8) W.nil))) W.skip))
    [some (.ref b), some (Arg.pv (.sub l)), some (tmp 0), some (.ref N), some (.ref M), p5, some (.tup [.str "s", .int (fnum al.length), .tup (pvs al)]), some (.ref p), some (tmp r)] st3 Q := by
  have hpl := pieces_ln ga own
  refine ite_emit (ins := Row.pv tmp (headB al r)) rfl rfl rfl b3 rfl c3 (code_lt (by (first | lia | omega))) (headB_pv al r).1 (headB_pv al r).2 (expr_meth (ps := [.ref p]) rfl b3 (fun R h => h) ⟨b, cd, p, rs ++ [headB al r], nx1, pieces al own, rfl, ⟨a1, a2, a3, a4, b3, code_snoc rs _ ▸ ls_eq⟩, ls_ne hcp p3, hcp, ?_, fun st4 k4 B4 => ⟨rfl, ?_⟩⟩)
  · rw [List.length_append, hpl]; show rs.length + 1 + al.length ≤ 500; (first | lia | omega)
  have k34 : Keep [cd] st3 st4 := (keep_setL (.inl (.head _))).trans k4
  refine app_step rfl (k34.ls (not1 (Ne.symm hcM)) M3) (fun R h => h) (by unfold tmps; rw [List.length_map]; (first | lia | omega)) (hQ _ _ ⟨rest, rg ++ [r], _, _, _, _, _, _, rfl, rfl, by rw [List.length_append]; exact hs, ?_, by rw [List.length_append]; exact h40,
    (k3.trans (k34.mono fun x hx => by cases hx with | head => exact .tail _ (.head _) | tail _ h => cases h)).trans (keep_setL (.inl (.tail _ (.tail _ (.tail _ (.head _)))))), B4.keep (X := [M]) (keep_setL (.inl (.head _))) (not1 hbM) (not1 hcM), ls_ne hNM (k34.ls (not1 (Ne.symm hcN)) N3), tmps_snoc rg r ▸ ls_eq, fun rows nx' hrun => ?_⟩)
  · rw [List.length_append, List.length_append, setRows_len, hpl]; show rs.length + 1 + al.length + wrows rest ≤ 60; (first | lia | omega)
  · rw [List.append_assoc, List.append_assoc]; exact run rows nx' hrun
theorem build_open {b cd N M : Addr} {s0 st' : St} {l al : List Arg} {rest : List (Bool × Arg)} {regs : List Int} {rs : List Row} {nx : Int} {p5 p6 p7 p8 : Option PV} {Q : PV → St → Prop} (hcN : cd ≠ N) (hNM : N ≠ M) (hbN : b ≠ N) (ga : Arg.Good (.sub al)) (hs : Srv rest (regs.length + 1))
    (g2 : rs.length + (1 + al.length + rowss al + wrows rest) ≤ 60) (g3 : regs.length + (2 * (1 + comps al) + wmeas rest) ≤ 40) (k1 : Keep [b, cd, N, M] s0 st') (B1 : Bs st' b cd rs nx) (M1 : st'.ls M = some (tmps regs)) (run : ∀ rows nx', BRun ((false, .sub al) :: rest) regs nx rows nx' → BRun [(false, .sub l)] [] 1 (rs ++ rows) nx') (hlen : (wk rest).length ≤ 60)
    (hQ : ∀ st4, InvB b cd N M l s0 (2 * comps al + (1 + wmeas rest)) [some (.ref b), some (Arg.pv (.sub l)), some (tmp 0), some (.ref N), some (.ref M), p5, p6, p7, p8] st4 → Q .none st4) :
    Sp_m_wait_for_nested [.ref b, .tup (pvs al), .ref N] ((st'.setL N (wk rest).reverse).setL N ((wk rest).reverse ++ [wkPV (true, .sub al)])) Q := by
  refine ⟨b, N, al, _, rfl, ls_eq, ga.1, ga.2.1, by rw [List.length_append, List.length_reverse]; show (wk rest).length + 1 ≤ 500; (first | lia | omega), fun st2 k2 w2 => hQ st2 ?_⟩
  have kN : Keep [N] st' st2 := ((keep_setL (.inl (.head _))).trans (keep_setL (.inl (.head _)))).trans k2
  refine ⟨fal (ordP al) ++ (true, .sub al) :: rest, regs, rs, nx, _, _, _, _, ?_, rfl, ?_, ?_, ?_, k1.trans (kN.mono fun x hx => by cases hx with | head => exact .tail _ (.tail _ (.head _)) | tail _ h => cases h), B1.keep kN (not1 hbN) (not1 hcN), ?_, kN.ls (not1 (Ne.symm hNM)) M1, fun rows nx' hrun => run rows nx' (.opn hrun)⟩
  · rw [wmeas_fal, ordP_comps]; rfl
  · refine Srv.fal (ordP_good ga) ⟨al, rfl, ga, Nat.le_add_left _ _, ?_⟩
    rw [Nat.add_sub_cancel]; exact hs
  · rw [wrows_fal, ordP_rowss]
    show rs.length + (rowss al + (1 + al.length + wrows rest)) ≤ 60
    (first | lia | omega)
  · rw [wmeas_fal, ordP_comps]
    show regs.length + (2 * comps al + (1 + wmeas rest)) ≤ 40
    (first | lia | omega)
  · rw [w2]; simp [wk]
theorem Srv.split {al : List Arg} {regs : List Int} (h : (ordP al).length ≤ regs.length) : ∃ rg own, regs = rg ++ own ∧ own.length = (ordP al).length :=
  ⟨regs.take (regs.length - (ordP al).length), regs.drop (regs.length - (ordP al).length), (List.take_append_drop _ _).symm, by rw [List.length_drop, Nat.sub_sub_self h]⟩
theorem wk_pop (x : Bool × Arg) (rest : List (Bool × Arg)) : (wk (x :: rest)).reverse = (wk rest).reverse ++ [wkPV x] := List.reverse_cons
theorem keep4 {b cd N M : Addr} {st st' : St} {ps qs : List PV} (hN : st.free N) (hM : (st.setL N ps).free M) (hM' : st.free M) (k : Keep [b, cd, N, M] ((st.setL N ps).setL M qs) st') : Keep [b, cd] st st' := fun b' mo hb q =>
  k b' mo (notC (fun e => hb (e ▸ .head _)) (notC (fun e => hb (e ▸ .tail _ (.head _))) (notC (fun e => hN mo (e ▸ q)) (not1 (fun e => hM' mo (e ▸ q)))))) (keep_setL (X := []) (.inr hM) b' mo not0 (keep_setL (X := []) (.inr hN) b' mo not0 q))
theorem ok_build (kf : KF c.K) : CodeOk c (n + 3) (.ref 275) Sp_m_build := co_build (n := n + 2) kf (h_m_wait_for_nested := CodeOk.call (ok_wait_for_nested (n := n + 1) kf)) (h_m_take_nested := CodeOk.call (ok_take_nested (n := n + 1) kf)) (h_m_new_temporary := CodeOk.call (ok_new_temporary (n := n + 1) kf)) (h_m_emit := CodeOk.call (ok_emit (n := n + 1) kf)) (h_m_set_arguments := CodeOk.call (ok_set_arguments kf)) (fun ps st Q h => by
    obtain ⟨b, cd, l, rfl, hB, hG, hC, h⟩ := h
    refine ⟨rfl, ?_⟩
    unfold w_build
    intro N hN M hM
    have hR := rows_comp _ hG
    obtain ⟨a1, a2, a3, a4, H⟩ := id hB
    have hNc := free_ne_ls hN H.hc
    have hbN := free_ne_ins hN H.hb
    have hNM : N ≠ M := free_ne_ls hM ls_eq
    have hM' : st.free M := free_back (keep_setL (X := []) (.inr hN)) not0 hM
    have hMc := free_ne_ls hM' H.hc
    have hbM := free_ne_ins hM' H.hb
    refine ⟨InvB b cd N M l _, ⟨_, [(false, .sub l)], [], [], 1, _, _, _, _, rfl, rfl, ⟨⟨l, rfl, hG⟩, trivial⟩, ?_, ?_, .rfl' _ _, ?_, ls_ne hNM ls_eq, ls_eq, fun rows nx' z => z⟩, fun kk m' st' hI => ?_⟩
    · show 0 + ((1 + l.length + rowss l) + 0) ≤ 60; exact Nat.le_trans (by rw [Nat.zero_add]; exact Nat.le_trans hR (Nat.mul_le_mul_left 4 hC)) (by decide)
    · show 0 + (2 * Arg.comp (.sub l) + 0) ≤ 40; (first | lia | omega)
    · exact (hB.keep (X := []) (keep_setL (.inr hN)) not0 not0).keep (X := []) (keep_setL (.inr hM)) not0 not0
    obtain ⟨stack, regs, rs, nx, p5, p6, p7, p8, e1, hm, g1, g2, g3, k1, B1, N1, M1, run⟩ := hI
    subst hm
    refine orF_of (gLen_ls N1) ?_
    cases stack with
    | nil =>
      have hrun := run [] nx (.nil regs nx)
      rw [List.append_nil] at hrun
      exact st_end (h st' rs nx (keep4 hN hM hM' k1) hrun B1)
    | cons x rest =>
      have hsl := g1.len
      have hwl : (wk rest).length ≤ 60 := by unfold wk; rw [List.length_map]; rw [List.length_cons] at hsl; (first | lia | omega)
      refine br_t (decide_eq_true (by rw [wk_pop, List.length_append]; exact Int.natCast_pos.mpr (Nat.succ_pos _))) ?_
      obtain ⟨flag, x1⟩ := x
      cases flag with
      | false =>
        obtain ⟨⟨al, rfl, ga⟩, g1'⟩ := g1
        obtain ⟨a1, a2, a3, a4, H⟩ := id B1
        refine asgT_pop (p := .bool false) (q := Arg.pv (.sub al)) rfl N1 (wk_pop _ _) ?_
        refine ite_yes (fun R h => h) (app_step (xs := (wk rest).reverse) (p := wkPV (true, .sub al)) rfl ls_eq (fun R h => h) (by rw [List.length_reverse]; (first | lia | omega)) (expr_meth (b := b) (ps := [.tup (pvs al), .ref N]) rfl H.hb (fun R h => h) ?_))
        exact build_open hNc hNM hbN ga g1' g2 g3 k1 B1 M1 run hwl fun st4 hI => ⟨rfl, wp_next (by rw [e1]; show _ < 2 * (1 + comps al) + wmeas rest; (first | lia | omega)) hI⟩
      | true =>
        obtain ⟨al, rfl, ga, gk, g1'⟩ := g1
        obtain ⟨a1, a2, a3, a4, H⟩ := id B1
        obtain ⟨rg, own, rfl, hown⟩ := Srv.split gk
        rw [List.length_append, hown, Nat.add_sub_cancel] at g1'
        rw [List.length_append] at g3
        have h40 : rg.length + 1 + wmeas rest ≤ 40 := by have : rg.length + own.length + (1 + wmeas rest) ≤ 40 := g3; (first | lia | omega)
        refine asgT_pop (p := .bool true) (q := Arg.pv (.sub al)) rfl N1 (wk_pop _ _) ?_
        refine ite_no (fun R h => h) (asg_meth (b := b) (ps := [.tup (pvs al), .ref M]) rfl H.hb (fun R h => h) ⟨b, M, al, tmps rg, own, rfl, ls_ne (Ne.symm hNM) (M1.trans (by unfold tmps; rw [List.map_append])), hown, ga.1, ga.2.1, fun st2 p k2 fp M2 p2 => ?_⟩)
        have N2 : st2.ls N = some (wk rest).reverse := k2.ls (not1 hNM) ls_eq
        have c2 : st2.ls cd = some (code rs) := k2.ls (not1 hMc) (ls_ne hNc H.hc)
        have b2 : st2.ins b = some (306, bdF a1 a2 (.ref cd) a3 a4 nx) := k2.ins (not1 hbM) H.hb
        have hcp : p ≠ cd := Ne.symm (free_ne_ls fp (ls_ne hNc H.hc))
        have kk2 := (k1.trans (keep_setL (.inl (.tail _ (.tail _ (.head _)))))).trans (k2.mono fun x hx => by cases hx with | head => exact .tail _ (.tail _ (.tail _ (.head _))) | tail _ h => cases h)
        have hms : wmeas rest < kk := by rw [e1]; exact Nat.lt_add_of_pos_left Nat.one_pos
        refine orF_of (gLen_ls N2) ?_
        cases rest with
        | nil => exact build_tail hMc hNc hNM hbM hcp b2 c2 N2 M2 p2 kk2 ga.1 g2 h40 g1' (fun rows nx' hrun => run _ _ (.last hown hrun)) fun m st4 hI => wp_next hms hI
        | cons y rest =>
          refine br_f (decide_eq_false (by rw [wk_pop, List.length_append]; exact fun e => Nat.succ_ne_zero _ (Int.ofNat.inj e))) ?_
          refine asg_meth (b := b) (ps := []) rfl b2 (fun R h => h) ⟨b, _, nx, rfl, b2, Nat.le_of_ble_eq_true rfl, rfl, ?_⟩
          exact build_tail (nx1 := nx + 1) hMc hNc hNM hbM hcp ins_eq c2 N2 M2 p2 (kk2.trans (keep_setI (.inl (.head _)))) ga.1 g2 h40 g1' (fun rows nx' hrun => run _ _ (.shut hown (List.cons_ne_nil _ _) hrun)) fun m st4 hI => wp_next hms hI)
end
end Mine
namespace Mine
structure Oc where
  a : Addr
  n : Int
  i : Int
  j : Int
noncomputable def Oc.lap (x y : Oc) : Bool := decide (x.i < y.j ∧ y.i < x.j)
noncomputable def Oc.at (st : St) (o : Oc) : Prop := st.ins o.a = some (563, ocF "temp" o.n o.i o.j)
noncomputable def refs (l : List Oc) : List PV := l.map fun o => .ref o.a
/-- the ones that have a register -/
noncomputable def regs (A : List (Oc × Int)) (r : Int) : List Oc := (A.filter fun p => decide (p.2 = r)).map (·.1)
noncomputable def freeIn (A : List (Oc × Int)) (o : Oc) (r : Int) : Bool := (regs A r).all fun p => !o.lap p
structure RFst (st0 st : St) (f T H : Addr) (A : List (Oc × Int)) (fT fH : Nat × (Int → Option PV)) : Prop where
  ins : st.ins f = some (624, [(23, .ref T), (24, .ref H)])
  ft : st.di T = some fT
  fh : st.di H = some fH
  ne : T ≠ H
  lt : fT.1 ≤ A.length
  lh : fH.1 ≤ A.length
  look : ∀ r, (fT.2 r = none ∧ regs A r = []) ∨ ∃ L, fT.2 r = some (.ref L) ∧ st.ls L = some (refs (regs A r)) ∧ st0.free L
  inj : ∀ r s L, fT.2 r = some (.ref L) → fT.2 s = some (.ref L) → r = s
  occ : ∀ p ∈ A, p.1.at st
  home : ∀ p ∈ A, fH.2 p.1.n = some (.int p.2)
inductive RF (st0 st : St) (f T H : Addr) (A : List (Oc × Int)) : Prop
  | mk (fT fH : Nat × (Int → Option PV)) (R : RFst st0 st f T H A fT fH)
theorem RF.keep {st0 st st' : St} {f T H : Addr} {A : List (Oc × Int)} (h : RF st0 st f T H A) (k : Keep [] st st') : RF st0 st' f T H A := by
  obtain ⟨fT, fH, R⟩ := h
  exact ⟨fT, fH, k.ins not0 R.ins, k.di not0 R.ft, k.di not0 R.fh, R.ne, R.lt, R.lh, fun r => (R.look r).imp id (fun ⟨L, e1, e2, e3⟩ => ⟨L, e1, k.ls not0 e2, e3⟩), R.inj, fun p hp => k.ins not0 (R.occ p hp), R.home⟩
section
variable {c : Cx} {n : Nat}
theorem setA_di {C : Addr} {k i : Nat} {rest : WS} {m : Fm} {st : St} {Q : Fl → Fm → St → Prop} {b : Addr} {fs : List (Nat × PV)} (ho : lk m i = some (.ref b)) (hb : st.ins b = some (C, fs)) (hl : fs.length ≤ 100) (h : ∀ a, st.free a → rest m ((st.setDi a (0, fun _ => none)).setI b C (setF k (.ref a) fs)) Q) :
    W.seq (W.setA C k (W.loc i) W.dictDi) rest m st Q := fun a ha => orF_of ho (orF_of (insOf_eq (st := st.setDi a _) hb) ⟨hl, h a ha⟩)
theorem for_getDi {C : Addr} {k i j : Nat} {t : WA} {b rest : WS} {m : Fm} {st : St} {Q : Fl → Fm → St → Prop} {f T : Addr} {fs : List (Nat × PV)} {x : Int} {fn : Nat × (Int → Option PV)} (hi : lk m i = some (.ref f)) (hb : st.ins f = some (C, fs)) (hf : getF k fs = some (.ref T)) (hj : lk m j = some (.int x)) (hT : st.di T = some fn)
    (h : ∀ E, st.free E → ∃ L ps, (fn.2 x).getD (.ref E) = .ref L ∧ (st.setL E []).ls L = some ps ∧ W.loop (fun st => st.ls L = some ps) ps t b m (st.setL E []) (sq rest Q) ⟨⟩) : W.seq (W.for (W.methB isDi (Sp.fn gGetDi) (W.attr C k (W.loc i)) (W.cons (W.loc j) (W.cons (W.list W.nil) W.nil))) t b) rest m st Q :=
  orF_of hi (orF_of ((getA_eq hb).trans hf) ⟨T, rfl, isDi_eq hT, orF_of hj (fun E hE => by
    obtain ⟨L, ps, e1, e2, w⟩ := h E hE
    exact orF_of ((gGetDi_eq (st := st.setL E []) hT).trans (congrArg some e1)) (.inr ⟨L, ps, rfl, e2, w⟩))⟩)
theorem val_meth {C : Addr} {S : Spec} {i : Nat} {ws : WEs} {a b' rest : WS} {m : Fm} {st : St} {Q : Fl → Fm → St → Prop} {b : Addr} {fs : List (Nat × PV)} {ps : List PV} (hi : lk m i = some (.ref b)) (hb : st.ins b = some (C, fs)) (hw : EvS ws m st ps)
    (h : S (.ref b :: ps) st fun p st1 => orF (isB p) fun v => br v (a m st1 (sq rest Q)) (b' m st1 (sq rest Q))) : W.seq (W.ite (W.valT (W.meth C S (W.loc i) ws)) a b') rest m st Q := meth_of hi hb hw h
theorem occ_step {C : Addr} {k i j l : Nat} {rest : WS} {m : Fm} {st : St} {Q : Fl → Fm → St → Prop} {f T : Addr} {fs : List (Nat × PV)} {x : Int} {p : PV} {fn : Nat × (Int → Option PV)} (hi : lk m i = some (.ref f)) (hb : st.ins f = some (C, fs)) (hf : getF k fs = some (.ref T)) (hj : lk m j = some (.int x)) (hl : lk m l = some p) (hT : st.di T = some fn) (hn : fn.1 ≤ 1000)
    (h1 : ∀ E v, st.free E → fn.2 x = some v → ∃ L ps, v = .ref L ∧ (st.setL E []).ls L = some ps ∧ ps.length < 1000000 ∧ rest m ((st.setL E []).setL L (ps ++ [p])) Q) (h2 : ∀ E, st.free E → fn.2 x = none → rest m (((st.setL E []).setDi T (fn.1 + 1, upd fn.2 x (.ref E))).setL E [p]) Q) :
    W.seq (W.expr (W.methB isL Sp.append (W.methB isDi Sp.setdef (W.attr C k (W.loc i)) (W.cons (W.loc j) (W.cons (W.list W.nil) W.nil))) (W.cons (W.loc l) W.nil))) rest m st Q :=
  orF_of hi (orF_of ((getA_eq hb).trans hf) ⟨T, rfl, isDi_eq hT, orF_of hj (fun E hE => ⟨T, x, .ref E, fn, rfl, hT, hn, fun v hv => by
    obtain ⟨L, ps, rfl, e2, e3, q⟩ := h1 E v hE hv
    exact ⟨L, rfl, isL_eq e2, orF_of hl ⟨L, p, ps, rfl, e2, e3, rfl, q⟩⟩, fun hv => ⟨E, rfl, isL_eq (st := (st.setL E []).setDi T _) ls_eq, orF_of hl ⟨E, p, [], rfl, ls_eq, (by decide), rfl, h2 E hE hv⟩⟩⟩)⟩)
inductive Sp_RF (ps : List PV) (st : St) (Q : PV → St → Prop) : Prop
  | mk  (_ : ps = []) (_ : ∀ f T H st', st.free f → st.free T → st.free H → Keep [] st st' → T ≠ H → st'.ins f = some (624, [(23, .ref T), (24, .ref H)]) → st'.di T = some (0, fun _ => none) → st'.di H = some (0, fun _ => none) → Q (.ref f) st') : Sp_RF ps st Q
inductive Sp_RF_init (ps : List PV) (st : St) (Q : PV → St → Prop) : Prop
  | mk (f) (_ : ps = [.ref f]) (_ : st.ins f = some (624, [])) (_ : ∀ st' T H, Keep [f] st st' → st.free T → st.free H → T ≠ H → st'.ins f = some (624, [(23, .ref T), (24, .ref H)]) → st'.di T = some (0, fun _ => none) → st'.di H = some (0, fun _ => none) → Q .none st') : Sp_RF_init ps st Q
theorem ok_RF_init (kf : KF c.K) : CodeOk c (n + 1) (.ref 593) Sp_RF_init := co_RF_init kf (fun ps st Q h => by
  obtain ⟨f, rfl, h1, h⟩ := h
  refine ⟨rfl, ?_⟩
  unfold w_RF_init
  refine setA_di rfl h1 (Nat.zero_le _) fun T hT => setA_di rfl ins_eq (Nat.le_of_ble_eq_true rfl) fun H hH => ?_
  have hTH : T ≠ H := free_ne_di (st := (st.setDi T (0, fun x => none)).setI f 624 _) hH di_eq
  have hfT : f ≠ T := free_ne_ins hT h1
  have hH' : st.free H := fun mo q => by
    have hHf : H ≠ f := fun e => hH (.inst 624 [(23, .ref T)]) (by rw [e]; exact ins_eq)
    exact hH mo (keep_setI (X := [f]) (.inl (.head _)) H mo (not1 hHf) (keep_setDi (X := []) (.inr hT) H mo not0 q))
  exact st_end (h _ T H ((((keep_setDi (.inr hT)).trans (keep_setI (.inl (.head _)))).trans (keep_setDi (.inr hH))).trans (keep_setI (.inl (.head _)))) hT hH' hTH ins_eq (di_ne hTH di_eq) di_eq))
theorem ok_RF (kf : KF c.K) : CodeOk c (n + 2) (.ref 624) Sp_RF := fun _ _ _ _ _ _ _ _ _ _ rm R V hs => CodeOk.cls kf.c_624 (ok_RF_init kf) rm R V (by
  obtain ⟨rfl, h⟩ := hs
  intro a ha
  exact ⟨a, rfl, ins_eq, fun st' T H k fT fH ne e1 e2 e3 => ⟨rfl, h a T H st' ha (free_back (keep_setI (X := []) (.inr ha)) not0 fT) (free_back (keep_setI (X := []) (.inr ha)) not0 fH) (keep_free ha k) ne e1 e2 e3⟩⟩)
theorem rf0 {st0 st : St} {f T H : Addr} (ne : T ≠ H) (e1 : st.ins f = some (624, [(23, .ref T), (24, .ref H)])) (e2 : st.di T = some (0, fun _ => none)) (e3 : st.di H = some (0, fun _ => none)) : RF st0 st f T H [] := by
  refine ⟨_, _, e1, e2, e3, ne, Nat.le_refl _, Nat.le_refl _, fun r => .inl ⟨rfl, rfl⟩, ?_, ?_, ?_⟩
  · intro r s L e; cases e
  · intro p hp; cases hp
  · intro p hp; cases hp
inductive Sp_m_wished (ps : List PV) (st : St) (Q : PV → St → Prop) : Prop
  | mk (f) (o) (w) (_ : ps = [f, o, .ref w]) (_ : st.ls w = some []) (_ : Q (.int 0) st) : Sp_m_wished ps st Q
theorem ok_wished (kf : KF c.K) : CodeOk c (n + 1) (.ref 614) Sp_m_wished := co_wished kf (fun ps st Q h => by
  obtain ⟨f, o, w, rfl, h1, h⟩ := h
  refine ⟨rfl, ?_⟩
  unfold w_wished
  exact .inr ⟨w, [], rfl, h1, loop_nil h1 (step_ret Ev.const (st_end h))⟩)
inductive Sp_m_is_free (ps : List PV) (st : St) (Q : PV → St → Prop) : Prop
  | mk (st0 : St) (f T H : Addr) (A : List (Oc × Int)) (r : Int) (o : Oc) (_ : ps = [.ref f, .int r, .ref o.a]) (_ : RF st0 st f T H A) (_ : o.at st) (_ : ∀ st', Keep [] st st' → Q (.bool (freeIn A o r)) st') : Sp_m_is_free ps st Q
inductive InvF (f L : Addr) (A : List (Oc × Int)) (r : Int) (o : Oc) (st : St) (i : Nat) (m' : Fm) (st' : St) : Prop
  | mk (p3 : Option PV) (hm : m' = [some (.ref f), some (.int r), some (.ref o.a), p3]) (k1 : Keep [] st st') (l1 : st'.ls L = some (refs (regs A r))) (b1 : ∀ p ∈ (regs A r).take i, o.lap p = false)
theorem ok_is_free (kf : KF c.K) : CodeOk c (n + 2) (.ref 607) Sp_m_is_free := co_is_free (n := n + 1) kf (h_m_overlaps := CodeOk.call (ok_overlaps kf)) (fun ps st Q h => by
  obtain ⟨st0, f, T, H, A, r, o, rfl, ⟨fT, fH, R⟩, ho, h⟩ := h
  refine ⟨rfl, ?_⟩
  unfold w_is_free
  refine for_getDi rfl R.ins (T := T) rfl rfl R.ft fun E hE => ?_
  -- the list that is walked
  obtain ⟨L, eL, hL⟩ : ∃ L, (fT.2 r).getD (.ref E) = .ref L ∧ (st.setL E []).ls L = some (refs (regs A r)) := by
    rcases R.look r with ⟨e1, e2⟩ | ⟨L, e1, e2, _⟩
    · exact ⟨E, by rw [e1]; rfl, by rw [e2]; exact ls_eq⟩
    · exact ⟨L, by rw [e1]; rfl, ls_ne (free_ne_ls hE e2) e2⟩
  refine ⟨L, _, eL, hL, InvF f L A r o st, ⟨_, rfl, keep_setL (.inr hE), hL, fun _ h => nomatch h⟩, fun i m' st' hI => ?_⟩
  obtain ⟨p3, hm, k1, l1, b1⟩ := hI
  subst hm
  refine ⟨l1, fun x hx => ?_, fun hx => ?_⟩
  · obtain ⟨y, hy, rfl⟩ := map_get hx
    have hm := List.mem_of_getElem? hy
    obtain ⟨p, hp, rfl⟩ := List.mem_map.mp (show y ∈ (A.filter fun p => decide (p.2 = r)).map (·.1) from hm)
    refine val_meth (b := o.a) (ps := [.ref p.1.a]) rfl (k1.ins not0 ho) (EvS.cons (Ev.loc rfl) EvS.nil) ⟨o.a, p.1.a, _, _, _, _, _, _, rfl, k1.ins not0 ho, k1.ins not0 (R.occ p (List.mem_filter.mp hp).1), rfl, rfl, rfl, rfl, br_intro (fun q => ?_) (fun q => skip_sq (lp_next ⟨_, rfl, k1, l1, fun x hx => ?_⟩))⟩
    · have hf : freeIn A o r = false := List.all_eq_false.mpr ⟨p.1, hm, by rw [show o.lap p.1 = true from q]; exact Bool.false_ne_true⟩
      exact st_end (hf ▸ h st' k1)
    · rw [take_snoc hy] at hx
      rcases List.mem_append.mp hx with hx | hx
      · exact b1 x hx
      · rw [List.mem_singleton.mp hx]; exact q
  · rw [map_none hx] at b1
    have hf : freeIn A o r = true := List.all_eq_true.mpr fun p hp => by rw [b1 p hp]; rfl
    exact step_ret Ev.const (st_end (hf ▸ h st' k1)))
inductive Sp_m_occupy (ps : List PV) (st : St) (Q : PV → St → Prop) : Prop
  | mk (st0 : St) (f T H : Addr) (A : List (Oc × Int)) (fT fH : Nat × (Int → Option PV)) (r : Int) (o : Oc) (_ : ps = [.ref f, .int r, .ref o.a]) (_ : RFst st0 st f T H A fT fH) (_ : A.length ≤ 500) (_ : (∀ b mo, st0.has b mo → b ≠ T → b ≠ H → st.has b mo)) (_ : ∀ st' fT', (∀ b mo, st0.has b mo → b ≠ T → b ≠ H → st'.has b mo) → st'.ins = st.ins → st'.di H = some fH → st'.di T = some fT' → fT'.1 ≤ A.length + 1 →
     (∀ s, (fT'.2 s = none ∧ regs (A ++ [(o, r)]) s = []) ∨ ∃ L, fT'.2 s = some (.ref L) ∧ st'.ls L = some (refs (regs (A ++ [(o, r)]) s)) ∧ st0.free L) → (∀ r s L, fT'.2 r = some (.ref L) → fT'.2 s = some (.ref L) → r = s) → Q .none st') : Sp_m_occupy ps st Q
theorem regs_snoc_eq (A : List (Oc × Int)) (o : Oc) (r : Int) : regs (A ++ [(o, r)]) r = regs A r ++ [o] := by
  unfold regs; rw [List.filter_append]; simp
theorem regs_snoc_ne (A : List (Oc × Int)) (o : Oc) {r s : Int} (h : s ≠ r) : regs (A ++ [(o, r)]) s = regs A s := by
  unfold regs; rw [List.filter_append]
  have : ¬ r = s := fun e => h e.symm
  simp [this]
theorem regs_le (A : List (Oc × Int)) (r : Int) : (regs A r).length ≤ A.length := by
  unfold regs; rw [List.length_map]; exact List.length_filter_le _ _
theorem ok_occupy (kf : KF c.K) : CodeOk c (n + 1) (.ref 600) Sp_m_occupy := co_occupy kf (fun ps st Q h => by
  obtain ⟨st0, f, T, H, A, fT, fH, r, o, rfl, R, hA, hb, h⟩ := h
  refine ⟨rfl, ?_⟩
  have hrl := regs_le A r
  unfold w_occupy
  have hET : ∀ {E}, st.free E → T ≠ E := fun hE => free_ne_di hE R.ft
  refine occ_step rfl R.ins (T := T) rfl rfl rfl R.ft (by have := R.lt; (first | lia | omega)) (fun E v hE hv => ?_) (fun E hE hv => ?_)
  · rcases R.look r with ⟨e1, _⟩ | ⟨L, e1, e2, e3⟩
    · rw [e1] at hv; cases hv
    · rw [e1] at hv; cases hv
      have hLE := free_ne_ls hE e2
      refine ⟨L, _, rfl, ls_ne hLE e2, by unfold refs; rw [List.length_map]; (first | lia | omega), st_end (h _ fT (fun b mo q hbT hbH => ?_) rfl R.fh R.ft (Nat.le_succ_of_le R.lt) (fun s => ?_) R.inj)⟩
      · exact keep_setL (X := [L]) (.inl (.head _)) b mo (not1 fun e => e3 mo (e ▸ q)) (keep_setL (X := []) (.inr hE) b mo not0 (hb b mo q hbT hbH))
      · by_cases hs : s = r
        · subst hs
          rw [regs_snoc_eq]
          exact .inr ⟨L, e1, ls_eq.trans (by unfold refs; rw [List.map_append]; rfl), e3⟩
        · rw [regs_snoc_ne A o hs]
          exact (R.look s).imp id fun ⟨L2, q1, q2, q3⟩ => ⟨L2, q1, ls_ne (fun e => hs (R.inj s r L (e ▸ q1) e1)) (ls_ne (free_ne_ls hE q2) q2), q3⟩
  · have hr0 : regs A r = [] := by
      rcases R.look r with ⟨_, e⟩ | ⟨L, e1, _⟩
      · exact e
      · rw [e1] at hv; cases hv
    have hE0 : st0.free E := fun mo q => hE mo (hb E mo q (fun e => hET hE e.symm) (Ne.symm (free_ne_di hE R.fh)))
    have noE : ∀ s, fT.2 s ≠ some (.ref E) := fun s e => by
      rcases R.look s with ⟨q1, _⟩ | ⟨L2, q1, q2, _⟩
      · rw [q1] at e; cases e
      · rw [q1] at e; cases e; exact free_ls hE q2
    refine st_end (h _ (fT.1 + 1, upd fT.2 r (.ref E)) (fun b mo q hbT hbH => ?_) rfl (di_ne (Ne.symm R.ne) R.fh) di_eq (Nat.succ_le_succ R.lt) (fun s => ?_) (fun a b L e1 e2 => ?_))
    · exact keep_setL (X := [E]) (.inl (.head _)) b mo (not1 fun e => hE0 mo (e ▸ q)) (keep_setDi (X := [T]) (.inl (.head _)) b mo (not1 hbT) (keep_setL (X := []) (.inr hE) b mo not0 (hb b mo q hbT hbH)))
    · by_cases hs : s = r
      · subst hs
        rw [regs_snoc_eq, hr0]
        exact .inr ⟨E, if_pos rfl, ls_eq, hE0⟩
      · rw [regs_snoc_ne A o hs]
        exact (R.look s).imp (fun ⟨q1, q2⟩ => ⟨(if_neg hs).trans q1, q2⟩) fun ⟨L2, q1, q2, q3⟩ => have n := free_ne_ls hE q2; ⟨L2, (if_neg hs).trans q1, ls_ne n (ls_ne n q2), q3⟩
    · simp only [upd] at e1 e2
      by_cases ha : a = r <;> by_cases hb' : b = r
      · rw [ha, hb']
      · rw [if_pos ha] at e1; rw [if_neg hb'] at e2
        cases e1
        exact absurd e2 (noE b)
      · rw [if_neg ha] at e1; rw [if_pos hb'] at e2
        cases e2
        exact absurd e1 (noE a)
      · rw [if_neg ha] at e1; rw [if_neg hb'] at e2
        exact R.inj a b L e1 e2)
end
end Mine
namespace Mine
structure isFF (A : List (Oc × Int)) (o : Oc) (r : Nat) : Prop where
  pos : 1 ≤ r
  fr : freeIn A o r = true
  least : ∀ s : Nat, 1 ≤ s → s < r → freeIn A o s = false
theorem reg_bound (A : List (Oc × Int)) : ∃ R : Nat, ∀ p ∈ A, p.2 ≤ R := by
  induction A with
  | nil => exact ⟨0, fun _ h => nomatch h⟩
  | cons a r ih =>
    obtain ⟨R, h⟩ := ih
    refine ⟨R + a.2.toNat, fun p hp => ?_⟩
    rcases List.mem_cons.mp hp with rfl | hp
    · have := Int.self_le_toNat p.2; (first | lia | omega)
    · have := h p hp; (first | lia | omega)
theorem free_over {A : List (Oc × Int)} {R : Nat} (h : ∀ p ∈ A, p.2 ≤ R) (o : Oc) {r : Nat} (hr : R < r) : freeIn A o r = true := by
  unfold freeIn regs
  have : A.filter (fun p => decide (p.2 = (r : Int))) = [] := by
    rw [List.filter_eq_nil_iff]
    intro p hp e
    have := h p hp
    simp at e
    (first | lia | omega)
  rw [this]; rfl
section
variable {c : Cx} {n : Nat}
inductive Sp_m_place (ps : List PV) (st : St) (Q : PV → St → Prop) : Prop
  | mk (st0 : St) (f T H w : Addr) (A : List (Oc × Int)) (o : Oc) (_ : ps = [.ref f, .ref o.a, .ref w]) (_ : RF st0 st f T H A) (_ : A.length ≤ 100) (_ : o.at st) (_ : st.ls w = some []) (_ : (∀ p ∈ A, p.1.n ≠ o.n)) (_ : (∀ b mo, st0.has b mo → b ≠ T → b ≠ H → st.has b mo)) (_ : ∀ st' (r : Nat), isFF A o r → (∀ b x, st.ins b = some x → st'.ins b = some x) → (∀ b mo, st0.has b mo → b ≠ T → b ≠ H → st'.has b mo) → RF st0 st' f T H (A ++ [(o, (r : Int))]) → Q .none st') : Sp_m_place ps st Q
inductive InvP (f w : Addr) (A : List (Oc × Int)) (o : Oc) (Rm : Nat) (st : St) (kk : Nat) (m' : Fm) (st' : St) : Prop
  | mk (r : Nat) (hk : kk = Rm + 2 - r) (hm : m' = [some (.ref f), some (.ref o.a), some (.ref w), some (.int r)]) (hr1 : 1 ≤ r) (k1 : Keep [] st st') (hall : ∀ s : Nat, 1 ≤ s → s < r → freeIn A o s = false)
theorem RFst.put {st0 st st' : St} {f T H : Addr} {A : List (Oc × Int)} {fT fT' fH : Nat × (Int → Option PV)} {o : Oc} {r : Int} (R : RFst st0 st f T H A fT fH) (hi : st'.ins = st.ins) (ho : o.at st) (hno : ∀ p ∈ A, p.1.n ≠ o.n) (hT : st'.di T = some fT') (hl : fT'.1 ≤ A.length + 1)
    (look : ∀ s, (fT'.2 s = none ∧ regs (A ++ [(o, r)]) s = []) ∨ ∃ L, fT'.2 s = some (.ref L) ∧ (st'.setDi H (fH.1 + 1, upd fH.2 o.n (.int r))).ls L = some (refs (regs (A ++ [(o, r)]) s)) ∧ st0.free L) (inj : ∀ r s L, fT'.2 r = some (.ref L) → fT'.2 s = some (.ref L) → r = s) : RF st0 (st'.setDi H (fH.1 + 1, upd fH.2 o.n (.int r))) f T H (A ++ [(o, r)]) := by
  refine ⟨fT', (fH.1 + 1, upd fH.2 o.n (.int r)), (congrFun hi f).trans R.ins, di_ne R.ne hT, di_eq, R.ne, by rw [List.length_append]; exact hl, ?_, look, inj, fun p hp => ?_, fun p hp => ?_⟩
  · rw [List.length_append]; exact Nat.add_le_add_right R.lh 1
  · refine (congrFun hi p.1.a).trans ?_
    rcases List.mem_append.mp hp with hp | hp
    · exact R.occ p hp
    · rw [List.mem_singleton.mp hp]; exact ho
  · rcases List.mem_append.mp hp with hp | hp
    · exact (if_neg (hno p hp)).trans (R.home p hp)
    · rw [List.mem_singleton.mp hp]; exact if_pos rfl
theorem notT_meth {C : Addr} {S : Spec} {i : Nat} {ws : WEs} {m : Fm} {st : St} {Q : Bool → St → Prop} {b : Addr} {fs : List (Nat × PV)} {ps : List PV} (hi : lk m i = some (.ref b)) (hb : st.ins b = some (C, fs)) (hw : ∀ R : List PV → St → Prop, R ps st → ws m st R)
    (h : S (.ref b :: ps) st fun p st1 => orF (isB p) fun b => Q (!b) st1) : W.notT (W.valT (W.meth C S (W.loc i) ws)) m st Q := meth_of hi hb hw h
theorem putDi_at {C k C' k' i i' j : Nat} {rest : WS} {m : Fm} {st : St} {Q : Fl → Fm → St → Prop} {b b' d : Addr} {fs fs' : List (Nat × PV)} {x : Int} {fn : Nat × (Int → Option PV)} {v : PV} (hj : lk m j = some v) (hi : lk m i = some (.ref b)) (hb : st.ins b = some (C, fs)) (hf : getF k fs = some (.ref d))
    (hi' : lk m i' = some (.ref b')) (hb' : st.ins b' = some (C', fs')) (hf' : getF k' fs' = some (.int x)) (hd : st.di d = some fn) (hl : fn.1 ≤ 1000) (h : rest m (st.setDi d (fn.1 + 1, upd fn.2 x v)) Q) : W.seq (W.putDi (W.attr C k (W.loc i)) (W.attr C' k' (W.loc i')) (W.loc j)) rest m st Q :=
  orF_of hj (attr_of (m := m) (Q := fun u st₂ => W.attr C' k' (W.loc i') m st₂ fun i st₃ => ∃ a k fn, u = .ref a ∧ i = .int k ∧ st₃.di a = some fn ∧ fn.1 ≤ 1000 ∧ rest m (st₃.setDi a (fn.1 + 1, upd fn.2 k v)) Q) hi hb hf (attr_of hi' hb' hf' ⟨d, x, fn, rfl, rfl, hd, hl, h⟩))
theorem ok_place (kf : KF c.K) : CodeOk c (n + 3) (.ref 621) Sp_m_place := co_place (n := n + 2) kf (h_m_wished := CodeOk.call (ok_wished (n := n + 1) kf)) (h_m_is_free := CodeOk.call (ok_is_free kf)) (h_m_occupy := CodeOk.call (ok_occupy (n := n + 1) kf)) (fun ps st Q h => by
  obtain ⟨st0, f, T, H, w, A, o, rfl, hRF, hA, ho, hw, hno, hb, h⟩ := h
  refine ⟨rfl, ?_⟩
  obtain ⟨fT, fH, R0⟩ := id hRF
  obtain ⟨Rm, hRm⟩ := reg_bound A
  unfold w_place
  refine asg_meth (b := f) (ps := [.ref o.a, .ref w]) rfl R0.ins (fun R h => h) ⟨_, _, w, rfl, hw, ite_yes (fun R h => h) ⟨InvP f w A o Rm st, ⟨_, 1, rfl, rfl, Nat.le_refl _, .rfl' _ _, fun s h1 h2 => absurd h1 (Nat.not_le_of_lt h2)⟩, fun kk m' st' hI => ?_⟩⟩
  obtain ⟨r, hk, hm, hr1, k1, hall⟩ := hI
  subst hm
  have R1 := hRF.keep k1
  refine notT_meth (b := f) (ps := [.int r, .ref o.a]) rfl (k1.ins not0 R0.ins) (fun R h => h) ⟨st0, f, T, H, A, r, o, rfl, R1, k1.ins not0 ho, fun st2 k2 => ?_⟩
  have k12 := k1.trans k2
  refine br_intro (fun hf => ?_) (fun hf => ?_)
  · have hf : freeIn A o r = false := by simpa using hf
    have hle : r ≤ Rm := by
      rcases Nat.lt_or_ge Rm r with q | q
      · rw [free_over hRm o q] at hf; cases hf
      · exact q
    refine wp_next (k' := Rm + 2 - (r + 1)) (by (first | lia | omega)) ⟨r + 1, rfl, rfl, Nat.le_add_left _ _, k12, fun s h1 h2 => ?_⟩
    rcases Nat.lt_or_ge s r with e | e
    · exact hall s h1 e
    · rw [Nat.le_antisymm (Nat.le_of_lt_succ h2) e]; exact hf
  · have hf : freeIn A o r = true := by simpa using hf
    obtain ⟨fT2, fH2, R2⟩ := hRF.keep k12
    have o2 := k12.ins not0 ho
    refine expr_meth (b := f) (ps := [.int r, .ref o.a]) rfl R2.ins (fun R h => h) ⟨st0, f, T, H, A, fT2, fH2, r, o, rfl, R2, by (first | lia | omega), fun b mo q h1 h2 => k12 b mo not0 (hb b mo q h1 h2), fun st3 fT3 hb3 hi3 hH3 hT3 hl3 look3 inj3 => ⟨rfl, ?_⟩⟩
    refine putDi_at (b := f) (d := H) (b' := o.a) (x := o.n) rfl rfl ((congrFun hi3 f).trans R2.ins) rfl rfl ((congrFun hi3 o.a).trans o2) rfl hH3 (by have := R2.lh; (first | lia | omega)) (st_end (h _ r ⟨hr1, hf, hall⟩ (fun b x q => ?_) (fun b mo q h1 h2 => keep_setDi (X := [H]) (.inl (.head _)) b mo (not1 h2) (hb3 b mo q h1 h2)) (R2.put hi3 o2 hno hT3 hl3 look3 inj3)))
    exact (congrFun hi3 b).trans (k12.ins (C := x.1) (fs := x.2) not0 q))
end
end Mine
namespace Mine
theorem code_get {w : Int → PV} {rs : List Row} {i : Nat} {x : PV} (h : (rs.map (Row.pv w))[i]? = some x) : ∃ r, rs[i]? = some r ∧ x = Row.pv w r := by
  rw [List.getElem?_map] at h
  obtain ⟨r, h1, h2⟩ := Option.map_eq_some_iff.mp h
  exact ⟨r, h1, h2.symm⟩
noncomputable def oneI (Kp : St → Prop) (Q : Fl → Fm → St → Prop) (m : Fm) (st : St) : Nat → Fm → St → Prop
  | 0 => fun m' st' => m' = m ∧ st' = st
  | _ + 1 => fun m' st' => Kp st' ∧ Q .next m' st'
theorem loop_one {Kp : St → Prop} {x : PV} {t : WA} {b : WS} {m : Fm} {st : St} {Q : Fl → Fm → St → Prop} (hk : Kp st) (h : t x m st fun m₁ st₁ => b m₁ st₁ (LoopPost Q fun m' st' => Kp st' ∧ Q .next m' st')) : W.loop Kp [x] t b m st Q ⟨⟩ :=
  ⟨oneI Kp Q m st, ⟨rfl, rfl⟩, fun i m' st' hi => by
    cases i with
    | zero =>
      obtain ⟨rfl, rfl⟩ := hi
      refine ⟨hk, fun y hy => ?_, fun e => by simp at e⟩
      simp at hy; subst hy
      exact h
    | succ i => exact ⟨hi.1, fun y hy => by simp at hy, fun _ => hi.2⟩⟩
theorem loop_roles {Kp : St → Prop} {w : Int → PV} {r : Row} {t : WA} {b : WS} {m : Fm} {st : St} {Q : Fl → Fm → St → Prop} (hk : Kp st) (h0 : r.touch = none → Q .next m st)
    (h1 : ∀ bb n, r.touch = some (bb, n) → t (.tup [.int (if bb then 2 else 1), w n]) m st fun m₁ st₁ => b m₁ st₁ (LoopPost Q fun m' st' => Kp st' ∧ Q .next m' st')) : W.loop Kp (roles w r) t b m st Q ⟨⟩ := by
  unfold roles
  cases ht : r.touch with
  | none => exact loop_nil hk (h0 ht)
  | some t => obtain ⟨bb, n⟩ := t; exact loop_one hk (h1 bb n ht)
theorem parts_wish (r : Row) (w : Int → PV) : ∃ nm xs, r.parts w = .str nm :: xs ∧ decide (nm = ("get_variable" : Str)) = false ∧ decide (nm = ("put_value" : Str)) = false := by cases r <;> exact ⟨_, _, rfl, by decide +kernel, by decide +kernel⟩
section
variable {c : Cx} {n : Nat}
inductive Sp_wishes (ps : List PV) (st : St) (Q : PV → St → Prop) : Prop
  | mk (L : Addr) (w : Int → PV) (rs : List Row) (_ : ps = [.ref L]) (_ : st.ls L = some (rs.map (Row.pv w))) (_ : ∀ st' d, st.free d → Keep [] st st' → st'.di d = some (0, fun _ => none) → Q (.ref d) st') : Sp_wishes ps st Q
inductive InvWi (L d : Addr) (s0 : St) (i : Nat) (m' : Fm) (st' : St) : Prop
  | mk (p2 p3 p4 p5 : Option PV) (hm : m' = [some (.ref L), some (.ref d), p2, p3, p4, p5]) (k1 : Keep [] s0 st') (d1 : st'.di d = some (0, fun _ => none))
theorem ok_wishes (kf : KF c.K) : CodeOk c (n + 1) (.ref 579) Sp_wishes := co_wishes kf (fun ps st Q h => by
  obtain ⟨L, w, rs, rfl, h1, h⟩ := h
  refine ⟨rfl, ?_⟩
  unfold w_wishes
  intro d hd
  refine .inr ⟨L, _, rfl, h1, InvWi L d st, ⟨_, _, _, _, rfl, keep_setDi (.inr hd), di_eq⟩, fun i m' st' hI => ?_⟩
  obtain ⟨p2, p3, p4, p5, hm, k1, d1⟩ := hI
  subst hm
  refine ⟨k1.ls not0 h1, fun x hx => ?_, fun hx => step_ret (Ev.loc rfl) (st_end (h st' d hd k1 d1))⟩
  obtain ⟨r, hr, rfl⟩ := map_get hx
  obtain ⟨nm, xs, e, e1, e2⟩ := parts_wish r w
  unfold Row.pv
  rw [e]
  exact step_asg (Ev.subT (Ev.loc rfl) Ev.const rfl) (step_f (EvT.cmp (Ev.loc rfl) Ev.const (gEq_ne e1)) (step_f (EvT.cmp (Ev.loc rfl) Ev.const (gEq_ne e2)) (lp_next ⟨_, _, _, _, rfl, k1, d1⟩))))
inductive Sp_real_operand (ps : List PV) (st : St) (Q : PV → St → Prop) : Prop
  | mk (x : PV) (H : Addr) (fH : Nat × (Int → Option PV)) (_ : ps = [x, .ref H]) (_ : st.di H = some fH) (_ : ((∃ k r, x = tmp k ∧ fH.2 k = some (.int r) ∧ Q (.tup [.str "x", .int r]) st) ∨ (∃ k, x = .int k ∧ Q x st) ∨ (∃ k, x = con k ∧ Q x st))) : Sp_real_operand ps st Q
theorem ok_real_operand (kf : KF c.K) : CodeOk c (n + 1) (.ref 642) Sp_real_operand := co_real_operand kf (fun ps st Q h => by
  obtain ⟨x, H, fH, rfl, h1, h⟩ := h
  refine ⟨rfl, ?_⟩
  unfold w_real_operand
  rcases h with ⟨k, r, rfl, hk, h⟩ | ⟨k, rfl, h⟩ | ⟨k, rfl, h⟩
  · exact step_t (EvT.and_t (EvT.val (Ev.isTup (Ev.loc rfl) rfl)) (EvT.and_t (EvT.cmp (Ev.lenT (Ev.loc rfl)) Ev.const rfl) EvT.tt)) (step_t (EvT.cmp (Ev.subT (Ev.loc rfl) Ev.const rfl) Ev.const (gEq_str _)) (step_ret (Ev.tup (EvS.cons Ev.const (EvS.cons (Ev.subDi (Ev.loc rfl) (Ev.subT (Ev.loc rfl) Ev.const rfl) h1 hk) EvS.nil)) rfl) (st_end h)))
  · exact step_f (EvT.and_f (EvT.val (Ev.isTup (Ev.loc rfl) rfl))) (skip_sq (step_ret (Ev.loc rfl) (st_end h)))
  · exact step_t (EvT.and_t (EvT.val (Ev.isTup (Ev.loc rfl) rfl)) (EvT.and_t (EvT.cmp (Ev.lenT (Ev.loc rfl)) Ev.const rfl) EvT.tt)) (step_f (EvT.cmp (Ev.subT (Ev.loc rfl) Ev.const rfl) Ev.const rfl) (skip_sq (step_f (EvT.cmp (Ev.subT (Ev.loc rfl) Ev.const rfl) Ev.const rfl) (skip_sq (skip_sq (step_ret (Ev.loc rfl) (st_end h))))))))
noncomputable def xr (g : Int → Int) (n : Int) : PV := .tup [.str "x", .int (g n)]
noncomputable def gmax (g : Int → Int) : List Row → Int
  | [] => 0
  | rs => rs.foldl (fun m r => match r.touch with | some (_, n) => if m < g n then g n else m | none => m) 0
noncomputable def gstep (g : Int → Int) (m : Int) (r : Row) : Int := match r.touch with | some (_, n) => if m < g n then g n else m | none => m
theorem gmax_eq (g : Int → Int) (rs : List Row) : gmax g rs = rs.foldl (gstep g) 0 := by
  cases rs <;> rfl
inductive Sp_greatest (ps : List PV) (st : St) (Q : PV → St → Prop) : Prop
  | mk (L : Addr) (g : Int → Int) (rs : List Row) (_ : ps = [.ref L]) (_ : st.ls L = some (rs.map (Row.pv (xr g)))) (_ : ∀ st', Keep [] st st' → Q (.int (gmax g rs)) st') : Sp_greatest ps st Q
inductive InvGr (L : Addr) (g : Int → Int) (rs : List Row) (s0 : St) (i : Nat) (m' : Fm) (st' : St) : Prop
  | mk (v : Int) (p2 p3 p4 : Option PV) (hv : v = (rs.take i).foldl (gstep g) 0) (hm : m' = [some (.ref L), some (.int v), p2, p3, p4]) (k1 : Keep [] s0 st')
theorem ok_greatest (kf : KF c.K) : CodeOk c (n + 2) (.ref 656) Sp_greatest := co_greatest (n := n + 1) kf (h_operand_roles := CodeOk.call (ok_operand_roles kf)) (fun ps st Q h => by
  obtain ⟨L, g, rs, rfl, h1, h⟩ := h
  refine ⟨rfl, ?_⟩
  unfold w_greatest
  refine .inr ⟨L, _, rfl, h1, InvGr L g rs st, ⟨_, _, _, _, rfl, rfl, .rfl' _ _⟩, fun i m' st' hI => ?_⟩
  obtain ⟨v, p2, p3, p4, hv, hm, k1⟩ := hI
  subst hm
  refine ⟨k1.ls not0 h1, fun x hx => ?_, fun hx => ?_⟩
  · obtain ⟨r, hr, rfl⟩ := map_get hx
    have htk : (rs.take (i + 1)).foldl (gstep g) 0 = gstep g v r := by rw [take_snoc hr, List.foldl_append, ← hv]; rfl
    refine ⟨xr g, r, rfl, fun a ha => .inr ⟨a, _, rfl, ls_eq, ?_⟩⟩
    have k2 := k1.trans (keep_setL (ps := roles (xr g) r) (.inr ha))
    refine loop_roles ls_eq (fun ht => lp_next ⟨v, _, _, _, by rw [htk]; unfold gstep; rw [ht], rfl, k2⟩) (fun bb nn ht => ⟨_, _, rfl, ?_⟩)
    have e2 : (rs.take (i + 1)).foldl (gstep g) 0 = if v < g nn then g nn else v := by rw [htk]; unfold gstep; rw [ht]
    refine step_ite (EvT.and (EvT.cmp (Ev.subT (Ev.loc rfl) Ev.const rfl) Ev.const (gEq_str _)) (EvT.and (EvT.cmp (Ev.subT (Ev.loc rfl) Ev.const rfl) (Ev.loc rfl) rfl) EvT.tt)) (fun hc => ?_) (fun hc => ?_)
    · have hc : v < g nn := by simpa using hc
      rw [if_pos hc] at e2
      exact step_asg (Ev.subT (Ev.loc rfl) Ev.const rfl) (lp_next ⟨ls_eq, lp_next ⟨g nn, _, _, _, e2.symm, rfl, k2⟩⟩)
    · have hc : ¬ v < g nn := by simpa using hc
      rw [if_neg hc] at e2
      exact lp_next ⟨ls_eq, lp_next ⟨v, _, _, _, e2.symm, rfl, k2⟩⟩
  · rw [map_none hx] at hv
    exact step_ret (Ev.loc rfl) (st_end (by rw [hv, ← gmax_eq]; exact h st' k1)))
end
end Mine
namespace Mine
noncomputable abbrev Iv := Int × Int × Int
noncomputable def Oc.key (o : Oc) : Iv := (o.n, o.i, o.j)
noncomputable def tch (l : List Iv) (t n : Int) : List Iv := if l.any (fun x => decide (x.1 = n)) then l.map (fun x => if x.1 = n ∧ x.2.2 < t then (x.1, x.2.1, t) else x) else l ++ [(n, t, t + 1)]
noncomputable def ivsN (rs : List Row) : Nat → List Iv
  | 0 => []
  | i + 1 => match (rs[i]?).bind Row.touch with
    | some (_, n) => tch (ivsN rs i) i n
    | none => ivsN rs i
noncomputable def look (occs : List Oc) (n : Int) : Option PV := (occs.find? fun o => decide (o.n = n)).map fun o => .ref o.a
theorem kb_setL {st st' : St} {a : Addr} {ps} (k : Keep [] st st') (h : st.free a) : Keep [] st (st'.setL a ps) := fun b mo _ q => by
  have hb : b ≠ a := fun e => h mo (e ▸ q)
  exact keep_setL (X := [a]) (.inl (.head _)) b mo (not1 hb) (k b mo not0 q)
theorem kb_setDi {st st' : St} {a : Addr} {f} (k : Keep [] st st') (h : st.free a) : Keep [] st (st'.setDi a f) := fun b mo _ q => by
  have hb : b ≠ a := fun e => h mo (e ▸ q)
  exact keep_setDi (X := [a]) (.inl (.head _)) b mo (not1 hb) (k b mo not0 q)
theorem kb_setI {st st' : St} {a C : Addr} {f} (k : Keep [] st st') (h : st.free a) : Keep [] st (st'.setI a C f) := fun b mo _ q => by
  have hb : b ≠ a := fun e => h mo (e ▸ q)
  exact keep_setI (X := [a]) (.inl (.head _)) b mo (not1 hb) (k b mo not0 q)
theorem look_none {occs : List Oc} {n : Int} (h : look occs n = none) : ∀ o ∈ occs, o.n ≠ n := fun o ho e => by
  unfold look at h
  rw [Option.map_eq_none_iff, List.find?_eq_none] at h
  exact h o ho (by simp [e])
theorem look_some {occs : List Oc} {n : Int} {p : PV} (h : look occs n = some p) : ∃ o ∈ occs, o.n = n ∧ p = .ref o.a := by
  unfold look at h
  obtain ⟨o, h1, rfl⟩ := Option.map_eq_some_iff.mp h
  have := List.find?_some h1
  exact ⟨o, List.mem_of_find?_eq_some h1, by simpa using this, rfl⟩
noncomputable def bump (nn t : Int) (x : Oc) : Oc := if x.n = nn ∧ x.j < t then { x with j := t } else x
theorem bump_a (nn t : Int) (x : Oc) : (bump nn t x).a = x.a := by unfold bump; split <;> rfl
theorem bump_n (nn t : Int) (x : Oc) : (bump nn t x).n = x.n := by unfold bump; split <;> rfl
theorem tch_key_old {occs : List Oc} {nn t : Int} (h : ∃ o ∈ occs, o.n = nn) : tch (occs.map Oc.key) t nn = (occs.map (bump nn t)).map Oc.key := by
  unfold tch
  have : (occs.map Oc.key).any (fun x => decide (x.1 = nn)) = true := by
    obtain ⟨o, h1, h2⟩ := h
    rw [List.any_eq_true]
    exact ⟨o.key, List.mem_map_of_mem h1, by simp [Oc.key, h2]⟩
  rw [if_pos this, List.map_map, List.map_map]
  apply List.map_congr_left
  intro x _
  show (if x.n = nn ∧ x.j < t then (x.n, x.i, t) else (x.n, x.i, x.j)) = (bump nn t x).key
  unfold bump
  by_cases q : x.n = nn ∧ x.j < t
  · rw [if_pos q, if_pos q]; rfl
  · rw [if_neg q, if_neg q]; rfl
theorem tch_key_new {occs : List Oc} {nn t : Int} {a : Addr} (h : ∀ o ∈ occs, o.n ≠ nn) : tch (occs.map Oc.key) t nn = (occs ++ [({ a := a, n := nn, i := t, j := t + 1 } : Oc)]).map Oc.key := by
  unfold tch
  have : ¬ (occs.map Oc.key).any (fun x => decide (x.1 = nn)) = true := by
    rw [List.any_eq_true]
    rintro ⟨x, h1, h2⟩
    obtain ⟨o, h3, rfl⟩ := List.mem_map.mp h1
    exact h o h3 (of_decide_eq_true h2)
  rw [if_neg this]
  simp [Oc.key]
theorem look_snoc {occs : List Oc} {a : Addr} {nn i j : Int} (h : ∀ o ∈ occs, o.n ≠ nn) (n : Int) : look (occs ++ [({ a := a, n := nn, i := i, j := j } : Oc)]) n = if n = nn then some (.ref a) else look occs n := by
  unfold look
  rw [List.find?_append]
  by_cases e : n = nn
  · subst e
    have : occs.find? (fun o => decide (o.n = n)) = none := by
      rw [List.find?_eq_none]; intro o ho; simpa using h o ho
    rw [this]; simp
  · have e2 : ¬ nn = n := fun z => e z.symm
    simp [e, e2]
theorem look_bump (occs : List Oc) (nn t n : Int) : look (occs.map (bump nn t)) n = look occs n := by
  unfold look
  rw [List.find?_map]
  have : ((fun o => decide (o.n = n)) ∘ bump nn t) = fun o => decide (o.n = n) := by
    funext o; simp [bump_n]
  rw [this, Option.map_map]
  congr 1
  funext o
  simp [bump_a]
theorem inj_of_nodup {α β : Type} (f : α → β) : ∀ {l : List α}, (l.map f).Nodup → ∀ x ∈ l, ∀ y ∈ l, f x = f y → x = y
  | [], _, _, h, _, _, _ => nomatch h
  | a :: r, h, x, hx, y, hy, e => by
    rw [List.map_cons, List.nodup_cons] at h
    rcases List.mem_cons.mp hx with rfl | hx' <;> rcases List.mem_cons.mp hy with rfl | hy'
    · rfl
    · exact absurd (List.mem_map_of_mem hy') (e ▸ h.1)
    · exact absurd (List.mem_map_of_mem hx') (e ▸ h.1)
    · exact inj_of_nodup f h.2 x hx' y hy' e
section
variable {c : Cx} {n : Nat}
inductive Sp_Oc (ps : List PV) (st : St) (Q : PV → St → Prop) : Prop
  | mk (kind) (nn) (i) (j) (_ : ps = [.str kind, .int nn, .int i, .int j]) (_ : ∀ a st', st.free a → Keep [] st st' → st'.ins a = some (563, ocF kind nn i j) → Q (.ref a) st') : Sp_Oc ps st Q
theorem ok_Oc (kf : KF c.K) : CodeOk c (n + 2) (.ref 563) Sp_Oc := fun _ _ _ _ _ _ _ _ _ _ rm R V hs => CodeOk.cls kf.c_563 (ok_Oc_init kf) rm R V (by
  obtain ⟨kind, nn, i, j, rfl, h⟩ := hs
  intro a ha
  exact ⟨a, kind, nn, i, j, rfl, ins_eq, fun st' k e => ⟨rfl, h a st' ha (keep_free ha k) e⟩⟩)
structure IvSt (st : St) (F D : Addr) (occs : List Oc) (fD : Nat × (Int → Option PV)) (b : Nat) : Prop where
  f : st.ls F = some (refs occs)
  d : st.di D = some fD
  look : ∀ n, fD.2 n = look occs n
  bnd : fD.1 ≤ b
  len : occs.length ≤ b
  occ : ∀ o ∈ occs, o.at st ∧ o.i < o.j
  nd : (occs.map Oc.a).Nodup
  nn : (occs.map Oc.n).Nodup
inductive Sp_intervals (ps : List PV) (st : St) (Q : PV → St → Prop) : Prop
  | mk (L : Addr) (rs : List Row) (_ : ps = [.ref L, .int 0]) (_ : st.ls L = some (code rs)) (_ : rs.length ≤ 100) (_ : ∀ st' R occs, Keep [] st st' → st.free R → st'.ls R = some (refs occs) → occs.map Oc.key = ivsN rs rs.length → (∀ o ∈ occs, o.at st') → (occs.map Oc.n).Nodup → (∀ o ∈ occs, st.free o.a) → Q (.ref R) st') : Sp_intervals ps st Q
theorem IvSt.up {s : St} {F D : Addr} {oc : List Oc} {f : Nat × (Int → Option PV)} {i : Nat} (j : IvSt s F D oc f i) : IvSt s F D oc f (i + 1) := ⟨j.f, j.d, j.look, Nat.le_succ_of_le j.bnd, Nat.le_succ_of_le j.len, j.occ, j.nd, j.nn⟩
theorem IvSt.keep {s s' : St} {F D : Addr} {oc : List Oc} {f : Nat × (Int → Option PV)} {i : Nat} (j : IvSt s F D oc f i) (k : Keep [] s s') : IvSt s' F D oc f i := ⟨k.ls not0 j.f, k.di not0 j.d, j.look, j.bnd, j.len, fun o ho => ⟨k.ins not0 (j.occ o ho).1, (j.occ o ho).2⟩, j.nd, j.nn⟩
theorem IvSt.new {s : St} {F D a : Addr} {occs : List Oc} {fD : Nat × (Int → Option PV)} {i : Nat} {nn : Int} (J : IvSt s F D occs fD i) (fa : ∀ o ∈ occs, o.a ≠ a) (a2 : s.ins a = some (563, ocF "temp" nn i (i + 1))) (hln : ∀ o ∈ occs, o.n ≠ nn) :
    IvSt ((s.setDi D (fD.1 + 1, upd fD.2 nn (.ref a))).setL F (refs occs ++ [.ref a])) F D (occs ++ [({ a := a, n := nn, i := i, j := i + 1 } : Oc)]) (fD.1 + 1, upd fD.2 nn (.ref a)) (i + 1) := by
  refine ⟨ls_eq.trans (by unfold refs; rw [List.map_append]; rfl), di_eq, fun n => ?_, Nat.succ_le_succ J.bnd, by rw [List.length_append]; exact Nat.succ_le_succ J.len, fun o ho => ?_, ?_, ?_⟩
  · rw [look_snoc hln]; show upd fD.2 nn (.ref a) n = _; unfold upd; rw [J.look n]
  · rcases List.mem_append.mp ho with ho | ho
    · exact J.occ o ho
    · rw [List.mem_singleton.mp ho]; exact ⟨a2, Int.lt_succ _⟩
  · rw [List.map_append, List.nodup_append]
    refine ⟨J.nd, List.nodup_cons.mpr ⟨List.not_mem_nil, List.nodup_nil⟩, fun x hx y hy => ?_⟩
    obtain ⟨o, ho, rfl⟩ := List.mem_map.mp hx
    rw [List.mem_singleton.mp hy]
    exact fa o ho
  · rw [List.map_append, List.nodup_append]
    refine ⟨J.nn, List.nodup_cons.mpr ⟨List.not_mem_nil, List.nodup_nil⟩, fun x hx y hy => ?_⟩
    obtain ⟨o, ho, rfl⟩ := List.mem_map.mp hx
    rw [List.mem_singleton.mp hy]
    exact hln o ho
theorem bmap {β : Type} {nn t : Int} (occs : List Oc) (f : Oc → β) (hf : ∀ x, f (bump nn t x) = f x) : (occs.map (bump nn t)).map f = occs.map f := by rw [List.map_map]; exact List.map_congr_left fun x _ => hf x
theorem IvSt.bumped {s : St} {F D : Addr} {occs : List Oc} {fD : Nat × (Int → Option PV)} {i : Nat} {o : Oc} (J : IvSt s F D occs fD i) (ho : o ∈ occs) (hlt : o.j < i) :
    IvSt (s.setI o.a 563 (setF 22 (.int i) (ocF "temp" o.n o.i o.j))) F D (occs.map (bump o.n i)) fD (i + 1) := by
  refine ⟨?_, J.d, fun n => by rw [look_bump]; exact J.look n, Nat.le_succ_of_le J.bnd, by rw [List.length_map]; exact Nat.le_succ_of_le J.len, fun x hx => ?_, by rw [bmap _ _ (bump_a o.n i)]; exact J.nd, by rw [bmap _ _ (bump_n o.n i)]; exact J.nn⟩
  · refine J.f.trans (congrArg some ?_)
    exact (bmap occs (fun o => PV.ref o.a) fun x => congrArg PV.ref (bump_a _ _ x)).symm
  · obtain ⟨y, hy, rfl⟩ := List.mem_map.mp hx
    have hlti : o.i < o.j := (J.occ o ho).2
    by_cases hyn : y.n = o.n
    · have : y = o := inj_of_nodup Oc.n J.nn y hy o ho hyn
      subst this
      have hb : bump y.n i y = { y with j := i } := if_pos ⟨rfl, hlt⟩
      rw [hb]
      exact ⟨ins_eq, Int.lt_trans hlti hlt⟩
    · have hb : bump o.n i y = y := if_neg (fun z => hyn z.1)
      rw [hb]
      exact ⟨ins_ne (fun e => hyn (by rw [inj_of_nodup Oc.a J.nd y hy o ho e])) (J.occ y hy).1, (J.occ y hy).2⟩
theorem bump_id {occs : List Oc} {o : Oc} {t : Int} (hnn : (occs.map Oc.n).Nodup) (ho : o ∈ occs) (h : ¬ o.j < t) : occs.map (bump o.n t) = occs := by
  conv => rhs; rw [← List.map_id occs]
  refine List.map_congr_left fun y hy => if_neg ?_
  rintro ⟨q1, q2⟩
  exact h (inj_of_nodup Oc.n hnn y hy o ho q1 ▸ q2)
inductive InvI (L F I O D : Addr) (rs : List Row) (st : St) (i : Nat) (m' : Fm) (st' : St) : Prop
  | mk (p4 p8 p9 p10 : Option PV) (hm : m' = [some (.ref L), some (.int 0), some (.ref F), some (.ref I), p4, some (.ref O), some (.ref D), some (.int i), p8, p9, p10]) (hi : i ≤ rs.length) (k1 : Keep [] st st') (occs : List Oc) (fD : Nat × (Int → Option PV)) (J : IvSt st' F D occs fD i) (hkey : occs.map Oc.key = ivsN rs i) (hfr : ∀ o ∈ occs, st.free o.a)
theorem ivs_none {rs : List Row} {i : Nat} {r : Row} (hr : rs[i]? = some r) (ht : r.touch = none) : ivsN rs (i + 1) = ivsN rs i := by
  show (match (rs[i]?).bind Row.touch with | some (_, n) => tch (ivsN rs i) i n | none => ivsN rs i) = _
  rw [hr]; show (match r.touch with | some (_, n) => tch (ivsN rs i) i n | none => ivsN rs i) = _
  rw [ht]
theorem ivs_some {rs : List Row} {i : Nat} {r : Row} {b : Bool} {n : Int} (hr : rs[i]? = some r) (ht : r.touch = some (b, n)) : ivsN rs (i + 1) = tch (ivsN rs i) i n := by
  show (match (rs[i]?).bind Row.touch with | some (_, n) => tch (ivsN rs i) i n | none => ivsN rs i) = _
  rw [hr]; show (match r.touch with | some (_, n) => tch (ivsN rs i) i n | none => ivsN rs i) = _
  rw [ht]
/-- the inner body, at one role -/
theorem iv_role {L F I O D E : Addr} {rs : List Row} {r : Row} {st sE : St} {i : Nat} {bb : Bool} {nn : Int} {p9 p10 : Option PV} {Q : Fl → Fm → St → Prop} {ps : List PV} (hr : rs[i]? = some r) (ht : r.touch = some (bb, nn)) (hl : i < 100) (hF : st.free F) (hD : st.free D) (hE : sE.ls E = some ps) (hEF : E ≠ F) (k1 : Keep [] st sE) {occs : List Oc} {fD : Nat × (Int → Option PV)} (J : IvSt sE F D occs fD i)
    (hkey : occs.map Oc.key = ivsN rs i) (hfr : ∀ o ∈ occs, st.free o.a) (h : ∀ p9 p10 st2, st2.ls E = some ps → Keep [] st st2 → ∀ occs fD, IvSt st2 F D occs fD (i + 1) → occs.map Oc.key = ivsN rs (i + 1) → (∀ o ∈ occs, st.free o.a) → Q .next [some (.ref L), some (.int 0), some (.ref F), some (.ref I), some (.int nn), some (.ref O), some (.ref D), some (.int i), some (Row.pv tmp r), p9, p10] st2) :
    W.seq (W.ite (W.notInDi (W.loc 4) (W.loc 6)) (W.seq (W.putDi (W.loc 6) (W.loc 4) (W.call Sp_Oc (W.cons (W.const (.str "temp")) (W.cons (W.loc 4) (W.cons (W.loc 7) (W.cons (W.bin gAdd (W.loc 7) (W.const (.int 1))) W.nil)))))) (W.seq (W.expr (W.methB isL Sp.append (W.loc 2) (W.cons (W.subDi (W.loc 6) (W.loc 4)) W.nil))) W.skip))
      (W.seq (W.ite (W.cmpT gGt (W.loc 7) (W.attr 563 22 (W.subDi (W.loc 6) (W.loc 4)))) (W.seq (W.setA 563 22 (W.subDi (W.loc 6) (W.loc 4)) (W.loc 7)) W.skip) W.skip) W.skip)) W.skip
      [some (.ref L), some (.int 0), some (.ref F), some (.ref I), some (.int nn), some (.ref O), some (.ref D), some (.int i), some (Row.pv tmp r), p9, p10] sE Q := by
  have hstep := ivs_some hr ht
  have hb := J.bnd
  have hlen := J.len
  cases hfn : fD.2 nn with
  | none =>
    have hln : ∀ o ∈ occs, o.n ≠ nn := look_none ((J.look nn).symm.trans hfn)
    refine step_t (by have := EvT.notInDi (m := [some (.ref L), some (.int 0), some (.ref F), some (.ref I), some (.int nn), some (.ref O), some (.ref D), some (.int i), some (Row.pv tmp r), p9, p10]) (e := W.loc 4) (ei := W.loc 6) (Ev.loc rfl) (Ev.loc rfl) J.d; rw [hfn] at this; exact this) ?_
    refine ⟨"temp", nn, i, i + 1, rfl, fun a st2 fa k2 a2 => ⟨D, nn, fD, rfl, rfl, k2.di not0 J.d, by (first | lia | omega), ?_⟩⟩
    have J2 := J.keep k2
    refine app_step (p := .ref a) rfl J2.f (Ev.subDi (Ev.loc rfl) (Ev.loc rfl) di_eq (if_pos rfl)) (by unfold refs; rw [List.length_map]; (first | lia | omega)) (h _ _ _ (ls_ne hEF (k2.ls not0 hE)) (kb_setL (kb_setDi (k1.trans k2) hD) hF) _ _ (J2.new (fun o ho => free_ne_ins fa (J.occ o ho).1) a2 hln) (by rw [← tch_key_new hln, hkey, hstep]) (fun o ho => ?_))
    rcases List.mem_append.mp ho with ho | ho
    · exact hfr o ho
    · rw [List.mem_singleton.mp ho]; exact free_back k1 not0 fa
  | some p =>
    obtain ⟨o, ho, rfl, rfl⟩ := look_some ((J.look nn).symm.trans hfn)
    have hex : ∃ x ∈ occs, x.n = o.n := ⟨o, ho, rfl⟩
    have hk := tch_key_old (t := i) hex
    have o2 : sE.ins o.a = some (563, ocF "temp" o.n o.i o.j) := (J.occ o ho).1
    refine step_f (by have := EvT.notInDi (m := [some (.ref L), some (.int 0), some (.ref F), some (.ref I), some (.int o.n), some (.ref O), some (.ref D), some (.int i), some (Row.pv tmp r), p9, p10]) (e := W.loc 4) (ei := W.loc 6) (Ev.loc rfl) (Ev.loc rfl) J.d; rw [hfn] at this; exact this) ?_
    refine step_ite (EvT.cmp (Ev.loc rfl) (Ev.attr (Ev.subDi (Ev.loc rfl) (Ev.loc rfl) J.d hfn) o2 rfl) rfl) (fun hlt => ?_) (fun hge => ?_)
    · have hlt := of_decide_eq_true hlt
      exact step_setA (Ev.loc rfl) (Ev.subDi (Ev.loc rfl) (Ev.loc rfl) J.d hfn) o2 (Nat.le_of_ble_eq_true rfl) (h _ _ _ hE (kb_setI k1 (hfr o ho)) _ _ (J.bumped ho hlt) (by rw [← hk, hkey, hstep]) fun x hx => by
        obtain ⟨y, hy, rfl⟩ := List.mem_map.mp hx
        rw [bump_a]; exact hfr y hy)
    · have hge := of_decide_eq_false hge
      rw [bump_id J.nn ho hge] at hk
      exact h _ _ _ hE k1 _ _ J.up (by rw [← hk, hkey, hstep]) hfr
theorem ok_intervals (kf : KF c.K) : CodeOk c (n + 3) (.ref 572) Sp_intervals := co_intervals (n := n + 2) kf (h_ends_arguments := CodeOk.call (ok_ends_arguments (n := n + 1) kf)) (h_operand_roles := CodeOk.call (ok_operand_roles (n := n + 1) kf)) (h_Occupation := CodeOk.call (ok_Oc kf)) (fun ps st Q h => by
  obtain ⟨L, rs, rfl, h1, hl, h⟩ := h
  refine ⟨rfl, ?_⟩
  unfold w_intervals
  intro F hF I hI
  have kI : Keep [] st ((st.setL F []).setDi I (0, fun x => none)) := (keep_setL (.inr hF)).trans (keep_setDi (.inr hI))
  refine ⟨fun kk m' st' => m' = [some (.ref L), some (.int 0), some (.ref F), some (.ref I), some (.int 1), none, none, none, none, none, none] ∧ st' = (st.setL F []).setDi I (0, fun x => none), ⟨0, rfl, rfl⟩, fun kk m' st' he => ?_⟩
  obtain ⟨e1, e2⟩ := he
  subst e1 e2
  refine EvT.cmp (b := false) (Ev.loc rfl) (Ev.loc rfl) rfl _ fun O hO D hD => ?_
  have kD : Keep [] st (((st.setL F []).setDi I (0, fun x => none)).setDi O (0, fun x => none)) := kI.trans (keep_setDi (.inr hO))
  have hD' : st.free D := free_back kD not0 hD
  have kD2 := kD.trans (keep_setDi (f := (0, fun x => none)) (.inr hD))
  refine .inr ⟨L, _, rfl, kD2.ls not0 h1, InvI L F I O D rs st, ⟨_, _, _, _, rfl, Nat.zero_le _, kD2, [], (0, fun _ => none), ⟨ls_eq, di_eq, fun _ => rfl, Nat.le_refl _, Nat.le_refl _, (fun _ h => nomatch h), List.nodup_nil, List.nodup_nil⟩, rfl, (fun _ h => nomatch h)⟩, fun i m' st' hI => ?_⟩
  obtain ⟨p4, p8, p9, p10, hm, hi, k1, occs, fD, J, hkey, hfr⟩ := hI
  subst hm
  refine ⟨k1.ls not0 h1, fun x hx => ?_, fun hx => ?_⟩
  · obtain ⟨r, hr, rfl⟩ := map_get hx
    refine ⟨tmp, r, rfl, ⟨tmp, r, rfl, fun E hE => .inr ⟨E, _, rfl, ls_eq, ?_⟩⟩⟩
    have kE := keep_setL (X := []) (ps := roles tmp r) (.inr hE)
    refine loop_roles ls_eq (fun ht => step_aug rfl Ev.const rfl (lp_next ⟨_, _, _, _, rfl, get_lt hr, k1.trans kE, occs, fD, (J.keep kE).up, by rw [hkey, ivs_none hr ht], hfr⟩)) (fun bb nn ht => ⟨_, _, rfl, ?_⟩)
    refine step_asg (Ev.subT (Ev.loc rfl) Ev.const rfl) (step_t (EvT.cmp (Ev.subT (Ev.loc rfl) Ev.const rfl) Ev.const (gEq_str _)) ?_)
    exact iv_role hr ht (Nat.lt_of_lt_of_le (get_lt hr) hl) hF hD' ls_eq (Ne.symm (free_ne_ls hE J.f)) (k1.trans kE) (J.keep kE) hkey hfr fun p9 p10 st2 e2 k2 occs2 fD2 J2 hk2 hf2 => lp_next ⟨e2, step_aug rfl Ev.const rfl (lp_next ⟨_, _, _, _, rfl, get_lt hr, k2, occs2, fD2, J2, hk2, hf2⟩)⟩
  · have hil : ivsN rs i = ivsN rs rs.length := by
      rw [Nat.le_antisymm hi (by rw [← List.length_map (f := Row.pv tmp)]; exact List.getElem?_eq_none_iff.mp hx)]
    refine ⟨F, _, rfl, J.f, fun x hx => ?_, fun d hd => st_end (h _ d occs (k1.trans (keep_setL (.inr hd))) (free_back k1 not0 hd) ls_eq (hkey.trans hil) (fun o ho => (J.occ o ho).1) J.nn hfr)⟩
    obtain ⟨o, ho, rfl⟩ := List.mem_map.mp hx
    exact ⟨o.a, _, o.j, o.i, rfl, (J.occ o ho).1, rfl, rfl, (J.occ o ho).2⟩)
end
end Mine
namespace Mine
noncomputable def FFs (occs : List Oc) (A : List (Oc × Int)) : Prop := A.map (·.1) = occs ∧ ∀ (k : Nat) (p : Oc × Int), A[k]? = some p → ∃ r : Nat, p.2 = r ∧ isFF (A.take k) p.1 r
theorem FFs.snoc {occs : List Oc} {A : List (Oc × Int)} {o : Oc} {r : Nat} (h : FFs occs A) (f : isFF A o r) : FFs (occs ++ [o]) (A ++ [(o, (r : Int))]) := by
  refine ⟨by rw [List.map_append, h.1]; rfl, fun k p e => ?_⟩
  rcases Nat.lt_trichotomy k A.length with hk | hk | hk
  · rw [List.getElem?_append_left hk] at e
    obtain ⟨r', h1, h2⟩ := h.2 k p e
    exact ⟨r', h1, by rw [List.take_append_of_le_length (Nat.le_of_lt hk)]; exact h2⟩
  · subst hk
    simp at e
    subst e
    exact ⟨r, rfl, by simpa using f⟩
  · have : (A ++ [(o, (r : Int))])[k]? = none := by rw [List.getElem?_eq_none_iff]; simp; omega
    rw [this] at e; cases e
/-- what is touched has an interval -/
theorem tch_mem (l : List Iv) (t n : Int) : ∀ x, x ∈ l.map (fun (y : Iv) => y.1) ∨ x = n → x ∈ (tch l t n).map (fun (y : Iv) => y.1) := fun x hx => by
  unfold tch
  split
  · rename_i h
    have e : (l.map (fun (x : Iv) => if x.1 = n ∧ x.2.2 < t then (x.1, x.2.1, t) else x)).map (fun (y : Iv) => y.1) = l.map (fun (y : Iv) => y.1) := by
      rw [List.map_map]; apply List.map_congr_left; intro y _; simp only [Function.comp]; split <;> rfl
    rw [e]
    rcases hx with hx | rfl
    · exact hx
    · rw [List.any_eq_true] at h
      obtain ⟨y, h1, h2⟩ := h
      exact List.mem_map.mpr ⟨y, h1, of_decide_eq_true h2⟩
  · rw [List.map_append]
    rcases hx with hx | rfl
    · exact List.mem_append_left _ hx
    · exact List.mem_append_right _ (by simp)
theorem ivsN_mem (rs : List Row) : ∀ (i j : Nat) (r : Row) (b : Bool) (n : Int), j < i → rs[j]? = some r → r.touch = some (b, n) → n ∈ (ivsN rs i).map (fun (y : Iv) => y.1)
  | i + 1, j, r, b, n, hj, hr, ht => by
    show n ∈ (match (rs[i]?).bind Row.touch with | some (_, n) => tch (ivsN rs i) i n | none => ivsN rs i).map (fun (y : Iv) => y.1)
    by_cases e : j = i
    · subst e
      rw [hr]
      show n ∈ (match r.touch with | some (_, n) => tch (ivsN rs j) j n | none => ivsN rs j).map (fun (y : Iv) => y.1)
      rw [ht]
      exact tch_mem _ _ _ _ (.inr rfl)
    · have ih := ivsN_mem rs i j r b n (by omega) hr ht
      cases (rs[i]?).bind Row.touch with
      | none => exact ih
      | some t => obtain ⟨_, m⟩ := t; exact tch_mem _ _ _ _ (.inl ih)
noncomputable def homeOf (f : Int → Option PV) (n : Int) : Int := match f n with | some (.int r) => r | _ => 0
section
variable {c : Cx} {n : Nat}
inductive Sp_by_start (ps : List PV) (st : St) (Q : PV → St → Prop) : Prop
  | mk (L : Addr) (occs : List Oc) (_ : ps = [.ref L]) (_ : st.ls L = some (refs occs)) (_ : st.tb 630 = true) (_ : (∀ o ∈ occs, o.at st)) (_ : occs.Pairwise (fun x y => x.i < y.i)) (_ : 1 ≤ occs.length) (_ : occs.length ≤ 60) (_ : ∀ st' R, Keep [] st st' → st.free R → st'.ls R = some (refs occs) → Q (.ref R) st') : Sp_by_start ps st Q
inductive Sp_allocate (ps : List PV) (st : St) (Q : PV → St → Prop) : Prop
  | mk (sy : PV) (L : Addr) (rs : List Row) (_ : ps = [sy, .ref L, .int 0, .int 60]) (_ : st.ls L = some (code rs)) (_ : rs.length ≤ 100) (_ : st.tb 630 = true) (_ : (ivsN rs rs.length).Pairwise (fun x y => x.2.1 < y.2.1)) (_ : 1 ≤ (ivsN rs rs.length).length) (_ : (ivsN rs rs.length).length ≤ 60) (_ : (∀ occs A g, occs.map Oc.key = ivsN rs rs.length → FFs occs A → (∀ p ∈ A, g p.1.n = p.2) → gmax g rs ≤ 60)) (_ : ∀ st' R occs A g, Keep [] st st' → occs.map Oc.key = ivsN rs rs.length → FFs occs A → (∀ p ∈ A, g p.1.n = p.2) → st'.ls R = some (rs.map (Row.pv (xr g))) → Q (.ref R) st') : Sp_allocate ps st Q
inductive Al1 (sy : PV) (L f N : Addr) (occs : List Oc) (s0 : St) (i : Nat) (m' : Fm) (st' : St) : Prop
  | mk (p6 : Option PV) (hm : m' = [some sy, some (.ref L), some (.int 0), some (.int 60), some (.ref f), some (.ref N), p6, none, none, none, none, none]) (k : Keep [N] s0 st') (N3 : st'.ls N = some (refs (occs.take i)))
theorem al1 {sy : PV} {L f N R1 : Addr} {occs : List Oc} {s0 : St} {Q : Fl → Fm → St → Prop} (hN : s0.ls N = some []) (hR : s0.ls R1 = some (refs occs)) (hRN : R1 ≠ N) (hol : occs.length ≤ 60) (hocc : ∀ o ∈ occs, o.at s0 ∧ o.a ≠ N)
    (h : ∀ p6 st', Keep [N] s0 st' → st'.ls N = some (refs occs) → Q .next [some sy, some (.ref L), some (.int 0), some (.int 60), some (.ref f), some (.ref N), p6, none, none, none, none, none] st') :
    W.loop (fun st => st.ls R1 = some (refs occs)) (refs occs) (W.tName 6) (W.seq (W.ite (W.cmpT gEq (W.attr 563 19 (W.loc 6)) (W.const (.str "temp"))) (W.seq (W.expr (W.methB isL Sp.append (W.loc 5) (W.cons (W.loc 6) W.nil))) W.skip) W.bad) W.skip)
      [some sy, some (.ref L), some (.int 0), some (.int 60), some (.ref f), some (.ref N), none, none, none, none, none, none] s0 Q ⟨⟩ := by
  refine ⟨Al1 sy L f N occs s0, ⟨_, rfl, .rfl' _ _, hN⟩, fun i m' st' hI => ?_⟩
  obtain ⟨p6, hm, k, N3⟩ := hI
  subst hm
  refine ⟨k.ls (not1 hRN) hR, fun x hx => ?_, fun hx => h p6 st' k (map_none hx ▸ N3)⟩
  obtain ⟨o, ho, rfl⟩ := map_get hx
  obtain ⟨o1, o2⟩ := hocc o (List.mem_of_getElem? ho)
  refine ite_yes (fun R h => orF_of (a := .str "temp") (getA_eq (k.ins (not1 o2) o1)) (orF_of (gEq_str "temp") h)) (app_step rfl N3 (fun R h => h) ?_ (lp_next ⟨_, rfl, k.trans (keep_setL (.inl (.head _))), ?_⟩))
  · have := get_lt ho; unfold refs; rw [List.length_map, List.length_take]; omega
  · rw [take_snoc ho]; unfold refs; rw [List.map_append]; exact ls_eq
inductive Al2 (sy : PV) (L f N Wd T H : Addr) (occs : List Oc) (s5 : St) (i : Nat) (m' : Fm) (st6 : St) : Prop
  | mk (p6 : Option PV) (hm : m' = [some sy, some (.ref L), some (.int 0), some (.int 60), some (.ref f), some (.ref N), p6, some (.ref Wd), none, none, none, none]) (A : List (Oc × Int)) (hA : FFs (occs.take i) A) (hRF : RF s5 st6 f T H A) (hin : ∀ b x, s5.ins b = some x → st6.ins b = some x) (hhas : ∀ b mo, s5.has b mo → b ≠ T → b ≠ H → st6.has b mo)
theorem al2 {sy : PV} {L f N Wd T H R : Addr} {occs : List Oc} {s5 : St} {p0 : Option PV} {Q : Fl → Fm → St → Prop} (hR : s5.ls R = some (refs occs)) (hRT : R ≠ T) (hRH : R ≠ H) (hRF0 : RF s5 s5 f T H []) (W5 : s5.di Wd = some (0, fun _ => none)) (hWT : Wd ≠ T) (hWH : Wd ≠ H) (hol : occs.length ≤ 60) (hocc : ∀ o ∈ occs, o.at s5) (hnn : (occs.map Oc.n).Nodup)
    (h : ∀ p6 st6 A, FFs occs A → RF s5 st6 f T H A → (∀ b mo, s5.has b mo → b ≠ T → b ≠ H → st6.has b mo) → Q .next [some sy, some (.ref L), some (.int 0), some (.int 60), some (.ref f), some (.ref N), p6, some (.ref Wd), none, none, none, none] st6) :
    W.loop (fun st => st.ls R = some (refs occs)) (refs occs) (W.tName 6) (W.seq (W.expr (W.meth 624 Sp_m_place (W.loc 4) (W.cons (W.loc 6) (W.cons (W.methB isDi (Sp.fn gGetDi) (W.loc 7) (W.cons (W.attr 563 20 (W.loc 6)) (W.cons (W.list W.nil) W.nil))) W.nil)))) W.skip)
      [some sy, some (.ref L), some (.int 0), some (.int 60), some (.ref f), some (.ref N), p0, some (.ref Wd), none, none, none, none] s5 Q ⟨⟩ := by
  refine ⟨Al2 sy L f N Wd T H occs s5, ⟨_, rfl, [], ⟨rfl, fun _ _ e => by simp at e⟩, hRF0, fun _ _ q => q, fun _ _ q _ _ => q⟩, fun i m' st6 hI => ?_⟩
  obtain ⟨p6, hm, A, hA, hRF, hin, hhas⟩ := hI
  subst hm
  refine ⟨hhas R (.list _) hR hRT hRH, fun x hx => ?_, fun hx => h p6 st6 A (map_none hx ▸ hA) hRF hhas⟩
  obtain ⟨o, ho, rfl⟩ := map_get hx
  have hlt := get_lt ho
  have o6 : o.at st6 := hin _ _ (hocc o (List.mem_of_getElem? ho))
  have W6 : st6.di Wd = some (0, fun _ => none) := hhas Wd (.di _) W5 hWT hWH
  have hAl : A.length = i := by
    have := congrArg List.length hA.1
    rw [List.length_map, List.length_take] at this; omega
  obtain ⟨fT6, fH6, R6⟩ := id hRF
  refine expr_methG (b := f) rfl R6.ins ⟨Wd, rfl, isDi_eq W6, cons_attr (b := o.a) (p := .int o.n) rfl o6 rfl (fun E fE => orF_of (a := .ref E) (gGetDi_eq (st := st6.setL E []) (f := (0, fun _ => none)) W6) ?_)⟩
  have hnd := hnn.sublist ((List.take_sublist (i + 1) occs).map Oc.n)
  rw [take_snoc ho, List.map_append, List.nodup_append] at hnd
  refine ⟨s5, f, T, H, E, A, o, rfl, hRF.keep (keep_setL (.inr fE)), by omega, o6, ls_eq, fun p hp => hnd.2.2 _ (List.mem_map_of_mem (by rw [← hA.1]; exact List.mem_map_of_mem hp)) _ (.head _), fun b mo q h1 h2 => keep_setL (X := []) (.inr fE) b mo not0 (hhas b mo q h1 h2),
    fun st7 r hff hin7 hhas7 hRF7 => ⟨rfl, lp_next ⟨_, rfl, A ++ [(o, (r : Int))], by rw [take_snoc ho]; exact hA.snoc hff, hRF7, fun b x q => hin7 b x (hin b x q), hhas7⟩⟩⟩
inductive OpnOk (fH : Nat × (Int → Option PV)) : PV → PV → Prop
  | t (k s : Int) (h : fH.2 k = some (.int s)) : OpnOk fH (tmp k) (.tup [.str "x", .int s])
  | i (k : Int) : OpnOk fH (.int k) (.int k)
  | c (k : Int) : OpnOk fH (con k) (con k)
theorem real_op {fH : Nat × (Int → Option PV)} {x y : PV} {H : Addr} {st : St} {R : PV → St → Prop} (h : OpnOk fH x y) (hH : st.di H = some fH) (q : R y st) : Sp_real_operand [x, .ref H] st R := by
  refine ⟨x, H, fH, rfl, hH, ?_⟩
  cases h with
  | t k s h => exact .inl ⟨k, s, rfl, h, q⟩
  | i k => exact .inr (.inl ⟨k, rfl, q⟩)
  | c k => exact .inr (.inr ⟨k, rfl, q⟩)
theorem ops_ok {fH : Nat × (Int → Option PV)} {g : Int → Int} (r : Row) (ht : ∀ b n, r.touch = some (b, n) → fH.2 n = some (.int (g n))) (j : Nat) (x : PV) (hx : ((r.parts tmp).drop 1)[j]? = some x) : ∃ y, ((r.parts (xr g)).drop 1)[j]? = some y ∧ OpnOk fH x y := by
  have one : ∀ {x0 y0 : PV}, OpnOk fH x0 y0 → [x0][j]? = some x → ∃ y, [y0][j]? = some y ∧ OpnOk fH x y := fun {x0 y0} h e => by
    cases j with
    | zero => cases e; exact ⟨_, rfl, h⟩
    | succ j => cases e
  have two : ∀ {x0 y0 x1 y1 : PV}, OpnOk fH x0 y0 → OpnOk fH x1 y1 → [x0, x1][j]? = some x → ∃ y, [y0, y1][j]? = some y ∧ OpnOk fH x y := fun {x0 y0 x1 y1} h h' e => by
    match j, e with
    | 0, e => cases e; exact ⟨_, rfl, h⟩
    | 1, e => cases e; exact ⟨_, rfl, h'⟩
  cases r with
  | getL r => exact one (.t _ _ (ht _ _ rfl)) hx
  | getS f r => exact two (.i _) (.t _ _ (ht _ _ rfl)) hx
  | uVar r => exact one (.t _ _ (ht _ _ rfl)) hx
  | uCon k => exact one (.c _) hx
  | putL r => exact one (.t _ _ (ht _ _ rfl)) hx
  | putS f r => exact two (.i _) (.t _ _ (ht _ _ rfl)) hx
  | sVal r => exact one (.t _ _ (ht _ _ rfl)) hx
  | sCon k => exact one (.c _) hx
inductive Al4 (fr : Option PV → Fm) (P : Addr) (nm : Str) (ys : List PV) (s7 : St) (j : Nat) (m' : Fm) (st8 : St) : Prop
  | mk (p11 : Option PV) (hm : m' = fr p11) (k8 : Keep [P] s7 st8) (P8 : st8.ls P = some (.str nm :: ys.take j))
theorem al4 {q0 q1 q2 q3 q5 q6 q7 q8 q9 p0 : Option PV} {f H P T : Addr} {nm : Str} {xs ys : List PV} {s7 : St} {fH : Nat × (Int → Option PV)} {Q : Fl → Fm → St → Prop} (hops : ∀ (j : Nat) (x : PV), xs[j]? = some x → ∃ y, ys[j]? = some y ∧ OpnOk fH x y) (hlen : ys.length = xs.length) (hl2 : xs.length ≤ 2) (hP : s7.ls P = some [.str nm])
    (f7 : s7.ins f = some (624, [(23, .ref T), (24, .ref H)])) (H7 : s7.di H = some fH) (hfP : f ≠ P) (hHP : H ≠ P) (h : ∀ p11 st8, Keep [P] s7 st8 → st8.ls P = some (.str nm :: ys) → Q .next [q0, q1, q2, q3, some (.ref f), q5, q6, q7, q8, q9, some (.ref P), p11] st8) :
    W.loop (fun _ => True) xs (W.tName 11) (W.seq (W.expr (W.methB isL Sp.append (W.loc 10) (W.cons (W.call Sp_real_operand (W.cons (W.loc 11) (W.cons (W.attr 624 24 (W.loc 4)) W.nil))) W.nil))) W.skip)
      [q0, q1, q2, q3, some (.ref f), q5, q6, q7, q8, q9, some (.ref P), p0] s7 Q ⟨⟩ := by
  refine ⟨Al4 (fun p => [q0, q1, q2, q3, some (.ref f), q5, q6, q7, q8, q9, some (.ref P), p]) P nm ys s7, ⟨_, rfl, .rfl' _ _, hP⟩, fun j m' st8 hI => ?_⟩
  obtain ⟨p11, hm, k8, P8⟩ := hI
  subst hm
  refine ⟨trivial, fun x hx => ?_, fun hx => ?_⟩
  · obtain ⟨y, hy, hxy⟩ := hops j x hx
    have hjl := get_lt hx
    refine app_step rfl P8 (fun R q => call_of (cons_loc rfl (cons_attr (b := f) (p := .ref H) rfl (k8.ins (not1 hfP) f7) rfl (real_op hxy (k8.di (not1 hHP) H7) q)))) ?_ (lp_next ⟨_, rfl, k8.trans (keep_setL (.inl (.head _))), ?_⟩)
    · rw [List.length_cons, List.length_take]; omega
    · rw [take_snoc hy]; exact ls_eq
  · rw [List.take_of_length_le (by rw [hlen]; exact List.getElem?_eq_none_iff.mp hx)] at P8
    exact h p11 st8 k8 P8
theorem parts_ok (r : Row) : ∃ nm, ∀ w, r.parts w = .str nm :: (r.parts w).drop 1 ∧ ((r.parts w).drop 1).length ≤ 2 := by cases r <;> exact ⟨_, fun _ => ⟨rfl, Nat.le_of_ble_eq_true rfl⟩⟩
theorem parts_len (r : Row) (w w' : Int → PV) : ((r.parts w).drop 1).length = ((r.parts w').drop 1).length := by cases r <;> rfl
inductive Al3 (fr : Option PV → Option PV → Option PV → Fm) (RL : Addr) (g : Int → Int) (rs : List Row) (s6 : St) (i : Nat) (m' : Fm) (st7 : St) : Prop
  | mk (p9 p10 p11 : Option PV) (hm : m' = fr p9 p10 p11) (k7 : Keep [RL] s6 st7) (RL7 : st7.ls RL = some ((rs.take i).map (Row.pv (xr g))))
theorem al3 {q0 q2 q3 q5 q6 q7 : Option PV} {L f T H RL : Addr} {g : Int → Int} {rs : List Row} {s6 : St} {fH : Nat × (Int → Option PV)} {Q : Fl → Fm → St → Prop} (hL : s6.ls L = some (code rs)) (hLR : L ≠ RL) (f6 : s6.ins f = some (624, [(23, .ref T), (24, .ref H)])) (H6 : s6.di H = some fH) (hfR : f ≠ RL) (hHR : H ≠ RL) (h0 : s6.ls RL = some []) (hl : rs.length ≤ 100)
    (ht : ∀ r ∈ rs, ∀ b n, r.touch = some (b, n) → fH.2 n = some (.int (g n))) (h : ∀ p9 p10 p11 st7, Keep [RL] s6 st7 → st7.ls RL = some (rs.map (Row.pv (xr g))) → Q .next [q0, some (.ref L), q2, q3, some (.ref f), q5, q6, q7, some (.ref RL), p9, p10, p11] st7) :
    W.loop (fun st => st.ls L = some (code rs)) (code rs) (W.tName 9) (W.seq (W.asg 10 (W.list (W.cons (W.subT (W.loc 9) (W.const (.int 0))) W.nil)))
      (W.seq (W.for (W.tupRest (W.loc 9)) (W.tName 11) (W.seq (W.expr (W.methB isL Sp.append (W.loc 10) (W.cons (W.call Sp_real_operand (W.cons (W.loc 11) (W.cons (W.attr 624 24 (W.loc 4)) W.nil))) W.nil))) W.skip))
      (W.seq (W.expr (W.methB isL Sp.append (W.loc 8) (W.cons (W.call Sp.tupOf (W.cons (W.loc 10) W.nil)) W.nil))) W.skip)))
      [q0, some (.ref L), q2, q3, some (.ref f), q5, q6, q7, some (.ref RL), none, none, none] s6 Q ⟨⟩ := by
  refine ⟨Al3 (fun p9 p10 p11 => [q0, some (.ref L), q2, q3, some (.ref f), q5, q6, q7, some (.ref RL), p9, p10, p11]) RL g rs s6, ⟨_, _, _, rfl, .rfl' _ _, h0⟩, fun i m' st7 hI => ?_⟩
  obtain ⟨p9, p10, p11, hm, k7, RL7⟩ := hI
  subst hm
  refine ⟨k7.ls (not1 hLR) hL, fun x hx => ?_, fun hx => h p9 p10 p11 st7 k7 (map_none hx ▸ RL7)⟩
  obtain ⟨r, hr, rfl⟩ := map_get hx
  obtain ⟨nm, hnm⟩ := parts_ok r
  have e0 : ∀ w, Row.pv w r = .tup (.str nm :: (r.parts w).drop 1) := fun w => by unfold Row.pv; rw [← (hnm w).1]
  have f7 := k7.ins (not1 hfR) f6
  have H7 := k7.di (not1 hHR) H6
  rw [e0]
  intro P fP
  refine ⟨_, rfl, Nat.le_add_left _ _, .inl ⟨_, rfl, al4 (T := T) (ops_ok r (ht r (List.mem_of_getElem? hr))) (parts_len r _ _) (hnm tmp).2 ls_eq f7 H7 (free_ne_ins fP f7) (free_ne_di fP H7) fun p11 st8 k8 P8 => ?_⟩⟩
  have RL8 := k8.ls (not1 (free_ne_ls fP RL7)) (ls_ne (free_ne_ls fP RL7) RL7)
  refine app_step rfl RL8 (fun R q => ⟨P, _, rfl, P8, q⟩) ?_ (lp_next ⟨_, _, _, rfl, ?_, ?_⟩)
  · have := get_lt hr; rw [List.length_map, List.length_take]; omega
  · intro b mo hb q
    have q7 := k7 b mo hb q
    exact keep_setL (X := [RL]) (.inl (.head _)) b mo hb (k8 b mo (not1 fun e => fP mo (e ▸ q7)) (keep_setL (X := []) (.inr fP) b mo not0 q7))
  · rw [take_snoc hr, List.map_append, ← e0]; exact ls_eq
theorem ok_allocate (kf : KF c.K) (hby : CallOk c (n + 3) (.ref 635) Sp_by_start) : CodeOk c (n + 4) (.ref 649) Sp_allocate := co_allocate (n := n + 3) kf (h_RegisterFile := CodeOk.call (ok_RF (n := n + 1) kf)) (h_intervals := CodeOk.call (ok_intervals kf)) (h_wishes := CodeOk.call (ok_wishes (n := n + 2) kf)) (h_by_start := hby) (h_m_place := CodeOk.call (ok_place kf)) (h_real_operand := CodeOk.call (ok_real_operand (n := n + 2) kf)) (h_greatest := CodeOk.call (ok_greatest (n := n + 1) kf)) (fun ps st Q h => by
  obtain ⟨sy, L, rs, rfl, h1, hl, htb, hasc, hp1, hp60, hlim, h⟩ := h
  refine ⟨rfl, ?_⟩
  unfold w_allocate
  refine ⟨rfl, fun f T H st1 ff fT fH k1 neTH f1 T1 H1 N fN => ?_⟩
  have L1 := k1.ls not0 h1
  have hNL := free_ne_ls fN L1
  have hTN := free_ne_di fN T1
  have hHN := free_ne_di fN H1
  have hfN := free_ne_ins fN f1
  refine ⟨L, rs, rfl, ls_ne hNL L1, hl, fun st2 R1 occs k2 fR1 R1e hkey hocc hnn hfro => .inr ⟨R1, _, rfl, R1e, ?_⟩⟩
  have hol : occs.length ≤ 60 := by rw [← hkey, List.length_map] at hp60; exact hp60
  have hoN : ∀ o ∈ occs, o.a ≠ N := fun o ho e => hfro o ho (.list []) (e ▸ ls_eq)
  refine al1 (k2.ls not0 ls_eq) R1e (Ne.symm (free_ne_ls fR1 ls_eq)) hol (fun o ho => ⟨hocc o ho, hoN o ho⟩) fun p6 st' k3 N3 => ?_
  have k23 : ∀ b mo, b ≠ N → st1.has b mo → st'.has b mo := fun b mo hb q => k3 b mo (not1 hb) (k2 b mo not0 (keep_setL (X := []) (.inr fN) b mo not0 q))
  have hLs : st'.ls L = some (code rs) := k23 L (.list _) hNL L1
  have hfs : st'.ins f = some (624, [(23, .ref T), (24, .ref H)]) := k23 f (.inst _ _) hfN f1
  have hTs : st'.di T = some (0, fun _ => none) := k23 T (.di _) hTN T1
  have hHs : st'.di H = some (0, fun _ => none) := k23 H (.di _) hHN H1
  have htb1 := k1.tb not0 htb
  have htbs : st'.tb 630 = true := k23 630 .tab (fun e => fN .tab (e ▸ htb1)) htb1
  have kst : Keep [] st st' := fun b mo _ q => have q1 := k1 b mo not0 q; k23 b mo (fun e => fN mo (e ▸ q1)) q1
  refine orF_of rfl ⟨L, tmp, rs, rfl, hLs, fun st4 Wd fW k4 W4 => orF_of rfl ⟨N, occs, rfl, k4.ls not0 N3, k4.tb not0 htbs, fun o ho => k4.ins not0 (k3.ins (not1 (hoN o ho)) (hocc o ho)), ?_, ?_, hol, fun st5 R k5 fR R5 => .inr ⟨R, _, rfl, R5, ?_⟩⟩⟩
  · rw [← hkey, List.pairwise_map] at hasc; exact hasc
  · rw [← hkey, List.length_map] at hp1; exact hp1
  have k45 := k4.trans k5
  refine al2 R5 (Ne.symm (free_ne_di fR (k4.di not0 hTs))) (Ne.symm (free_ne_di fR (k4.di not0 hHs))) (rf0 neTH (k45.ins not0 hfs) (k45.di not0 hTs) (k45.di not0 hHs)) (k5.di not0 W4) (Ne.symm (free_ne_di fW hTs)) (Ne.symm (free_ne_di fW hHs)) hol (fun o ho => k45.ins not0 (k3.ins (not1 (hoN o ho)) (hocc o ho))) hnn fun p6 st6 A hA hRF hhas => ?_
  obtain ⟨fT6, fH6, R6⟩ := hRF
  have k06 : ∀ b mo, st.has b mo → st6.has b mo := fun b mo q => hhas b mo (k45 b mo not0 (kst b mo not0 q)) (fun e => fT mo (e ▸ q)) (fun e => fH mo (e ▸ q))
  have L6 : st6.ls L = some (code rs) := k06 L (.list _) h1
  have hg : ∀ p ∈ A, homeOf fH6.2 p.1.n = p.2 := fun p hp => by unfold homeOf; rw [R6.home p hp]
  have htouch : ∀ r ∈ rs, ∀ b n, r.touch = some (b, n) → fH6.2 n = some (.int (homeOf fH6.2 n)) := fun r hr b n ht => by
    obtain ⟨j, hj⟩ := List.getElem?_of_mem hr
    have h1 := ivsN_mem rs rs.length j r b n (get_lt hj) hj ht
    rw [← hkey, ← hA.1, List.map_map, List.map_map] at h1
    obtain ⟨p, hp, e⟩ := List.mem_map.mp h1
    have e' : p.1.n = n := e
    rw [← e', hg p hp]
    exact R6.home p hp
  intro RL fRL
  have hLR := free_ne_ls fRL L6
  refine .inr ⟨L, _, rfl, ls_ne hLR L6, al3 (T := T) (ls_ne hLR L6) hLR R6.ins R6.fh (free_ne_ins fRL R6.ins) (free_ne_di fRL R6.fh) ls_eq hl htouch fun p9 p10 p11 st7 k7 RL7 => ⟨RL, homeOf fH6.2, rs, rfl, RL7, fun st8 k8 => br_f (decide_eq_false (Int.not_lt.mpr (hlim occs A _ hkey hA hg))) (st_end (h _ RL occs A (homeOf fH6.2) (fun b mo _ q => ?_) hkey hA hg (k8.ls not0 RL7)))⟩⟩
  have q6 := k06 b mo q
  exact k8 b mo not0 (k7 b mo (not1 fun e => fRL mo (e ▸ q6)) (keep_setL (X := []) (.inr fRL) b mo not0 q6)))
end
end Mine
namespace Mine
noncomputable def nums (rs : List Row) (i : Nat) : List Int := (ivsN rs i).map fun (y : Iv) => y.1
theorem nums_succ (rs : List Row) (i : Nat) (r : Row) (h : rs[i]? = some r) : nums rs (i + 1) = match r.touch with | some (_, n) => if n ∈ nums rs i then nums rs i else nums rs i ++ [n] | none => nums rs i := by
  unfold nums
  show ((match (rs[i]?).bind Row.touch with | some (_, n) => tch (ivsN rs i) i n | none => ivsN rs i)).map _ = _
  rw [h]
  show ((match r.touch with | some (_, n) => tch (ivsN rs i) i n | none => ivsN rs i)).map _ = _
  cases r.touch with
  | none => rfl
  | some t =>
    obtain ⟨b, n⟩ := t
    show (tch (ivsN rs i) i n).map _ = if n ∈ (ivsN rs i).map (fun (y : Iv) => y.1) then _ else _
    unfold tch
    have e : ((ivsN rs i).any (fun x => decide (x.1 = n)) = true) ↔ n ∈ (ivsN rs i).map (fun (y : Iv) => y.1) := by
      rw [List.any_eq_true, List.mem_map]
      exact ⟨fun ⟨x, h1, h2⟩ => ⟨x, h1, of_decide_eq_true h2⟩, fun ⟨x, h1, h2⟩ => ⟨x, h1, decide_eq_true h2⟩⟩
    by_cases hn : n ∈ (ivsN rs i).map (fun (y : Iv) => y.1)
    · rw [if_pos (e.mpr hn), if_pos hn, List.map_map]
      apply List.map_congr_left; intro y _; simp only [Function.comp]; split <;> rfl
    · rw [if_neg (fun z => hn (e.mp z)), if_neg hn, List.map_append]; rfl
theorem nums_len (rs : List Row) : ∀ j, (nums rs j).length ≤ j
  | 0 => Nat.le_refl _
  | j + 1 => by
    have ih := nums_len rs j
    cases hj : rs[j]? with
    | none =>
      have : nums rs (j + 1) = nums rs j := by
        unfold nums
        show ((match (rs[j]?).bind Row.touch with | some (_, n) => tch (ivsN rs j) j n | none => ivsN rs j)).map _ = _
        rw [hj]; rfl
      rw [this]; (first | lia | omega)
    | some r' =>
      rw [nums_succ rs j r' hj]
      cases r'.touch with
      | none => show (nums rs j).length ≤ _; (first | lia | omega)
      | some t =>
        obtain ⟨b, n⟩ := t
        show (if n ∈ nums rs j then nums rs j else nums rs j ++ [n]).length ≤ _
        split
        · (first | lia | omega)
        · simp; (first | lia | omega)
structure RightOk (l : List Arg) (rs : List Row) (due : Int) : Prop where
  rows : rs.length = Arg.rows (.sub l)
  comp : (ivsN rs rs.length).length = Arg.comp (.sub l)
  good : Arg.Good (.sub l)
  c13 : Arg.comp (.sub l) ≤ 13
  asc : (ivsN rs rs.length).Pairwise (fun x y => x.2.1 < y.2.1)
  mx : ∀ occs A g, occs.map Oc.key = ivsN rs rs.length → FFs occs A → (∀ p ∈ A, g p.1.n = p.2) → gmax g rs = due
  due60 : due ≤ 60
noncomputable def tmpOf : PV → Option Int | .tup [.str _, .int n] => some n | _ => none
noncomputable def proc (ns : List Int) (x : PV) : List Int := match tmpOf x with | some n => if n ∈ ns then ns else ns ++ [n] | none => ns
theorem proc_row (ns : List Int) (r : Row) : ((r.parts tmp).drop 1).foldl proc ns = match r.touch with | some (_, n) => if n ∈ ns then ns else ns ++ [n] | none => ns := by
  cases r <;> simp [Row.parts, Row.touch, proc, tmpOf, tmp, con]
theorem op_kinds (r : Row) : ∀ x ∈ (r.parts tmp).drop 1, (∃ n, x = tmp n) ∨ (∃ k, x = .int k) ∨ (∃ k, x = con k) := fun x hx => by
  cases r <;> simp [Row.parts] at hx <;> (first | (subst hx; first | exact .inl ⟨_, rfl⟩ | exact .inr (.inr ⟨_, rfl⟩)) | (rcases hx with rfl | rfl; exact .inr (.inl ⟨_, rfl⟩); exact .inl ⟨_, rfl⟩))
section
variable {c : Cx} {n : Nat}
inductive Sp_l_right (ps : List PV) (st : St) (Q : PV → St → Prop) : Prop
  | mk (sy : PV) (L : Addr) (l : List Arg) (rs : List Row) (due : Int) (_ : ps = [sy, .ref L, Arg.pv (.sub l), .int due]) (_ : st.ls L = some (code rs)) (_ : st.tb 630 = true) (_ : RightOk l rs due) (_ : ∀ st', Keep [] st st' → Q (.bool true) st') : Sp_l_right ps st Q
theorem EvT.notInT {a b : WE} {m : Fm} {st : St} {x : Str} {i : Int} {d : Addr} {ns : List Int} (he : Ev a m st (.tup [.str x, .int i])) (hi : Ev b m st (.ref d)) (hd : st.ls d = some (ns.map fun j => .tup [.str x, .int j])) : EvT (W.notInT a b) m st (!(decide (i ∈ ns))) := fun _ q => he _ (hi _ ⟨x, i, d, ns, rfl, rfl, hd, q⟩)
theorem step_neT2 {e e2 : WE} {a b rest : WS} {m : Fm} {st : St} {Q : Fl → Fm → St → Prop} {i j : Int} (he : Ev e m st (.tup [.int i, .int j])) (h : e2 m st fun u st₂ => ∃ i' j' k l, PV.tup [.int i, .int j] = .tup [.int i', .int j'] ∧ u = .tup [.int k, .int l] ∧ br (!(decide (i' = k) && decide (j' = l))) (a m st₂ (sq rest Q)) (b m st₂ (sq rest Q))) : W.seq (W.ite (W.neT2 e e2) a b) rest m st Q := he _ h
theorem grow : ∀ (ys : List PV) (ns : List Int), (ys.foldl proc ns).length ≤ ns.length + ys.length
  | [], ns => Nat.le_refl _
  | y :: ys, ns => by
    have h2 : (proc ns y).length ≤ ns.length + 1 := by
      unfold proc
      split
      · split
        · exact Nat.le_succ _
        · rw [List.length_append]; exact Nat.le_refl _
      · exact Nat.le_succ _
    have := grow ys (proc ns y)
    rw [List.foldl_cons, List.length_cons]
    (first | lia | omega)
theorem rt_item {q0 q1 q2 q3 q5 : Option PV} {F : Addr} {x : PV} {ns : List Int} {st8 : St} {Q : Fl → Fm → St → Prop} (hx : (∃ n, x = tmp n) ∨ (∃ k, x = .int k) ∨ (∃ k, x = con k)) (F8 : st8.ls F = some (tmps ns)) (hl : ns.length < 1000000) (h : ∀ st9, Keep [F] st8 st9 → st9.ls F = some (tmps (proc ns x)) → Q .next [q0, q1, q2, q3, some (.ref F), q5, some x] st9) :
    W.seq (W.ite (W.andT (W.valT (W.isTup (W.loc 6))) (W.andT (W.cmpT gEq (W.subT (W.loc 6) (W.const (.int 0))) (W.const (.str "t"))) (W.andT (W.notInT (W.loc 6) (W.loc 4)) (W.tt true)))) (W.seq (W.expr (W.methB isL Sp.append (W.loc 4) (W.cons (W.loc 6) W.nil))) W.skip) W.skip) W.skip
      [q0, q1, q2, q3, some (.ref F), q5, some x] st8 Q := by
  rcases hx with ⟨nn, rfl⟩ | ⟨k, rfl⟩ | ⟨k, rfl⟩
  · have hp : proc ns (tmp nn) = if nn ∈ ns then ns else ns ++ [nn] := rfl
    refine step_ite (EvT.and (EvT.val (Ev.isTup (Ev.loc rfl) rfl)) (EvT.and (EvT.cmp (Ev.subT (Ev.loc rfl) Ev.const rfl) Ev.const (gEq_str _)) (EvT.and (EvT.notInT (x := "t") (i := nn) (ns := ns) (Ev.loc rfl) (Ev.loc rfl) F8) EvT.tt))) (fun hc => ?_) (fun hc => ?_)
    · have hn : nn ∉ ns := by simpa using hc
      rw [if_neg hn] at hp
      exact app_step (p := tmp nn) rfl F8 (Ev.loc rfl) (by unfold tmps; rw [List.length_map]; exact hl) (h _ (keep_setL (.inl (.head _))) (by rw [hp]; unfold tmps; rw [List.map_append]; exact ls_eq))
    · have hn : nn ∈ ns := by simpa using hc
      rw [if_pos hn] at hp
      exact h _ (.rfl' _ _) (by rw [hp]; exact F8)
  · exact step_f (EvT.and_f (EvT.val (Ev.isTup (Ev.loc rfl) rfl))) (h _ (.rfl' _ _) F8)
  · exact step_f (EvT.and (b := true) (b' := false) (EvT.val (Ev.isTup (Ev.loc rfl) rfl)) (EvT.and_f (EvT.cmp (Ev.subT (Ev.loc rfl) Ev.const rfl) Ev.const rfl))) (h _ (.rfl' _ _) F8)
inductive InvR (fr : Option PV → Option PV → Fm) (F : Addr) (rs : List Row) (s0 : St) (i : Nat) (m' : Fm) (st' : St) : Prop
  | mk (p5 p6 : Option PV) (hm : m' = fr p5 p6) (hi : i ≤ rs.length) (k1 : Keep [F] s0 st') (F1 : st'.ls F = some (tmps (nums rs i)))
inductive InvR2 (fr : Option PV → Fm) (F : Addr) (xs : List PV) (ns : List Int) (s0 : St) (j : Nat) (m' : Fm) (st' : St) : Prop
  | mk (p6 : Option PV) (hm : m' = fr p6) (k1 : Keep [F] s0 st') (F1 : st'.ls F = some (tmps ((xs.take j).foldl proc ns)))
theorem rt_row {q0 q1 q2 q3 p6 : Option PV} {F : Addr} {nm : Str} {xs : List PV} {ns : List Int} {s0 st7 : St} {Q : Fl → Fm → St → Prop} (hk : ∀ x ∈ xs, (∃ n, x = tmp n) ∨ (∃ k, x = .int k) ∨ (∃ k, x = con k)) (hxl : xs.length ≤ 2) (hl : ns.length ≤ 100) (k7 : Keep [F] s0 st7) (F7 : st7.ls F = some (tmps ns))
    (h : ∀ p6 st9, Keep [F] s0 st9 → st9.ls F = some (tmps (xs.foldl proc ns)) → Q .next [q0, q1, q2, q3, some (.ref F), some (.tup (.str nm :: xs)), p6] st9) :
    W.loop (fun _ => True) xs (W.tName 6) (W.seq (W.ite (W.andT (W.valT (W.isTup (W.loc 6))) (W.andT (W.cmpT gEq (W.subT (W.loc 6) (W.const (.int 0))) (W.const (.str "t"))) (W.andT (W.notInT (W.loc 6) (W.loc 4)) (W.tt true)))) (W.seq (W.expr (W.methB isL Sp.append (W.loc 4) (W.cons (W.loc 6) W.nil))) W.skip) W.skip) W.skip)
      [q0, q1, q2, q3, some (.ref F), some (.tup (.str nm :: xs)), p6] st7 Q ⟨⟩ := by
  refine ⟨InvR2 (fun p => [q0, q1, q2, q3, some (.ref F), some (.tup (.str nm :: xs)), p]) F xs ns s0, ⟨_, rfl, k7, F7⟩, fun j m8 st8 hI => ?_⟩
  obtain ⟨p6, hm, k8, F8⟩ := hI
  subst hm
  refine ⟨trivial, fun x hx => ?_, fun hx => ?_⟩
  · have hg := grow (xs.take j) ns
    have hjl := get_lt hx
    rw [List.length_take] at hg
    exact rt_item (hk x (List.mem_of_getElem? hx)) F8 (by (first | lia | omega)) fun st9 k9 F9 => lp_next ⟨_, rfl, k8.trans k9, by rw [take_snoc hx, List.foldl_append]; exact F9⟩
  · rw [List.take_of_length_le (List.getElem?_eq_none_iff.mp hx)] at F8
    exact h _ _ k8 F8
theorem ok_l_right (kf : KF c.K) (hby : CallOk c (n + 19) (.ref 635) Sp_by_start) : CodeOk c (n + 21) (.ref 703) Sp_l_right := co_l_right (n := n + 20) kf (h_l_totals := CodeOk.call (ok_l_totals (n := n + 5) kf 13)) (h_greatest := CodeOk.call (ok_greatest (n := n + 18) kf)) (h_allocate := CodeOk.call (ok_allocate (n := n + 16) kf hby)) (fun ps st Q h => by
  obtain ⟨sy, L, l, rs, due, rfl, h1, htb, K, h⟩ := h
  refine ⟨rfl, ?_⟩
  have hR := rows_comp _ K.good
  have hrl : rs.length ≤ 52 := by rw [K.rows]; have := K.c13; (first | lia | omega)
  unfold w_l_right
  intro F fF
  have hLF := free_ne_ls fF h1
  have kst : ∀ st', Keep [F] (st.setL F []) st' → Keep [] st st' := fun st' k b mo _ q => k b mo (not1 fun e => fF mo (e ▸ q)) (keep_setL (X := []) (.inr fF) b mo not0 q)
  refine .inr ⟨L, _, rfl, ls_ne hLF h1, InvR (fun p5 p6 => [some sy, some (.ref L), some (Arg.pv (.sub l)), some (.int due), some (.ref F), p5, p6]) F rs (st.setL F []), ⟨_, _, rfl, Nat.zero_le _, .rfl' _ _, ls_eq⟩, fun i m' st' hI => ?_⟩
  obtain ⟨p5, p6, hm, hi, k1, F1⟩ := hI
  subst hm
  have L1 := (kst _ k1).ls not0 h1
  refine ⟨L1, fun x hx => ?_, fun hx => ?_⟩
  · obtain ⟨r, hr, rfl⟩ := map_get hx
    obtain ⟨nm, hnm⟩ := parts_ok r
    have e0 : Row.pv tmp r = .tup (.str nm :: (r.parts tmp).drop 1) := by unfold Row.pv; rw [← (hnm tmp).1]
    rw [e0]
    exact ⟨_, rfl, Nat.le_add_left _ _, .inl ⟨_, rfl, rt_row (op_kinds r) (hnm tmp).2 (Nat.le_trans (nums_len rs i) (by (first | lia | omega))) k1 F1 fun p6 st9 k9 F9 => lp_next ⟨_, _, rfl, get_lt hr, k9, by rw [nums_succ rs i r hr, ← proc_row]; exact F9⟩⟩⟩
  · obtain rfl : i = rs.length := Nat.le_antisymm hi (by rw [← List.length_map (f := Row.pv tmp)]; exact List.getElem?_eq_none_iff.mp hx)
    have hnn : (tmps (nums rs rs.length)).length = Arg.comp (.sub l) := by unfold tmps nums; rw [List.length_map, List.length_map, K.comp]
    have hcr : (code rs).length = Arg.rows (.sub l) := by unfold code; rw [List.length_map, K.rows]
    refine step_neT2 (Ev.tup (EvS.cons (Ev.len (Ev.loc rfl) L1) (EvS.cons (Ev.len (Ev.loc rfl) F1) EvS.nil)) rfl) ⟨l, rfl, K.good, K.c13, fun st2 k2 => ⟨_, _, _, _, rfl, rfl, br_f (by rw [decide_eq_true (congrArg Nat.cast hcr), decide_eq_true (congrArg Nat.cast hnn)]; rfl) ?_⟩⟩
    have k12 := (kst _ k1).trans k2
    refine ⟨sy, L, rs, rfl, k2.ls not0 L1, by (first | lia | omega), k12.tb not0 htb, K.asc, by rw [K.comp]; exact Nat.le_add_right 1 _, by rw [K.comp]; exact Nat.le_trans K.c13 (by decide), fun occs A g e1 e2 e3 => by rw [K.mx occs A g e1 e2 e3]; exact K.due60, fun st3 Rr occs A g k3 e1 e2 e3 e4 => ⟨Rr, g, rs, rfl, e4, fun st4 k4 => st_end ?_⟩⟩
    show Q (.bool (decide (gmax g rs = due))) _
    rw [decide_eq_true (K.mx occs A g e1 e2 e3)]
    exact h _ ((k12.trans k3).trans k4))
end
end Mine
namespace Mine
/-- what the plain law has to give -/
structure Plain : Prop where
  taken : ∀ l rows nx', Arg.Good (.sub l) → Arg.comp (.sub l) ≤ 13 → MRun [(.sub l, 0)] 1 rows nx' → RightOk l rows (Arg.apart (.sub l))
  made : ∀ l rows nx', Arg.Good (.sub l) → Arg.comp (.sub l) ≤ 13 → BRun [(false, .sub l)] [] 1 rows nx' → RightOk l rows (Arg.tog (.sub l))
theorem keep_drop {X : List Addr} {s0 s1 s2 : St} (h : Keep [] s0 s1) (k : Keep X s1 s2) (hf : ∀ x ∈ X, s0.free x) : Keep [] s0 s2 := fun b mo _ q =>
  k b mo (fun hb => hf b hb mo q) (h b mo (fun z => nomatch z) q)
section
variable {c : Cx} {n : Nat}
end
end Mine
namespace Mine
theorem nodup_len {α} [DecidableEq α] : ∀ (l m : List α), l.Nodup → (∀ x ∈ l, x ∈ m) → l.length ≤ m.length
  | [], _, _, _ => Nat.zero_le _
  | a :: l, m, h, hs => by
    have h' := List.nodup_cons.mp h
    have ha : a ∈ m := hs a (.head _)
    have := nodup_len l (m.erase a) h'.2 (fun x hx => (List.mem_erase_of_ne (fun e => h'.1 (by rw [← e]; exact hx))).mpr (hs x (.tail _ hx)))
    rw [List.length_erase_of_mem ha] at this
    have hp : 0 < m.length := List.length_pos_of_mem ha
    simp only [List.length_cons]; (first | lia | omega)
theorem range1_nodup (n : Nat) : ((List.range n).map (fun i => ((i + 1 : Nat) : Int))).Nodup := by
  rw [List.Nodup, List.pairwise_map]
  exact List.pairwise_lt_range.imp (fun h e => by (first | lia | omega))
/-- live at the start of x -/
noncomputable def liveAt (l : List Iv) (t : Int) : Nat := l.countP (fun y => decide (y.2.1 ≤ t ∧ t < y.2.2))
structure FFA (A : List (Oc × Int)) : Prop where
  ff : ∀ (k : Nat) (p : Oc × Int), A[k]? = some p → ∃ r : Nat, p.2 = r ∧ isFF (A.take k) p.1 r
  asc : ∀ (i j : Nat) (p q : Oc × Int), i < j → A[i]? = some p → A[j]? = some q → p.1.i < q.1.i
  ne : ∀ p ∈ A, p.1.i < p.1.j
theorem freeIn_iff {A : List (Oc × Int)} {o : Oc} {r : Int} : freeIn A o r = true ↔ ∀ p ∈ A, p.2 = r → o.lap p.1 = false := by
  unfold freeIn regs
  rw [List.all_eq_true]
  constructor
  · intro h p hp e
    have := h p.1 (List.mem_map.mpr ⟨p, List.mem_filter.mpr ⟨hp, by simpa using e⟩, rfl⟩)
    simpa using this
  · intro h x hx
    obtain ⟨p, hp, rfl⟩ := List.mem_map.mp hx
    obtain ⟨h1, h2⟩ := List.mem_filter.mp hp
    have := h p h1 (by simpa using h2)
    simpa using this
theorem FFA.upper {A : List (Oc × Int)} (h : FFA A) {k : Nat} {p : Oc × Int} (e : A[k]? = some p) : p.2 ≤ liveAt (A.map fun q => q.1.key) p.1.i := by
  obtain ⟨r, e1, hr⟩ := h.ff k p e
  have hkl := (List.getElem?_eq_some_iff.mp e).1
  have hpm := List.mem_of_getElem? e
  have hsub : ∀ s ∈ (List.range (r - 1)).map (fun i => ((i + 1 : Nat) : Int)), s ∈ (((A.take k).filter fun q => decide (q.1.i ≤ p.1.i ∧ p.1.i < q.1.j)).map (·.2)) := by
    intro s hs
    obtain ⟨i, hi, rfl⟩ := List.mem_map.mp hs
    rw [List.mem_range] at hi
    have hl := hr.least (i + 1) (by (first | lia | omega)) (by (first | lia | omega))
    have hn : ¬ freeIn (A.take k) p.1 ((i + 1 : Nat) : Int) = true := by rw [hl]; decide
    rw [freeIn_iff] at hn
    have ⟨q, hq, hq2, hq3⟩ : ∃ q ∈ A.take k, q.2 = ((i + 1 : Nat) : Int) ∧ p.1.lap q.1 = true := by
      refine Classical.byContradiction fun hc => hn fun q hq e => ?_
      cases hb : p.1.lap q.1 with
      | false => rfl
      | true => exact absurd ⟨q, hq, e, hb⟩ hc
    refine List.mem_map.mpr ⟨q, List.mem_filter.mpr ⟨hq, ?_⟩, hq2⟩
    simp [Oc.lap] at hq3
    obtain ⟨j, hj⟩ := List.mem_iff_getElem?.mp hq
    have hjl := (List.getElem?_eq_some_iff.mp hj).1
    rw [List.length_take] at hjl
    rw [List.getElem?_take_of_lt (by (first | lia | omega))] at hj
    have := h.asc j k q p (by (first | lia | omega)) hj e
    simp; (first | lia | omega)
  have hlen := nodup_len _ _ (range1_nodup (r - 1)) hsub
  rw [List.length_map, List.length_map, List.length_range] at hlen
  have hA : A = A.take k ++ p :: A.drop (k + 1) := by
    obtain ⟨h1, h2⟩ := List.getElem?_eq_some_iff.mp e
    rw [← h2, ← List.drop_eq_getElem_cons h1]; exact (List.take_append_drop k A).symm
  have hcount : liveAt (A.map fun q => q.1.key) p.1.i ≥ ((A.take k).filter fun q => decide (q.1.i ≤ p.1.i ∧ p.1.i < q.1.j)).length + 1 := by
    unfold liveAt
    rw [List.countP_map]
    have hx : A.countP ((fun (y : Iv) => decide (y.2.1 ≤ p.1.i ∧ p.1.i < y.2.2)) ∘ fun q => q.1.key) = (A.take k ++ p :: A.drop (k + 1)).countP ((fun (y : Iv) => decide (y.2.1 ≤ p.1.i ∧ p.1.i < y.2.2)) ∘ fun q => q.1.key) := by rw [← hA]
    rw [hx, List.countP_append, List.countP_cons]
    have hpp : ((fun (y : Iv) => decide (y.2.1 ≤ p.1.i ∧ p.1.i < y.2.2)) ∘ fun (q : Oc × Int) => q.1.key) p = true := by
      have := h.ne p hpm
      simp [Oc.key]; exact this
    rw [if_pos hpp, List.countP_eq_length_filter]
    show _ + _ ≥ _
    have he : (A.take k).filter ((fun (y : Iv) => decide (y.2.1 ≤ p.1.i ∧ p.1.i < y.2.2)) ∘ fun (q : Oc × Int) => q.1.key) = (A.take k).filter fun q => decide (q.1.i ≤ p.1.i ∧ p.1.i < q.1.j) := rfl
    rw [he]; (first | lia | omega)
  have hpos := hr.pos
  rw [e1]
  generalize liveAt (A.map fun q => q.1.key) p.1.i = L at hcount ⊢
  generalize hG : ((A.take k).filter fun q => decide (q.1.i ≤ p.1.i ∧ p.1.i < q.1.j)).length = G at hcount hlen
  (first | lia | omega)
theorem FFA.lower {A : List (Oc × Int)} (h : FFA A) {k : Nat} {p : Oc × Int} (e : A[k]? = some p) : ∃ q ∈ A, liveAt (A.map fun q => q.1.key) p.1.i ≤ q.2 := by
  refine Classical.byContradiction fun hc => ?_
  have hb : ∀ q ∈ A, q.2 < liveAt (A.map fun q => q.1.key) p.1.i := fun q hq => by
    rcases Int.lt_or_le q.2 (liveAt (A.map fun q => q.1.key) p.1.i) with h1 | h1
    · exact h1
    · exact absurd ⟨q, hq, h1⟩ hc
  have hlv : liveAt (A.map fun q => q.1.key) p.1.i = ((A.filter fun q => decide (q.1.i ≤ p.1.i ∧ p.1.i < q.1.j)).map (·.2)).length := by
    unfold liveAt
    rw [List.countP_map, List.countP_eq_length_filter, List.length_map]; rfl
  have hnd : ((A.filter fun q => decide (q.1.i ≤ p.1.i ∧ p.1.i < q.1.j)).map (·.2)).Nodup := by
    rw [List.Nodup, List.pairwise_map]
    have : A.Pairwise (fun x y => (x.1.i ≤ p.1.i ∧ p.1.i < x.1.j) → (y.1.i ≤ p.1.i ∧ p.1.i < y.1.j) → x.2 ≠ y.2) := by
      rw [List.pairwise_iff_getElem]
      intro i j hi hj hij l1 l2 heq
      have ei : A[i]? = some A[i] := List.getElem?_eq_getElem hi
      have ej : A[j]? = some A[j] := List.getElem?_eq_getElem hj
      obtain ⟨r, e1, hr⟩ := h.ff j _ ej
      have hf := freeIn_iff.mp hr.fr A[i] (List.mem_iff_getElem?.mpr ⟨i, by rw [List.getElem?_take_of_lt hij]; exact ei⟩) (by rw [heq, e1])
      simp [Oc.lap] at hf
      (first | lia | omega)
    have h2 := this.filter (fun q => decide (q.1.i ≤ p.1.i ∧ p.1.i < q.1.j))
    refine List.Pairwise.imp_of_mem (fun {x y} hx hy hh => ?_) h2
    have hx' := (List.mem_filter.mp hx).2
    have hy' := (List.mem_filter.mp hy).2
    exact hh (by simpa using hx') (by simpa using hy')
  have hpos : ∀ q ∈ A, 1 ≤ q.2 := fun q hq => by
    obtain ⟨i, hi⟩ := List.mem_iff_getElem?.mp hq
    obtain ⟨r, e1, hr⟩ := h.ff i q hi
    have := hr.pos
    (first | lia | omega)
  have hp1 := hb p (List.mem_of_getElem? e)
  have hp2 := hpos p (List.mem_of_getElem? e)
  have hsub : ∀ s ∈ (A.filter fun q => decide (q.1.i ≤ p.1.i ∧ p.1.i < q.1.j)).map (·.2), s ∈ (List.range (liveAt (A.map fun q => q.1.key) p.1.i - 1)).map (fun i => ((i + 1 : Nat) : Int)) := by
    intro s hs
    obtain ⟨q, hq, rfl⟩ := List.mem_map.mp hs
    have hq' := (List.mem_filter.mp hq).1
    have h1 := hb q hq'
    have h2 := hpos q hq'
    refine List.mem_map.mpr ⟨q.2.toNat - 1, List.mem_range.mpr (by (first | lia | omega)), by (first | lia | omega)⟩
  have hlen := nodup_len _ _ hnd hsub
  rw [← hlv, List.length_map, List.length_range] at hlen
  (first | lia | omega)
theorem foldg_le (g : Int → Int) (due : Int) : ∀ (rs : List Row) (m : Int), m ≤ due → (∀ r ∈ rs, ∀ b n, r.touch = some (b, n) → g n ≤ due) → rs.foldl (gstep g) m ≤ due
  | [], m, h, _ => h
  | r :: rs, m, h, hr => by
    rw [List.foldl_cons]
    refine foldg_le g due rs _ ?_ (fun x hx => hr x (.tail _ hx))
    unfold gstep
    split
    · rename_i b n e
      have := hr r (.head _) b n e
      split <;> (first | lia | omega)
    · exact h
theorem foldg_ge0 (g : Int → Int) : ∀ (rs : List Row) (m : Int), m ≤ rs.foldl (gstep g) m
  | [], m => Int.le_refl _
  | r :: rs, m => by
    rw [List.foldl_cons]
    have := foldg_ge0 g rs (gstep g m r)
    have h2 : m ≤ gstep g m r := by
      unfold gstep; split
      · split <;> (first | lia | omega)
      · (first | lia | omega)
    (first | lia | omega)
theorem foldg_ge (g : Int → Int) : ∀ (rs : List Row) (m : Int) (r : Row), r ∈ rs → ∀ b n, r.touch = some (b, n) → g n ≤ rs.foldl (gstep g) m
  | x :: rs, m, r, hr, b, n, e => by
    rw [List.foldl_cons]
    rcases List.mem_cons.mp hr with rfl | hr
    · have := foldg_ge0 g rs (gstep g m r)
      have h2 : g n ≤ gstep g m r := by
        unfold gstep; rw [e]; show g n ≤ if m < g n then g n else m
        split <;> (first | lia | omega)
      (first | lia | omega)
    · exact foldg_ge g rs _ r hr b n e
theorem mx_of {rs : List Row} {F : List Iv} {due : Int} (asc : F.Pairwise (fun x y => x.2.1 < y.2.1)) (ne : ∀ x ∈ F, x.2.1 < x.2.2)
    (h1 : ∀ r ∈ rs, ∀ b n, r.touch = some (b, n) → ∃ x ∈ F, x.1 = n) (h2 : ∀ x ∈ F, ∃ r ∈ rs, ∃ b, r.touch = some (b, x.1))
    (le : ∀ x ∈ F, (liveAt F x.2.1 : Int) ≤ due) (ex : ∃ x ∈ F, (liveAt F x.2.1 : Int) = due) :
    ∀ (occs : List Oc) (A : List (Oc × Int)) (g : Int → Int), occs.map Oc.key = F → FFs occs A → (∀ p ∈ A, g p.1.n = p.2) → gmax g rs = due := fun occs A g e1 e2 e3 => by
  have hF : (A.map fun q => q.1.key) = F := by rw [← e1, ← e2.1, List.map_map]; rfl
  have hmem : ∀ p ∈ A, p.1.key ∈ F := fun p hp => by rw [← hF]; exact List.mem_map.mpr ⟨p, hp, rfl⟩
  have hback : ∀ x ∈ F, ∃ p ∈ A, p.1.key = x := fun x hx => by rw [← hF] at hx; exact List.mem_map.mp hx
  have hA : FFA A := ⟨e2.2, fun i j p q hij hp hq => by
      rw [← hF, List.pairwise_map, List.pairwise_iff_getElem] at asc
      obtain ⟨hi, rfl⟩ := List.getElem?_eq_some_iff.mp hp
      obtain ⟨hj, rfl⟩ := List.getElem?_eq_some_iff.mp hq
      exact asc i j hi hj hij, fun p hp => ne _ (hmem p hp)⟩
  obtain ⟨x, hx, hxe⟩ := ex
  refine Int.le_antisymm ?_ ?_
  · rw [gmax_eq]
    refine foldg_le g due rs 0 (by (first | lia | omega)) (fun r hr b n e => ?_)
    obtain ⟨y, hy, hyn⟩ := h1 r hr b n e
    obtain ⟨p, hp, hpy⟩ := hback y hy
    have hpn : p.1.n = n := by rw [← hyn, ← hpy]; rfl
    rw [← hpn, e3 p hp]
    obtain ⟨k, hk⟩ := List.mem_iff_getElem?.mp hp
    have hu := hA.upper hk
    rw [hF] at hu
    have := le _ (hmem p hp)
    exact Int.le_trans hu this
  · obtain ⟨p, hp, hpx⟩ := hback x hx
    obtain ⟨k, hk⟩ := List.mem_iff_getElem?.mp hp
    obtain ⟨q, hq, hql⟩ := hA.lower hk
    rw [hF] at hql
    obtain ⟨r, hr, b, hb⟩ := h2 _ (hmem q hq)
    have h3 := foldg_ge g rs 0 r hr b _ hb
    have h4 : g q.1.key.1 = q.2 := e3 q hq
    rw [gmax_eq]
    have h5 : p.1.i = x.2.1 := by rw [← hpx]; rfl
    rw [h5] at hql
    (first | lia | omega)
end Mine
namespace Mine
noncomputable def ivS (l : List Iv) (t : Nat) (r : Row) : List Iv := match r.touch with | some (_, n) => tch l t n | none => l
noncomputable def ivsF (l : List Iv) (t : Nat) : List Row → List Iv
  | [] => l
  | r :: rs => ivsF (ivS l t r) (t + 1) rs
theorem ivsN_F (rs : List Row) : ∀ (b : List Row) (i : Nat), rs.drop i = b → i ≤ rs.length → ivsF (ivsN rs i) i b = ivsN rs rs.length
  | [], i, h, hi => by
    have : rs.length ≤ i := by rwa [List.drop_eq_nil_iff] at h
    have : i = rs.length := by (first | lia | omega)
    subst this; rfl
  | r :: b, i, h, hi => by
    have hlt : i < rs.length := by
      rcases Nat.lt_or_ge i rs.length with h1 | h1
      · exact h1
      · rw [List.drop_eq_nil_of_le h1] at h; cases h
    rw [List.drop_eq_getElem_cons hlt] at h
    injection h with h1 h2
    have := ivsN_F rs b (i + 1) h2 hlt
    have e : ivsN rs (i + 1) = ivS (ivsN rs i) i r := by
      show (match (rs[i]?).bind Row.touch with | some (_, n) => tch (ivsN rs i) i n | none => ivsN rs i) = _
      rw [List.getElem?_eq_getElem hlt, h1]; rfl
    rw [e] at this
    exact this
theorem ivsN_eq (rs : List Row) : ivsN rs rs.length = ivsF [] 0 rs := (ivsN_F rs rs 0 rfl (Nat.zero_le _)).symm
inductive Lv : List Int → List Int → List Row → List Nat → Prop
  | nil {seen O : List Int} : Lv seen O [] []
  | wr {seen O : List Int} {r : Row} {n : Int} {rs : List Row} {ks : List Nat} : r.touch = some (true, n) → n ∉ seen → (∀ m ∈ O, ∃ r' ∈ rs, ∃ b, r'.touch = some (b, m)) → Lv (seen ++ [n]) (O ++ [n]) rs ks → Lv seen O (r :: rs) ((O.length + 1) :: ks)
  | rd {seen O : List Int} {r : Row} {n : Int} {rs : List Row} {ks : List Nat} : r.touch = some (false, n) → n ∈ O → Lv seen (O.erase n) rs ks → Lv seen O (r :: rs) ks
  | no {seen O : List Int} {r : Row} {rs : List Row} {ks : List Nat} : r.touch = none → Lv seen O rs ks → Lv seen O (r :: rs) ks
noncomputable def st2 (y : Iv) : Int × Int := (y.1, y.2.1)
structure LI (l : List Iv) (t : Nat) (seen O : List Int) : Prop where
  nm : l.map (fun (y : Iv) => y.1) = seen
  nd : seen.Nodup
  od : O.Nodup
  sub : ∀ n ∈ O, n ∈ seen
  asc : l.Pairwise (fun x y => x.2.1 < y.2.1)
  lt : ∀ y ∈ l, y.2.1 < t
  ne : ∀ y ∈ l, y.2.1 < y.2.2
  cl : ∀ y ∈ l, y.2.2 ≤ t
structure LO (l : List Iv) (t : Nat) (O : List Int) (rs : List Row) (ks : List Nat) (F : List Iv) : Prop where
  asc : F.Pairwise (fun x y => x.2.1 < y.2.1)
  ne : ∀ y ∈ F, y.2.1 < y.2.2
  nd : (F.map (fun (y : Iv) => y.1)).Nodup
  ex : ∃ l' new, F = l' ++ new ∧ l'.map st2 = l.map st2 ∧ (∀ y ∈ new, (t : Int) ≤ y.2.1) ∧ new.map (fun y => liveAt F y.2.1) = ks
  cl : ∀ y ∈ l, y.1 ∉ O → y ∈ F
  mono : ∀ y ∈ l, ∃ y' ∈ F, y'.1 = y.1 ∧ y.2.2 ≤ y'.2.2
  tou : ∀ y ∈ F, (∃ r' ∈ rs, ∃ b, r'.touch = some (b, y.1)) → (t : Int) ≤ y.2.2
  back : ∀ y ∈ F, y.1 ∈ l.map (fun (y : Iv) => y.1) ∨ ∃ r ∈ rs, ∃ b, r.touch = some (b, y.1)
theorem count_open {seen O : List Int} (h : seen.Nodup) (ho : O.Nodup) (hs : ∀ n ∈ O, n ∈ seen) : seen.countP (fun n => decide (n ∈ O)) = O.length := by
  rw [List.countP_eq_length_filter]
  refine Nat.le_antisymm ?_ ?_
  · exact nodup_len _ _ (h.filter _) (fun x hx => by simpa using (List.mem_filter.mp hx).2)
  · exact nodup_len _ _ ho (fun x hx => List.mem_filter.mpr ⟨hs x hx, by simpa using hx⟩)
theorem tch_new {l : List Iv} {t n : Int} (h : n ∉ l.map (fun (y : Iv) => y.1)) : tch l t n = l ++ [(n, t, t + 1)] := by
  unfold tch
  rw [if_neg]
  intro hc
  rw [List.any_eq_true] at hc
  obtain ⟨x, h1, h2⟩ := hc
  exact h (List.mem_map.mpr ⟨x, h1, by simpa using h2⟩)
theorem tch_old {l : List Iv} {t n : Int} (h : n ∈ l.map (fun (y : Iv) => y.1)) : tch l t n = l.map (fun x => if x.1 = n ∧ x.2.2 < (t : Int) then (x.1, x.2.1, t) else x) := by
  unfold tch
  rw [if_pos]
  rw [List.any_eq_true]
  obtain ⟨x, h1, h2⟩ := List.mem_map.mp h
  exact ⟨x, h1, by simpa using h2⟩
theorem uniq1 : ∀ {F : List Iv}, (F.map (fun (y : Iv) => y.1)).Nodup → ∀ {x y : Iv}, x ∈ F → y ∈ F → x.1 = y.1 → x = y
  | a :: F, h, x, y, hx, hy, e => by
    have h' := List.nodup_cons.mp h
    rcases List.mem_cons.mp hx with ex | hx
    · rcases List.mem_cons.mp hy with ey | hy
      · rw [ex, ey]
      · exact absurd (List.mem_map.mpr ⟨y, hy, by rw [← e, ex]⟩) h'.1
    · rcases List.mem_cons.mp hy with ey | hy
      · exact absurd (List.mem_map.mpr ⟨x, hx, by rw [e, ey]⟩) h'.1
      · exact uniq1 h'.2 hx hy e
theorem LO_of {seen O : List Int} {rs : List Row} {ks : List Nat} (h : Lv seen O rs ks) : ∀ (l : List Iv) (t : Nat), LI l t seen O → LO l t O rs ks (ivsF l t rs) := by
  induction h with
  | nil =>
    intro l t L
    exact ⟨L.asc, L.ne, by show (l.map _).Nodup; rw [L.nm]; exact L.nd, ⟨l, [], by simp [ivsF], rfl, by simp, rfl⟩, fun y hy _ => hy, fun y hy => ⟨y, hy, rfl, Int.le_refl _⟩, fun y hy h => (by obtain ⟨_, h, _⟩ := h; cases h), fun y hy => .inl (List.mem_map.mpr ⟨y, hy, rfl⟩)⟩
  | @no seen O r rs ks hr hl ih =>
    intro l t L
    have e : ivS l t r = l := by unfold ivS; rw [hr]
    have I := ih l (t + 1) ⟨L.nm, L.nd, L.od, L.sub, L.asc, fun y hy => by have := L.lt y hy; (first | lia | omega), L.ne, fun y hy => by have := L.cl y hy; (first | lia | omega)⟩
    show LO l t O (r :: rs) ks (ivsF (ivS l t r) (t + 1) rs)
    rw [e]
    obtain ⟨l', new, x1, x2, x3, x4⟩ := I.ex
    refine ⟨I.asc, I.ne, I.nd, ⟨l', new, x1, x2, fun y hy => by have := x3 y hy; (first | lia | omega), x4⟩, I.cl, I.mono, fun y hy ⟨r', h1, b, h2⟩ => ?_, fun y hy => (I.back y hy).imp id (fun ⟨r', h1, b, h2⟩ => ⟨r', .tail _ h1, b, h2⟩)⟩
    rcases List.mem_cons.mp h1 with rfl | h1
    · rw [hr] at h2; cases h2
    · have := I.tou y hy ⟨r', h1, b, h2⟩; (first | lia | omega)
  | @rd seen O r n rs ks hr hn hl ih =>
    intro l t L
    have hns : n ∈ l.map (fun (y : Iv) => y.1) := by rw [L.nm]; exact L.sub n hn
    have e : ivS l t r = l.map (fun x => if x.1 = n ∧ x.2.2 < (t : Int) then (x.1, x.2.1, (t : Int)) else x) := by unfold ivS; rw [hr]; exact tch_old hns
    generalize hl1 : l.map (fun x => if x.1 = n ∧ x.2.2 < (t : Int) then (x.1, x.2.1, (t : Int)) else x) = l1 at e
    have em : l1.map st2 = l.map st2 := by
      rw [← hl1, List.map_map]; apply List.map_congr_left; intro x _; show st2 (if _ then _ else _) = _; split <;> rfl
    have em1 : l1.map (fun (y : Iv) => y.1) = l.map (fun (y : Iv) => y.1) := by
      have := congrArg (List.map Prod.fst) em
      rw [List.map_map, List.map_map] at this; exact this
    have hmem : ∀ y ∈ l1, ∃ x ∈ l, st2 y = st2 x ∧ (y = x ∨ (x.1 = n ∧ x.2.2 < t ∧ y.2.2 = t)) := fun y hy => by
      rw [← hl1] at hy
      obtain ⟨x, hx, rfl⟩ := List.mem_map.mp hy
      refine ⟨x, hx, ?_⟩
      split
      · rename_i hc; exact ⟨rfl, .inr ⟨hc.1, hc.2, rfl⟩⟩
      · exact ⟨rfl, .inl rfl⟩
    have hmem2 : ∀ x ∈ l, ∃ y ∈ l1, st2 y = st2 x ∧ x.2.2 ≤ y.2.2 ∧ (x.1 = n → (t : Int) ≤ y.2.2) ∧ (x.1 ≠ n → y = x) := fun x hx => by
      refine ⟨_, by rw [← hl1]; exact List.mem_map.mpr ⟨x, hx, rfl⟩, ?_⟩
      by_cases hc : x.1 = n ∧ x.2.2 < (t : Int)
      · rw [if_pos hc]; exact ⟨rfl, by show x.2.2 ≤ (t : Int); (first | lia | omega), fun _ => Int.le_refl _, fun h => absurd hc.1 h⟩
      · rw [if_neg hc]; exact ⟨rfl, Int.le_refl _, fun h => Int.not_lt.mp (fun z => hc ⟨h, z⟩), fun _ => rfl⟩
    have I := ih l1 (t + 1) ⟨by rw [em1]; exact L.nm, L.nd, L.od.erase _, fun m hm => L.sub m (List.mem_of_mem_erase hm), by
        have h1 : (l1.map st2).Pairwise (fun x y => x.2 < y.2) := by rw [em, List.pairwise_map]; exact L.asc
        rw [List.pairwise_map] at h1; exact h1,
      fun y hy => by
        obtain ⟨x, hx, h1, _⟩ := hmem y hy
        have h2 := L.lt x hx
        have h3 : y.2.1 = x.2.1 := congrArg Prod.snd h1
        (first | lia | omega),
      fun y hy => by
        obtain ⟨x, hx, h1, h4⟩ := hmem y hy
        have h2 := L.lt x hx
        have h5 := L.ne x hx
        have h3 : y.2.1 = x.2.1 := congrArg Prod.snd h1
        rcases h4 with rfl | h4 <;> (first | lia | omega),
      fun y hy => by
        obtain ⟨x, hx, h1, h4⟩ := hmem y hy
        have h2 := L.cl x hx
        rcases h4 with rfl | h4 <;> (first | lia | omega)⟩
    show LO l t O (r :: rs) ks (ivsF (ivS l t r) (t + 1) rs)
    rw [e]
    obtain ⟨l', new, x1, x2, x3, x4⟩ := I.ex
    refine ⟨I.asc, I.ne, I.nd, ⟨l', new, x1, by rw [x2, em], fun y hy => by have := x3 y hy; (first | lia | omega), x4⟩, fun y hy hO => ?_, fun y hy => ?_, fun y hy ⟨r', h1, b, h2⟩ => ?_, fun y hy => ?_⟩
    · have hyn : y.1 ≠ n := fun z => hO (z ▸ hn)
      obtain ⟨y1, hy1, _, _, _, h5⟩ := hmem2 y hy
      rw [h5 hyn] at hy1
      exact I.cl y hy1 (fun z => hO (List.mem_of_mem_erase z))
    · obtain ⟨y1, hy1, h1, h2, _, _⟩ := hmem2 y hy
      obtain ⟨y2, hy2, h3, h4⟩ := I.mono y1 hy1
      have h9 : (st2 y1).1 = (st2 y).1 := by rw [h1]
      have h9 : y1.1 = y.1 := h9
      exact ⟨y2, hy2, h3.trans h9, by (first | lia | omega)⟩
    · rcases List.mem_cons.mp h1 with rfl | h1
      · rw [hr] at h2
        injection h2 with h2; injection h2 with h2 h6
        obtain ⟨x, hx, hxn⟩ := List.mem_map.mp hns
        obtain ⟨y1, hy1, h3, _, h4, _⟩ := hmem2 x hx
        obtain ⟨y2, hy2, h5, h7⟩ := I.mono y1 hy1
        have h8 := h4 hxn
        have h9 : (st2 y1).1 = (st2 x).1 := by rw [h3]
        have h9 : y1.1 = x.1 := h9
        have : y = y2 := uniq1 I.nd hy hy2 (by rw [h5, h9, hxn, h6])
        subst this; (first | lia | omega)
      · have := I.tou y hy ⟨r', h1, b, h2⟩; (first | lia | omega)
    · rcases I.back y hy with h | ⟨r', h1, b, h2⟩
      · rw [em1] at h; exact .inl h
      · exact .inr ⟨r', .tail _ h1, b, h2⟩
  | @wr seen O r n rs ks hr hn hO hl ih =>
    intro l t L
    have hns : n ∉ l.map (fun (y : Iv) => y.1) := by rw [L.nm]; exact hn
    have e : ivS l t r = l ++ [(n, (t : Int), (t : Int) + 1)] := by unfold ivS; rw [hr]; exact tch_new hns
    have I := ih (l ++ [(n, (t : Int), (t : Int) + 1)]) (t + 1) ⟨by simp [← L.nm], by
        rw [List.nodup_append]; exact ⟨L.nd, by simp, fun a ha b hb => by simp at hb; subst hb; exact fun z => hn (z ▸ ha)⟩, by
        rw [List.nodup_append]; exact ⟨L.od, by simp, fun a ha b hb => by simp at hb; subst hb; exact fun z => hn (z ▸ L.sub a ha)⟩, fun m hm => by
        rcases List.mem_append.mp hm with h | h
        · exact List.mem_append_left _ (L.sub m h)
        · exact List.mem_append_right _ h, by
        rw [List.pairwise_append]; exact ⟨L.asc, by simp, fun a ha b hb => by simp at hb; subst hb; exact L.lt a ha⟩, fun y hy => by
        rcases List.mem_append.mp hy with h | h
        · have := L.lt y h; (first | lia | omega)
        · simp at h; subst h; show (t : Int) < ((t + 1 : Nat) : Int); (first | lia | omega), fun y hy => by
        rcases List.mem_append.mp hy with h | h
        · exact L.ne y h
        · simp at h; subst h; show (t : Int) < (t : Int) + 1; (first | lia | omega), fun y hy => by
        rcases List.mem_append.mp hy with h | h
        · have := L.cl y h; (first | lia | omega)
        · simp at h; subst h; show (t : Int) + 1 ≤ ((t + 1 : Nat) : Int); (first | lia | omega)⟩
    show LO l t O (r :: rs) ((O.length + 1) :: ks) (ivsF (ivS l t r) (t + 1) rs)
    rw [e]
    generalize ivsF (l ++ [(n, (t : Int), (t : Int) + 1)]) (t + 1) rs = F at I
    obtain ⟨l2, new, x1, x2, x3, x4⟩ := I.ex
    rw [List.map_append] at x2
    obtain ⟨l', l3, rfl, z1, z2⟩ := List.map_eq_append_iff.mp x2
    obtain ⟨y0, w, rfl, z3, z4⟩ := List.map_eq_cons_iff.mp z2
    have hw : w = [] := by simpa using z4
    subst hw
    have hy0 : y0.2.1 = t := (congrArg Prod.snd z3 : (st2 y0).2 = _)
    have hy0n : y0.1 = n := (congrArg Prod.fst z3 : (st2 y0).1 = _)
    have hx1 : F = l' ++ y0 :: new := by rw [x1]; simp
    have hnl : l'.map (fun (y : Iv) => y.1) = seen := by
      have := congrArg (List.map Prod.fst) z1
      rw [List.map_map, List.map_map] at this
      rw [← L.nm]; exact this
    have hcount : liveAt F t = O.length + 1 := by
      unfold liveAt
      rw [hx1, List.countP_append, List.countP_cons]
      have c1 : new.countP (fun (y : Iv) => decide (y.2.1 ≤ (t : Int) ∧ (t : Int) < y.2.2)) = 0 := by
        rw [List.countP_eq_zero]; intro y hy; have := x3 y hy; simp; intro; (first | lia | omega)
      have hm0 : y0 ∈ F := by rw [hx1]; simp
      have c2 : decide (y0.2.1 ≤ (t : Int) ∧ (t : Int) < y0.2.2) = true := by
        have := I.ne y0 hm0
        simp; (first | lia | omega)
      have c3 : l'.countP (fun (y : Iv) => decide (y.2.1 ≤ (t : Int) ∧ (t : Int) < y.2.2)) = O.length := by
        rw [← count_open L.nd L.od L.sub, ← hnl, List.countP_map]
        apply List.countP_congr
        intro y hy
        have hyF : y ∈ F := by rw [hx1]; exact List.mem_append_left _ hy
        have hy2 : st2 y ∈ l.map st2 := by rw [← z1]; exact List.mem_map.mpr ⟨y, hy, rfl⟩
        obtain ⟨x, hx, hxe⟩ := List.mem_map.mp hy2
        have h1 : (st2 x).1 = (st2 y).1 := by rw [hxe]
        have h1 : x.1 = y.1 := h1
        have h2 : (st2 x).2 = (st2 y).2 := by rw [hxe]
        have h2 : x.2.1 = y.2.1 := h2
        have hxl := L.lt x hx
        show decide _ = true ↔ decide (y.1 ∈ O) = true
        rw [decide_eq_true_iff, decide_eq_true_iff]
        constructor
        · intro hh
          refine Classical.byContradiction fun hno => ?_
          have hxs : x.1 ∈ seen := by rw [← L.nm]; exact List.mem_map.mpr ⟨x, hx, rfl⟩
          have hxn : x.1 ∉ O ++ [n] := by
            intro z
            rcases List.mem_append.mp z with z | z
            · exact hno (h1 ▸ z)
            · simp at z; exact hn (z ▸ hxs)
          have := I.cl x (List.mem_append_left _ hx) hxn
          have := uniq1 I.nd this hyF h1
          subst this
          have := L.cl x hx
          (first | lia | omega)
        · intro hh
          obtain ⟨r', h3, b, h4⟩ := hO y.1 hh
          have := I.tou y hyF ⟨r', h3, b, h4⟩
          exact ⟨by (first | lia | omega), by (first | lia | omega)⟩
      rw [c1, c3, if_pos c2]
    refine ⟨I.asc, I.ne, I.nd, ⟨l', y0 :: new, hx1, z1, fun y hy => ?_, ?_⟩, fun y hy hO' => ?_, fun y hy => I.mono y (List.mem_append_left _ hy), fun y hy ⟨r', h1, b, h2⟩ => ?_, fun y hy => ?_⟩
    · rcases List.mem_cons.mp hy with rfl | hy
      · (first | lia | omega)
      · have := x3 y hy; (first | lia | omega)
    · rw [List.map_cons, x4, hy0, hcount]
    · refine I.cl y (List.mem_append_left _ hy) (fun z => ?_)
      rcases List.mem_append.mp z with z | z
      · exact hO' z
      · simp at z; exact hns (List.mem_map.mpr ⟨y, hy, z⟩)
    · rcases List.mem_cons.mp h1 with rfl | h1
      · rw [hr] at h2
        injection h2 with h2; injection h2 with h2 h6
        have hm0 : y0 ∈ F := by rw [hx1]; simp
        have : y = y0 := uniq1 I.nd hy hm0 (h6.symm.trans (show n = y0.1 from hy0n.symm))
        have := I.ne y hy
        subst y; (first | lia | omega)
      · have := I.tou y hy ⟨r', h1, b, h2⟩; (first | lia | omega)
    · rcases I.back y hy with h | ⟨r', h1, b, h2⟩
      · rw [List.map_append] at h
        rcases List.mem_append.mp h with h | h
        · exact .inl h
        · simp at h; exact .inr ⟨r, .head _, true, by rw [hr, h]⟩
      · exact .inr ⟨r', .tail _ h1, b, h2⟩
end Mine
namespace Mine
theorem Lv.perm {seen O : List Int} {rs : List Row} {ks : List Nat} (h : Lv seen O rs ks) : ∀ O' : List Int, O.Perm O' → Lv seen O' rs ks := by
  induction h with
  | nil => intro O' _; exact .nil
  | wr h1 h2 h3 _ ih => intro O' p; rw [p.length_eq]; exact .wr h1 h2 (fun m hm => h3 m (p.mem_iff.mpr hm)) (ih _ (p.append_right _))
  | rd h1 h2 _ ih => intro O' p; exact .rd h1 (p.mem_iff.mp h2) (ih _ (p.erase _))
  | no h1 _ ih => intro O' p; exact .no h1 (ih _ p)
noncomputable def peakS : List Arg → Nat
  | [] => 0
  | a :: r => max (r.length + a.apart) (peakS r)
theorem apartL_eq : ∀ l : List Arg, apartL l = peakS (subs l)
  | [] => rfl
  | .atom _ :: r => apartL_eq r
  | .sub l :: r => by
    show max ((subs r).length + Arg.apart (.sub l)) (apartL r) = max ((subs r).length + Arg.apart (.sub l)) (peakS (subs r))
    rw [apartL_eq r]
theorem peakS_append : ∀ a b : List Arg, peakS (a ++ b) ≤ max (b.length + peakS a) (peakS b) ∧ peakS b ≤ peakS (a ++ b) ∧ (a ≠ [] → b.length + peakS a ≤ peakS (a ++ b))
  | [], b => by simp [peakS]; omega
  | x :: a, b => by
    have ⟨h1, h2, h3⟩ := peakS_append a b
    show max ((a ++ b).length + x.apart) (peakS (a ++ b)) ≤ max (b.length + max (a.length + x.apart) (peakS a)) (peakS b) ∧ peakS b ≤ max ((a ++ b).length + x.apart) (peakS (a ++ b)) ∧ (_ → b.length + max (a.length + x.apart) (peakS a) ≤ max ((a ++ b).length + x.apart) (peakS (a ++ b)))
    rw [List.length_append]
    refine ⟨by omega, by omega, fun _ => ?_⟩
    cases a with
    | nil => simp [peakS] at *; omega
    | cons y a => have := h3 (by simp); omega
theorem numb_fst : ∀ (l : List Arg) (nx : Int), (numb l nx).map Prod.fst = subs l
  | [], _ => rfl
  | .atom _ :: r, nx => numb_fst r nx
  | .sub k :: r, nx => by show .sub k :: (numb r (nx + 1)).map Prod.fst = .sub k :: subs r; rw [numb_fst r]
theorem headM_touch (l : List Arg) (r : Int) : (headM l r).touch = some (false, r) := by unfold headM; split <;> rfl
/-- what the stack still waits for is read -/
theorem MRun.read {S : List (Arg × Int)} {nx nx' : Int} {rows : List Row} (h : MRun S nx rows nx') : ∀ x ∈ S, ∃ r ∈ rows, ∃ b, r.touch = some (b, x.2) := by
  induction h with
  | nil => intro x hx; cases hx
  | @cons l r nx nx' rest rows _ ih =>
    intro x hx
    rcases List.mem_cons.mp hx with rfl | hx
    · exact ⟨_, .head _, false, headM_touch l r⟩
    · obtain ⟨r', h1, h2⟩ := ih x (List.mem_append_right _ hx)
      exact ⟨r', List.mem_append_right (headM l r :: argRows l nx) h1, h2⟩
theorem Lv_args : ∀ (l : List Arg) (nx : Int) (seen O : List Int) (rows : List Row) (ks : List Nat), (∀ m ∈ seen, m < nx) → (∀ m ∈ O ++ (numb l nx).map Prod.snd, ∃ r ∈ rows, ∃ b, r.touch = some (b, m)) →
    Lv (seen ++ (numb l nx).map Prod.snd) (O ++ (numb l nx).map Prod.snd) rows ks → ∃ ks', Lv seen O (argRows l nx ++ rows) (ks' ++ ks) ∧ ks'.length = (subs l).length ∧ (∀ k ∈ ks', k ≤ O.length + (subs l).length) ∧ (subs l ≠ [] → O.length + (subs l).length ∈ ks')
  | [], nx, seen, O, rows, ks, hs, hr, h => ⟨[], by simpa [numb, argRows] using h, rfl, fun k hk => (nomatch hk), fun hn => absurd rfl hn⟩
  | .atom a :: l, nx, seen, O, rows, ks, hs, hr, h => by
    obtain ⟨ks', h1, h2, h3, h4⟩ := Lv_args l nx seen O rows ks hs hr h
    exact ⟨ks', .no rfl h1, h2, h3, h4⟩
  | .sub a :: l, nx, seen, O, rows, ks, hs, hr, h => by
    have e : (numb (.sub a :: l) nx).map Prod.snd = nx :: (numb l (nx + 1)).map Prod.snd := rfl
    rw [e] at hr h
    obtain ⟨ks', h1, h2, h3, h4⟩ := Lv_args l (nx + 1) (seen ++ [nx]) (O ++ [nx]) rows ks (fun m hm => by
      rcases List.mem_append.mp hm with z | z
      · have := hs m z; omega
      · simp at z; omega) (by simpa using hr) (by simpa using h)
    have es : (subs (.sub a :: l)).length = (subs l).length + 1 := rfl
    rw [List.length_append] at h3 h4
    refine ⟨(O.length + 1) :: ks', .wr rfl (fun z => by have := hs nx z; omega) (fun m hm => ?_) h1, by rw [es, List.length_cons, h2], fun k hk => ?_, fun _ => ?_⟩
    · obtain ⟨r, h5, b, h6⟩ := hr m (List.mem_append_left _ hm)
      exact ⟨r, List.mem_append_right _ h5, b, h6⟩
    · rcases List.mem_cons.mp hk with rfl | hk
      · omega
      · have := h3 k hk; simp at this; omega
    · rw [es]
      by_cases z : subs l = []
      · rw [z]; exact .head _
      · have := h4 z
        simp at this
        rw [show O.length + ((subs l).length + 1) = O.length + 1 + (subs l).length by omega]
        exact .tail _ this
theorem numb_lt : ∀ (l : List Arg) (nx : Int), ∀ m ∈ (numb l nx).map Prod.snd, m < nx + (subs l).length
  | [], _, m, h => nomatch h
  | .atom _ :: r, nx, m, h => numb_lt r nx m h
  | .sub k :: r, nx, m, h => by
    have es : (subs (.sub k :: r)).length = (subs r).length + 1 := rfl
    rw [es]
    rcases List.mem_cons.mp h with h | h
    · have h : m = nx := h
      omega
    · have := numb_lt r (nx + 1) m h; omega
theorem comps_sum : ∀ l : List Arg, comps l = ((subs l).map Arg.comp).sum
  | [] => rfl
  | .atom _ :: r => by show 0 + comps r = ((subs r).map Arg.comp).sum; rw [comps_sum r]; omega
  | .sub k :: r => by show Arg.comp (.sub k) + comps r = (Arg.comp (.sub k) :: (subs r).map Arg.comp).sum; rw [comps_sum r, List.sum_cons]
theorem MRun.lv {S : List (Arg × Int)} {nx nx' : Int} {rows : List Row} (h : MRun S nx rows nx') : ∀ seen : List Int, (∀ m ∈ seen, m < nx) →
    ∃ ks, Lv seen (S.map Prod.snd) rows ks ∧ ks.length + S.length = ((S.map Prod.fst).map Arg.comp).sum ∧ (∀ k ∈ ks, k ≤ peakS (S.map Prod.fst)) ∧ ∃ k, (k ∈ ks ∨ k = S.length) ∧ peakS (S.map Prod.fst) ≤ k := by
  induction h with
  | nil => intro seen _; exact ⟨[], .nil, rfl, fun k hk => (nomatch hk), 0, .inr rfl, Nat.le_refl _⟩
  | @cons l r nx nx' rest rows hrun ih =>
    intro seen hs
    obtain ⟨ks, h1, h2, h3, kx, h4, h5⟩ := ih (seen ++ (numb l nx).map Prod.snd) (fun m hm => by
      rcases List.mem_append.mp hm with z | z
      · have := hs m z; omega
      · exact numb_lt l nx m z)
    have hread := hrun.read
    rw [List.map_append] at h1 h2 h3 h5
    rw [numb_fst] at h2 h3 h5
    have hnl : (numb l nx).length = (subs l).length := by rw [← numb_fst l nx, List.length_map]
    obtain ⟨ks', g1, g2, g3, g4⟩ := Lv_args l nx seen (rest.map Prod.snd) rows ks hs (fun m hm => by
      have : m ∈ (numb l nx ++ rest).map Prod.snd := by
        rw [List.map_append]; rcases List.mem_append.mp hm with z | z
        · exact List.mem_append_right _ z
        · exact List.mem_append_left _ z
      obtain ⟨x, hx, rfl⟩ := List.mem_map.mp this
      exact hread x hx) (h1.perm _ List.perm_append_comm)
    have ⟨p1, p2, p3⟩ := peakS_append (subs l) (rest.map Prod.fst)
    rw [List.length_map] at p1 p3 g3 g4
    rw [List.length_append, hnl] at h2 h4
    have eP : peakS (((Arg.sub l, r) :: rest).map Prod.fst) = max (rest.length + max (max 1 (subs l).length) (peakS (subs l))) (peakS (rest.map Prod.fst)) := by
      show max ((rest.map Prod.fst).length + max (max 1 (subs l).length) (apartL l)) _ = _
      rw [apartL_eq, List.length_map]
    refine ⟨ks' ++ ks, .rd (headM_touch l r) (.head _) (by
      show Lv seen ((r :: rest.map Prod.snd).erase r) _ _
      rw [List.erase_cons_head]; exact g1), ?_, fun k hk => ?_, ?_⟩
    · rw [List.length_append, g2]
      show _ + (rest.length + 1) = ((1 + comps l) :: (rest.map Prod.fst).map Arg.comp).sum
      rw [List.sum_cons, comps_sum]
      rw [List.map_append, List.sum_append] at h2
      omega
    · rw [eP]
      rcases List.mem_append.mp hk with z | z
      · have := g3 k z; omega
      · have := h3 k z; omega
    · rw [eP]
      by_cases hz : subs l = []
      · have z0 : (subs l).length = 0 := by rw [hz]; rfl
        have z1 : peakS (subs l) = 0 := by rw [hz]; rfl
        rw [z0, z1]
        rcases h4 with h4 | h4
        · by_cases hk : rest.length + 1 ≤ kx
          · exact ⟨kx, .inl (List.mem_append_right _ h4), by omega⟩
          · exact ⟨rest.length + 1, .inr rfl, by omega⟩
        · exact ⟨rest.length + 1, .inr rfl, by omega⟩
      · have g5 := g4 hz
        have p4 := p3 hz
        have hpos : 0 < (subs l).length := List.length_pos_iff.mpr hz
        rcases h4 with h4 | h4
        · by_cases hk : rest.length + (subs l).length ≤ kx
          · exact ⟨kx, .inl (List.mem_append_right _ h4), by omega⟩
          · exact ⟨_, .inl (List.mem_append_left _ g5), by omega⟩
        · exact ⟨_, .inl (List.mem_append_left _ g5), by omega⟩
end Mine
namespace Mine
theorem argRows_len : ∀ (l : List Arg) (nx : Int), (argRows l nx).length = l.length
  | [], _ => rfl
  | .atom _ :: r, nx => congrArg (· + 1) (argRows_len r nx)
  | .sub _ :: r, nx => congrArg (· + 1) (argRows_len r (nx + 1))
theorem MRun.len {S : List (Arg × Int)} {nx nx' : Int} {rows : List Row} (h : MRun S nx rows nx') : rows.length = rsum S := by
  induction h with
  | nil => rfl
  | @cons l r nx nx' rest rows _ ih =>
    rw [rsum_append, rsum_numb] at ih
    show (headM l r :: argRows l nx ++ rows).length = (1 + l.length + rowss l) + rsum rest
    rw [List.length_append, List.length_cons, argRows_len]
    (first | lia | omega)
theorem apart_pos (l : List Arg) : 1 ≤ Arg.apart (.sub l) := by
  show 1 ≤ max (max 1 (subs l).length) (apartL l); (first | lia | omega)
theorem taken_F {l : List Arg} {rows : List Row} {nx' : Int} (h : MRun [(.sub l, 0)] 1 rows nx') : ∃ ks rest r0, rows = r0 :: rest ∧ r0.touch = some (false, 0) ∧ LO [(0, 0, 1)] 1 [] rest ks (ivsN rows rows.length) ∧ ks.length + 1 = Arg.comp (.sub l) ∧ (∀ k ∈ ks, k ≤ Arg.apart (.sub l)) ∧ ∃ k, (k ∈ ks ∨ k = 1) ∧ Arg.apart (.sub l) ≤ k := by
  obtain ⟨ks, h1, h2, h3, k, h4, h5⟩ := h.lv [0] (fun m hm => by simp at hm; (first | lia | omega))
  have eP : peakS ([((Arg.sub l : Arg), (0 : Int))].map Prod.fst) = Arg.apart (.sub l) := by
    show max (0 + Arg.apart (.sub l)) 0 = _; (first | lia | omega)
  rw [eP] at h3 h5
  cases h with
  | cons hr =>
    rename_i rows'
    have ht := headM_touch l 0
    refine ⟨ks, argRows l 1 ++ rows', headM l 0, rfl, ht, ?_, h2, h3, k, h4, h5⟩
    have hl : Lv [0] [] (argRows l 1 ++ rows') ks := by
      have h1' : Lv [0] [0] (headM l 0 :: (argRows l 1 ++ rows')) ks := h1
      cases h1' with
      | wr a => rw [ht] at a; cases a
      | rd a b c => rw [ht] at a; injection a with a; injection a with _ a; subst a; exact c
      | no a => rw [ht] at a; cases a
    rw [ivsN_eq]
    have e : ivsF [] 0 (headM l 0 :: argRows l 1 ++ rows') = ivsF [(0, 0, 1)] 1 (argRows l 1 ++ rows') := by
      show ivsF (ivS [] 0 (headM l 0)) (0 + 1) _ = _
      have : ivS [] 0 (headM l 0) = [(0, 0, 1)] := by unfold ivS; rw [ht]; rfl
      rw [this]; rfl
    rw [e]
    exact LO_of hl _ _ ⟨rfl, by simp, by simp, by simp, by simp, by simp, by simp, by simp⟩
theorem plain_taken (l : List Arg) (rows : List Row) (nx' : Int) (G : Arg.Good (.sub l)) (C : Arg.comp (.sub l) ≤ 13) (h : MRun [(.sub l, 0)] 1 rows nx') : RightOk l rows (Arg.apart (.sub l)) := by
  obtain ⟨ks, rest, r0, e0, t0, L, hk, hle, kx, hkx, hge⟩ := taken_F h
  have hp := apart_pos l
  have hlen : rows.length = Arg.rows (.sub l) := by have := h.len; rw [this]; show (Arg.sub l).rows + 0 = _; (first | lia | omega)
  generalize hF : ivsN rows rows.length = F at L
  obtain ⟨l', new, x1, x2, x3, x4⟩ := L.ex
  obtain ⟨y0, w, rfl, z3, z4⟩ := List.map_eq_cons_iff.mp x2
  have hw : w = [] := by simpa using z4
  subst hw
  have hm0 : ((0, 0, 1) : Iv) ∈ F := L.cl _ (.head _) (fun z => nomatch z)
  have hy0n : y0.1 = 0 := (congrArg Prod.fst z3 : (st2 y0).1 = _)
  have hy0 : y0 = (0, 0, 1) := uniq1 L.nd (by rw [x1]; simp) hm0 hy0n
  subst hy0
  have hlive : liveAt F 0 = 1 := by
    unfold liveAt
    rw [x1, List.countP_append]
    have c1 : new.countP (fun (y : Iv) => decide (y.2.1 ≤ (0 : Int) ∧ (0 : Int) < y.2.2)) = 0 := by
      rw [List.countP_eq_zero]; intro y hy; have := x3 y hy; simp; intro; (first | lia | omega)
    rw [c1]; rfl
  have hnew : ∀ y ∈ new, liveAt F y.2.1 ∈ ks := fun y hy => by rw [← x4]; exact List.mem_map.mpr ⟨y, hy, rfl⟩
  have hFl : F.length = Arg.comp (.sub l) := by rw [x1, List.length_append, ← hk, ← x4, List.length_map]; simp; (first | lia | omega)
  have hap : Arg.apart (.sub l) ≤ 13 := by
    rcases hkx with h1 | h1
    · rw [← x4] at h1
      obtain ⟨y, hy, hye⟩ := List.mem_map.mp h1
      have h2 : liveAt F y.2.1 ≤ F.length := List.countP_le_length
      have hye : liveAt F y.2.1 = kx := hye
      (first | lia | omega)
    · (first | lia | omega)
  refine ⟨hlen, by rw [hF]; exact hFl, G, C, by rw [hF]; exact L.asc, ?_, by (first | lia | omega)⟩
  rw [hF]
  refine mx_of L.asc L.ne (fun r hr b n e => ?_) (fun x hx => ?_) (fun x hx => ?_) ?_
  · obtain ⟨j, hj⟩ := List.mem_iff_getElem?.mp hr
    have := ivsN_mem rows rows.length j r b n (List.getElem?_eq_some_iff.mp hj).1 hj e
    rw [hF] at this
    obtain ⟨x, h1, h2⟩ := List.mem_map.mp this
    exact ⟨x, h1, h2⟩
  · rcases L.back x hx with h1 | ⟨r, h1, b, h2⟩
    · have h1 : x.1 = 0 := by simpa using h1
      exact ⟨r0, by rw [e0]; exact .head _, false, by rw [t0, h1]⟩
    · exact ⟨r, by rw [e0]; exact .tail _ h1, b, h2⟩
  · have hx' := hx
    rw [x1] at hx'
    rcases List.mem_append.mp hx' with h1 | h1
    · have : x = (0, 0, 1) := by simpa using h1
      subst this
      rw [hlive]; (first | lia | omega)
    · have := hle _ (hnew x h1); (first | lia | omega)
  · rcases hkx with h1 | h1
    · rw [← x4] at h1
      obtain ⟨y, hy, hye⟩ := List.mem_map.mp h1
      have hyF : y ∈ F := by rw [x1]; exact List.mem_append_right _ hy
      have := hle _ (hnew y hy)
      have hye : liveAt F y.2.1 = kx := hye
      exact ⟨y, hyF, by (first | lia | omega)⟩
    · exact ⟨_, hm0, by show (liveAt F 0 : Int) = _; rw [hlive]; (first | lia | omega)⟩
end Mine
namespace Mine
theorem headB_touch (l : List Arg) (r : Int) : (headB l r).touch = some (true, r) := by unfold headB; split <;> rfl
noncomputable def pcr : List Pc → List Int
  | [] => []
  | .atom _ :: r => pcr r
  | .reg n :: r => n :: pcr r
theorem pcr_append : ∀ a b : List Pc, pcr (a ++ b) = pcr a ++ pcr b
  | [], b => rfl
  | .atom _ :: a, b => pcr_append a b
  | .reg n :: a, b => congrArg (n :: ·) (pcr_append a b)
theorem Lv_reads {seen : List Int} {rows : List Row} {ks : List Nat} : ∀ (ps : List Pc) (O O' : List Int), O.Perm (pcr ps ++ O') → Lv seen O' rows ks → Lv seen O (setRows ps ++ rows) ks
  | [], O, O', p, h => h.perm O p.symm
  | .atom k :: ps, O, O', p, h => .no rfl (Lv_reads ps O O' p h)
  | .reg n :: ps, O, O', p, h => .rd rfl (p.mem_iff.mpr (.head _)) (Lv_reads ps (O.erase n) O' (by
      have := p.erase n
      rwa [show pcr (.reg n :: ps) ++ O' = n :: (pcr ps ++ O') from rfl, List.erase_cons_head] at this) h)
theorem pcr_mem : ∀ (ps : List Pc) (n : Int), n ∈ pcr ps → ∃ r ∈ setRows ps, ∃ b, r.touch = some (b, n)
  | .atom _ :: ps, n, h => by obtain ⟨r, h1, h2⟩ := pcr_mem ps n h; exact ⟨r, .tail _ h1, h2⟩
  | .reg m :: ps, n, h => by
    rcases List.mem_cons.mp h with rfl | h
    · exact ⟨_, .head _, false, rfl⟩
    · obtain ⟨r, h1, h2⟩ := pcr_mem ps n h; exact ⟨r, .tail _ h1, h2⟩
noncomputable def peakB (k : Nat) : List (Bool × Arg) → Nat
  | [] => 0
  | (false, a) :: r => max (k + a.tog) (peakB (k + 1) r)
  | (true, .sub l) :: r => max (k + 1) (peakB (k - (ordP l).length + 1) r)
  | (true, .atom _) :: r => peakB k r
noncomputable def wants : List (Bool × Arg) → Nat → Prop
  | [], k => k = 1
  | (false, _) :: r, k => wants r (k + 1)
  | (true, .sub l) :: r, k => (ordP l).length ≤ k ∧ wants r (k - (ordP l).length + 1)
  | (true, .atom _) :: r, k => False
theorem peakB_fal : ∀ (l : List Arg) (k : Nat) (r : List (Bool × Arg)), peakB k (fal l ++ r) = max (togL k l) (peakB (k + l.length) r)
  | [], k, r => by simp [fal, togL]
  | a :: l, k, r => by
    show max (k + a.tog) (peakB (k + 1) (fal l ++ r)) = max (max (k + a.tog) (togL (k + 1) l)) (peakB (k + (l.length + 1)) r)
    rw [peakB_fal l (k + 1) r, show k + 1 + l.length = k + (l.length + 1) by (first | lia | omega)]
    exact (Nat.max_assoc _ _ _).symm
theorem wants_fal : ∀ (l : List Arg) (k : Nat) (r : List (Bool × Arg)), wants r (k + l.length) → wants (fal l ++ r) k
  | [], k, r, h => h
  | a :: l, k, r, h => wants_fal l (k + 1) r (by rw [show k + 1 + l.length = k + (l.length + 1) by (first | lia | omega)]; exact h)
theorem pcr_fill : ∀ (l : List Arg) (regs : List Int), (subs l).length ≤ regs.length → pcr (fill l regs) = regs.take (subs l).length
  | [], regs, _ => by simp [fill, pcr, subs]
  | .atom k :: r, regs, h => pcr_fill r regs h
  | .sub k :: r, x :: regs, h => by
    have e : (subs (.sub k :: r)).length = (subs r).length + 1 := rfl
    rw [e] at h ⊢
    show x :: pcr (fill r regs) = _
    rw [pcr_fill r regs (by simpa using h), List.take_succ_cons]
  | .sub k :: r, [], h => by
    have e : (subs (.sub k :: r)).length = (subs r).length + 1 := rfl
    rw [e] at h; simp at h
theorem lastL_subs (l : List Arg) : (subs (lastL l)).length = (lastS l).length := by
  unfold lastL lastS
  cases l.getLast? with
  | none => rfl
  | some a => cases a <;> rfl
theorem pcr_pieces {l : List Arg} {own : List Int} (h : own.length = (ordP l).length) : own.Perm (pcr (pieces l own)) := by
  unfold ordP at h
  rw [List.length_append] at h
  unfold pieces
  rw [pcr_append, pcr_fill _ _ (by rw [List.length_drop]; (first | lia | omega)), pcr_fill _ _ (by rw [lastL_subs]; (first | lia | omega)), lastL_subs, List.take_of_length_le (by rw [List.length_drop]; (first | lia | omega))]
  have := List.perm_append_comm (l₁ := own.take (lastS l).length) (l₂ := own.drop (lastS l).length)
  rwa [List.take_append_drop] at this
theorem wants_opn {l : List Arg} {rest : List (Bool × Arg)} {k : Nat} (h : wants ((false, .sub l) :: rest) k) : wants (fal (ordP l) ++ (true, .sub l) :: rest) k :=
  wants_fal _ _ _ ⟨by (first | lia | omega), by rw [show k + (ordP l).length - (ordP l).length + 1 = k + 1 by (first | lia | omega)]; exact h⟩
theorem BRun.read {S : List (Bool × Arg)} {regs : List Int} {nx nx' : Int} {rows : List Row} (h : BRun S regs nx rows nx') : wants S regs.length → S ≠ [] → ∀ m ∈ regs, ∃ r ∈ rows, ∃ b, r.touch = some (b, m) := by
  induction h with
  | nil => intro _ h; exact absurd rfl h
  | opn _ ih => intro w _; exact ih (wants_opn w) (by simp)
  | @shut l rest regs own nx nx' rows ho hr _ ih =>
    intro w _ m hm
    have w2 : wants rest (regs.length + own.length - (ordP l).length + 1) := by have := w.2; rwa [List.length_append] at this
    rcases List.mem_append.mp hm with z | z
    · obtain ⟨r, h1, h2⟩ := ih (by rw [List.length_append]; show wants rest (regs.length + 1); rw [show regs.length + 1 = regs.length + own.length - (ordP l).length + 1 by (first | lia | omega)]; exact w2) hr m (List.mem_append_left _ z)
      exact ⟨r, List.mem_append_right (headB l nx :: setRows (pieces l own)) h1, h2⟩
    · obtain ⟨r, h1, h2⟩ := pcr_mem _ m ((pcr_pieces ho).mem_iff.mp z)
      exact ⟨r, List.mem_append_left _ (.tail _ h1), h2⟩
  | @last l regs own nx nx' rows ho _ ih =>
    intro w _ m hm
    have w2 : regs.length + own.length - (ordP l).length + 1 = 1 := by have := w.2; rwa [List.length_append] at this
    rcases List.mem_append.mp hm with z | z
    · have : 0 < regs.length := List.length_pos_of_mem z
      (first | lia | omega)
    · obtain ⟨r, h1, h2⟩ := pcr_mem _ m ((pcr_pieces ho).mem_iff.mp z)
      exact ⟨r, List.mem_append_left _ (.tail _ h1), h2⟩
theorem togL_shift : ∀ (l : List Arg) (k j c : Nat), max (k + c) (togL (k + j) l) = max (k + c) (k + togL j l)
  | [], k, j, c => by show max (k + c) 0 = max (k + c) (k + 0); (first | lia | omega)
  | a :: l, k, j, c => by
    have := togL_shift l k (j + 1) c
    show max (k + c) (max (k + j + a.tog) (togL (k + j + 1) l)) = max (k + c) (k + max (j + a.tog) (togL (j + 1) l))
    rw [Nat.add_assoc k j 1, Nat.max_left_comm, this, Nat.max_left_comm, Nat.add_assoc, Nat.add_max_add_left]
noncomputable def cntB : List (Bool × Arg) → Nat
  | [] => 0
  | (false, a) :: r => a.comp + cntB r
  | (true, _) :: r => 1 + cntB r
theorem cntB_fal : ∀ (l : List Arg) (r : List (Bool × Arg)), cntB (fal l ++ r) = comps l + cntB r
  | [], r => by show cntB r = 0 + cntB r; (first | lia | omega)
  | a :: l, r => by
    show a.comp + cntB (fal l ++ r) = a.comp + comps l + cntB r
    rw [cntB_fal l r]; (first | lia | omega)
theorem BRun.lv {S : List (Bool × Arg)} {regs : List Int} {nx nx' : Int} {rows : List Row} (h : BRun S regs nx rows nx') : ∀ seen : List Int, (∀ m ∈ seen, 0 < m ∧ m < nx) → 1 ≤ nx → wants S regs.length →
    ∃ ks, Lv seen regs rows ks ∧ ks.length = cntB S ∧ (∀ k ∈ ks, k ≤ peakB regs.length S) ∧ (S ≠ [] → peakB regs.length S ∈ ks) := by
  induction h with
  | nil => intro seen _ _ _; exact ⟨[], .nil, rfl, fun k hk => (nomatch hk), fun h => absurd rfl h⟩
  | @opn l rest regs nx nx' rows _ ih =>
    intro seen hs hn w
    obtain ⟨ks, h1, hc, h2, h3⟩ := ih seen hs hn (wants_opn w)
    have e : peakB regs.length (fal (ordP l) ++ (true, .sub l) :: rest) = peakB regs.length ((false, .sub l) :: rest) := by
      rw [peakB_fal]
      show max (togL regs.length (ordP l)) (max (regs.length + (ordP l).length + 1) (peakB (regs.length + (ordP l).length - (ordP l).length + 1) rest)) = max (regs.length + Arg.tog (.sub l)) (peakB (regs.length + 1) rest)
      rw [tog_eq, show regs.length + (ordP l).length - (ordP l).length + 1 = regs.length + 1 by (first | lia | omega)]
      have := togL_shift (ordP l) regs.length 0 ((ordP l).length + 1)
      rw [show togL (regs.length + 0) (ordP l) = togL regs.length (ordP l) from rfl] at this
      rw [← Nat.add_max_add_left, ← this, Nat.max_assoc, Nat.add_assoc, Nat.max_left_comm]
    rw [e] at h2 h3
    refine ⟨ks, h1, ?_, h2, fun _ => h3 (by simp)⟩
    rw [hc, cntB_fal, ordP_comps]
    show comps l + (1 + cntB rest) = 1 + comps l + cntB rest
    (first | lia | omega)
  | @shut l rest regs own nx nx' rows ho hr hrun ih =>
    intro seen hs hn w
    have ek : (regs ++ own).length - (ordP l).length + 1 = (regs ++ [nx]).length := by rw [List.length_append, List.length_append]; show regs.length + own.length - (ordP l).length + 1 = regs.length + 1; (first | lia | omega)
    have w2 : wants rest (regs ++ [nx]).length := by rw [← ek]; exact w.2
    obtain ⟨ks, h1, hc, h2, h3⟩ := ih (seen ++ [nx]) (fun m hm => by
      rcases List.mem_append.mp hm with z | z
      · have := hs m z; (first | lia | omega)
      · simp at z; (first | lia | omega)) (by (first | lia | omega)) w2
    have hread := BRun.read (.shut ho hr hrun) w (by simp)
    have eP : peakB (regs ++ own).length ((true, .sub l) :: rest) = max ((regs ++ own).length + 1) (peakB (regs ++ [nx]).length rest) := by
      show max _ (peakB ((regs ++ own).length - (ordP l).length + 1) rest) = _
      rw [ek]
    refine ⟨((regs ++ own).length + 1) :: ks, .wr (headB_touch l nx) (fun z => by have := hs nx z; (first | lia | omega)) (fun m hm => ?_) (Lv_reads _ _ (regs ++ [nx]) ?_ h1), (by show ks.length + 1 = 1 + cntB rest; (first | lia | omega)), fun k hk => ?_, fun _ => ?_⟩
    · rcases List.mem_append.mp hm with z | z
      · obtain ⟨r', q1, q2⟩ := hrun.read w2 hr m (List.mem_append_left _ z)
        exact ⟨r', List.mem_append_right _ q1, q2⟩
      · obtain ⟨r', q1, q2⟩ := pcr_mem _ m ((pcr_pieces ho).mem_iff.mp z)
        exact ⟨r', List.mem_append_left _ q1, q2⟩
    · have p1 : (regs ++ own ++ [nx]).Perm (own ++ regs ++ [nx]) := (List.perm_append_comm).append_right _
      rw [List.append_assoc own] at p1
      exact p1.trans ((pcr_pieces ho).append_right _)
    · rw [eP]; rcases List.mem_cons.mp hk with rfl | hk
      · (first | lia | omega)
      · have := h2 k hk; (first | lia | omega)
    · rw [eP]
      have := h3 hr
      rcases Nat.le_total ((regs ++ own).length + 1) (peakB (regs ++ [nx]).length rest) with z | z
      · rw [Nat.max_eq_right z]; exact .tail _ this
      · rw [Nat.max_eq_left z]; exact .head _
  | @last l regs own nx nx' rows ho hrun ih =>
    intro seen hs hn w
    cases hrun
    refine ⟨[(regs ++ own).length + 1], ?_, rfl, fun k hk => ?_, fun _ => ?_⟩
    · refine .wr (headB_touch l 0) (fun z => by have := hs 0 z; (first | lia | omega)) (fun m hm => ?_) (Lv_reads _ _ (regs ++ [0]) ?_ .nil)
      · rcases List.mem_append.mp hm with z | z
        · have w2 : (regs ++ own).length - (ordP l).length + 1 = 1 := w.2
          rw [List.length_append] at w2
          have : 0 < regs.length := List.length_pos_of_mem z
          (first | lia | omega)
        · obtain ⟨r', q1, q2⟩ := pcr_mem _ m ((pcr_pieces ho).mem_iff.mp z)
          exact ⟨r', List.mem_append_left _ q1, q2⟩
      · have p1 : (regs ++ own ++ [0]).Perm (own ++ regs ++ [(0 : Int)]) := (List.perm_append_comm).append_right _
        rw [List.append_assoc own] at p1
        exact p1.trans ((pcr_pieces ho).append_right _)
    · have : k = (regs ++ own).length + 1 := by simpa using hk
      show k ≤ max ((regs ++ own).length + 1) 0
      (first | lia | omega)
    · show max ((regs ++ own).length + 1) 0 ∈ _
      rw [Nat.max_eq_left (Nat.zero_le _)]; exact .head _
end Mine
namespace Mine
theorem pieces_len (l : List Arg) (own : List Int) : (pieces l own).length = l.length := by
  unfold pieces
  rw [List.length_append, fill_length, fill_length, List.length_dropLast]
  unfold lastL
  cases h : l.getLast? with
  | none => rw [List.getLast?_eq_none_iff] at h; subst h; rfl
  | some a =>
    have : l ≠ [] := by rintro rfl; simp at h
    have := List.length_pos_iff.mpr this
    simp; (first | lia | omega)
theorem BRun.len {S : List (Bool × Arg)} {regs : List Int} {nx nx' : Int} {rows : List Row} (h : BRun S regs nx rows nx') : rows.length = wrows S := by
  induction h with
  | nil => rfl
  | @opn l rest regs nx nx' rows _ ih =>
    rw [ih, wrows_fal, ordP_rowss]
    show rowss l + (1 + l.length + wrows rest) = (1 + l.length + rowss l) + wrows rest
    (first | lia | omega)
  | @shut l rest regs own nx nx' rows _ _ _ ih =>
    show (headB l nx :: setRows (pieces l own) ++ rows).length = 1 + l.length + wrows rest
    rw [List.length_append, List.length_cons, setRows, List.length_map, pieces_len, ih]; (first | lia | omega)
  | @last l regs own nx nx' rows _ _ ih =>
    show (headB l 0 :: setRows (pieces l own) ++ rows).length = 1 + l.length + wrows []
    rw [List.length_append, List.length_cons, setRows, List.length_map, pieces_len, ih]; (first | lia | omega)
theorem plain_made (l : List Arg) (rows : List Row) (nx' : Int) (G : Arg.Good (.sub l)) (C : Arg.comp (.sub l) ≤ 13) (h : BRun [(false, .sub l)] [] 1 rows nx') : RightOk l rows (Arg.tog (.sub l)) := by
  obtain ⟨ks, h1, hc, hle, hin⟩ := h.lv [] (fun m hm => (nomatch hm)) (Int.le_refl _) (show (1 : Nat) = 1 from rfl)
  have eP : peakB ([] : List Int).length [(false, .sub l)] = Arg.tog (.sub l) := by
    show max (0 + Arg.tog (.sub l)) 0 = _; (first | lia | omega)
  rw [eP] at hle hin
  have hin := hin (by simp)
  have hlen : rows.length = Arg.rows (.sub l) := by have := h.len; rw [this]; show (Arg.sub l).rows + 0 = _; (first | lia | omega)
  have L := LO_of h1 [] 0 ⟨rfl, by simp, by simp, by simp, by simp, by simp, by simp, by simp⟩
  rw [← ivsN_eq] at L
  have hcomp : cntB [(false, .sub l)] = Arg.comp (.sub l) := by show Arg.comp (.sub l) + 0 = _; (first | lia | omega)
  rw [hcomp] at hc
  generalize hF : ivsN rows rows.length = F at L
  obtain ⟨l', new, x1, x2, x3, x4⟩ := L.ex
  have hl' : l' = [] := by simpa using x2
  subst hl'
  rw [List.nil_append] at x1
  subst x1
  have hnew : ∀ y ∈ F, liveAt F y.2.1 ∈ ks := fun y hy => by rw [← x4]; exact List.mem_map.mpr ⟨y, hy, rfl⟩
  have hFl : F.length = Arg.comp (.sub l) := by rw [← hc, ← x4, List.length_map]
  obtain ⟨y0, hy0, hye⟩ : ∃ y ∈ F, liveAt F y.2.1 = Arg.tog (.sub l) := by
    rw [← x4] at hin; obtain ⟨y, hy, e⟩ := List.mem_map.mp hin; exact ⟨y, hy, e⟩
  have hap : Arg.tog (.sub l) ≤ 13 := by
    have h2 : liveAt F y0.2.1 ≤ F.length := List.countP_le_length
    (first | lia | omega)
  refine ⟨hlen, by rw [hF]; exact hFl, G, C, by rw [hF]; exact L.asc, ?_, by (first | lia | omega)⟩
  rw [hF]
  refine mx_of L.asc L.ne (fun r hr b n e => ?_) (fun x hx => ?_) (fun x hx => ?_) ⟨y0, hy0, by (first | lia | omega)⟩
  · obtain ⟨j, hj⟩ := List.mem_iff_getElem?.mp hr
    have := ivsN_mem rows rows.length j r b n (List.getElem?_eq_some_iff.mp hj).1 hj e
    rw [hF] at this
    obtain ⟨x, h1, h2⟩ := List.mem_map.mp this
    exact ⟨x, h1, h2⟩
  · rcases L.back x hx with h1 | ⟨r, h1, b, h2⟩
    · simp at h1
    · exact ⟨r, h1, b, h2⟩
  · have := hle _ (hnew x hx); (first | lia | omega)
theorem plain : Plain := ⟨plain_taken, plain_made⟩
end Mine
namespace Mine
/-! the sort asks only pairs that stand in order: it changes nothing -/
theorem range_at {n i : Nat} (h : i < n) : (List.toArray (List.range n)).getD i 0 = i := by
  simp [Array.getD, h]
theorem asc_asc {n : Nat} {ask : Nat → Nat → (Bool → Shared → Prop) → Shared → Prop} {G : Nat → Shared → Prop} {s : Shared} (ha : ∀ i j C, j < i → i < n → C false s → ask i j C s) (hq : G n s) : ∀ f m, 1 ≤ m → m + f = n →
    (kas_asc (List.toArray (List.range n)) f m).kasWp ask G s
  | 0, m, _, e => by
    have e : m = n := e
    subst e; exact hq
  | f + 1, m, h1, e => by
    show ask ((List.toArray (List.range n)).getD m 0) ((List.toArray (List.range n)).getD (m - 1) 0) (fun c s' => (if c = true then KasT.ret m else kas_asc _ f (m + 1)).kasWp ask G s') s
    rw [range_at (by (first | lia | omega)), range_at (by (first | lia | omega))]
    exact ha m (m - 1) _ (by (first | lia | omega)) (by (first | lia | omega)) (asc_asc ha hq f (m + 1) (by (first | lia | omega)) (by (first | lia | omega)))
theorem asc_sort {n : Nat} {ask : Nat → Nat → (Bool → Shared → Prop) → Shared → Prop} {Q : Array Nat → Shared → Prop} {s : Shared} (hn : 1 ≤ n) (ha : ∀ i j C, j < i → i < n → C false s → ask i j C s) (hq : Q (List.toArray (List.range n)) s) : (kas_sort n).kasWp ask Q s := by
  unfold kas_sort
  rw [KasT.kasWp_bind]
  unfold kas_count
  rw [KasT.kasWp_bind]
  refine asc_asc ha ?_ (n - 1) 1 (Nat.le_refl _) (by (first | lia | omega))
  rw [if_pos (beq_self_eq_true _)]
  show (if n < n then _ else KasT.ret _).kasWp ask Q s
  rw [if_neg (Nat.lt_irrefl _)]
  exact hq

structure Kept (a : Addr) (s s' : Shared) : Prop where
  h : ∀ b o, b ≠ a → s.heap.get? b = some o → s'.heap.get? b = some o
  gens : s'.gens = s.gens
  os : s'.os = s.os
section
variable {prog : Program} {w : World} {A : Around} {E : Value → Shared → Prop} {s : Shared} {vs ks : List Value} {a kS : Addr} {e e1 n : Nat} {P : PySem.Fin → Shared → Prop} {Z : Nat → Int}
theorem tail_ok {st : SortSt} (hk : s.heap.get? kS = some (seqObj "list" (List.toArray ks) e)) (ha : s.heap.get? a = some (seqObj "list" #[] e1)) (hka : kS ≠ a) (hout : (arrOf st).map (·.2) = List.toArray vs) (hf : failedOf st = none)
    (hl : ks.length < 64) (hv : vs.length < 64) (h : ∀ s' c, (∀ b o, b ≠ a → b ≠ kS → s.heap.get? b = some o → s'.heap.get? b = some o) → s'.gens = s.gens → s'.os = s.os → s'.heap.get? a = some (seqObj "list" (List.toArray vs) c) → P (.done (.ret .none)) s') :
    wpAny (model prog w) A (ksk_tail a false e1 (.ref kS) st) P E s := by
  have s1 := Heap.SameBut.update s.heap kS (Obj.mapSeq fun _ => (#[] : Array Value))
  have ha1 : (s.heap.update kS (Obj.mapSeq fun _ => (#[] : Array Value))).get? a = some (seqObj "list" #[] e1) := (s1.2 a hka.symm).trans ha
  have s2 := Heap.SameBut.update (s.heap.update kS (Obj.mapSeq fun _ => (#[] : Array Value))) a (Obj.mapSeq fun _ => List.toArray vs)
  obtain ⟨c2, hc2⟩ : ∃ c2, ((s.heap.update kS (Obj.mapSeq fun _ => (#[] : Array Value))).update a (Obj.mapSeq fun _ => List.toArray vs)).get? a = some (seqObj "list" (List.toArray vs) c2) := ⟨_, get?_update_seq ha1 fun _ => List.toArray vs⟩
  unfold ksk_tail
  dsimp only
  rw [hout]
  refine wpAny_bind (listUpdate_at hk rfl ?_ (by rw [List.size_toArray, sizeLine_eq]; (first | lia | omega)) (Nat.zero_le _))
  refine wpAny_bind (wpAny_letGo ?_)
  refine wpAny_bind (seqEpoch_at ha1 rfl ?_)
  refine wpAny_bind (listUpdate_at ha1 rfl ?_ (Nat.zero_le _) (by show (List.toArray vs).size ≤ _; rw [List.size_toArray, sizeLine_eq]; (first | lia | omega)))
  rw [hf]
  simp only [bne_self_eq_false, Bool.false_eq_true, if_false]
  exact wpAny_pure (h _ c2 (fun b o h1 h2 q => (s2.2 b h1).trans ((s1.2 b h2).trans q)) rfl rfl hc2)
/-- the keys so far -/
noncomputable def Keys (h : Heap) (Z : Nat → Int) (ks : List Value) : Prop := ∀ (j : Nat) (k : Value), ks[j]? = some k → ∃ p t1 t2 i2 d, k = .ref p ∧ h.get? p = some (tupO [.int (Z j) t1, .int i2 t2] d)
theorem Keys.tups {h : Heap} : ∀ {ks : List Value} {Z : Nat → Int}, Keys h Z ks → ∃ fs, KatTups h ks fs ∧ fs.length = ks.length ∧ ∀ v ∈ fs, ∃ i t, v = .int i t
  | [], _, _ => ⟨[], trivial, rfl, fun v hv => (nomatch hv)⟩
  | k :: ks, Z, hk => by
    obtain ⟨p, t1, t2, i2, d, rfl, hp⟩ := hk 0 k rfl
    obtain ⟨fs, h1, h2, h3⟩ := Keys.tups (ks := ks) (Z := fun j => Z (j + 1)) fun j k hj => hk (j + 1) k hj
    refine ⟨.int (Z 0) t1 :: fs, KatTups.cons hp rfl rfl rfl h1, by simp [h2], fun v hv => ?_⟩
    rcases List.mem_cons.mp hv with rfl | hv
    · exact ⟨_, _, rfl⟩
    · exact h3 v hv
theorem Keys.ask {κ : SortKind} (hκ : κ = tuples' true) (hk : Keys s.heap Z ks) {i j : Nat} {C : Bool → Shared → Prop} (hij : j < i) (hi : i < ks.length) (hZ : Z j < Z i) (h : C false s) : kas_ask prog w A κ ks i j C s := by
  subst hκ
  have hgi : ks[i]? = some (ks.getD i Value.none) := by simp [hi]
  have hgj : ks[j]? = some (ks.getD j Value.none) := by simp [Nat.lt_trans hij hi]
  obtain ⟨p, t1, t2, i2, d, e1, hp⟩ := hk i _ hgi
  obtain ⟨p', t1', t2', i2', d', e1', hp'⟩ := hk j _ hgj
  unfold kas_ask
  rw [e1, e1']
  refine kat_lt hp rfl hp' rfl ?_
  show KatLex prog w A true _ C [(.int (Z i) t1, .int (Z j) t1'), (.int i2 t2, .int i2' t2')] 0 s
  refine kat_cons (wpAny_eqBool_int ?_)
  have hne : (Z i == Z j) = false := beq_eq_false_iff_ne.mpr (by (first | lia | omega))
  rw [hne]
  refine kat_no ?_
  show wpAny _ A (oneLt' true (.int (Z i) t1) (.int (Z j) t1')) C _ s
  refine oneLt_int ?_
  rw [decide_eq_false (by (first | lia | omega))]
  exact h
theorem end_ok (hk : s.heap.get? kS = some (seqObj "list" (List.toArray ks) e)) (ha : s.heap.get? a = some (seqObj "list" #[] e1)) (hka : kS ≠ a) (hl : ks.length = vs.length) (h1 : 1 ≤ vs.length) (h64 : vs.length < 64) (hZ : ∀ i j, i < j → j < vs.length → Z i < Z j) (hks : Keys s.heap Z ks)
    (h : ∀ s' c, (∀ b o, b ≠ a → b ≠ kS → s.heap.get? b = some o → s'.heap.get? b = some o) → s'.gens = s.gens → s'.os = s.os → s'.heap.get? a = some (seqObj "list" (List.toArray vs) c) → P (.done (.ret .none)) s') :
    wpAny (model prog w) A (ksk_end a false (List.toArray vs) e1 (.ref kS) (List.toArray ks)) P E s := by
  unfold ksk_end
  dsimp only
  simp only [Bool.false_eq_true, if_false]
  have hfst : ((List.toArray ks).zip (List.toArray vs)).map (·.2) = List.toArray vs := by
    apply Array.toList_inj.mp
    rw [Array.toList_map, ksk_zip]
    show List.map Prod.snd (ks.zip vs) = vs
    rw [List.map_snd_zip (by (first | lia | omega))]
  by_cases h2 : (List.toArray vs).size < 2
  · rw [if_pos h2, if_pos h2]
    refine wpAny_bind (wpAny_pure ?_)
    rw [StateT.run_pure]
    refine wpAny_bind (wpAny_pure ?_)
    exact tail_ok hk ha hka hfst rfl (by (first | lia | omega)) h64 h
  · rw [if_neg h2, if_neg h2]
    rw [List.size_toArray] at h2
    obtain ⟨fs, f1, f2, f3⟩ := hks.tups
    refine wpAny_bind (kat_kind (T := .type "int") f1 (by (first | lia | omega)) (fun v hv => ?_) (by decide) ?_)
    · obtain ⟨i, t, rfl⟩ := f3 v hv
      exact .now
    refine wpAny_bind (wpAny_mono (kat_run (Q := fun st' s' => s' = s ∧ (arrOf st').map (·.2) = List.toArray vs ∧ failedOf st' = none) (G := fun p s' => s' = s ∧ p = List.toArray (List.range vs.length)) hl (by (first | lia | omega)) h64 (fun p st' s' a1 a2 a3 a4 => ?_) ?_) ?_ fun _ _ x => x)
    · refine ⟨a4.1, ?_, a3⟩
      rw [kat_snds hl a2, a4.2]
      congr 1
      apply List.ext_getElem?
      intro i
      rcases Nat.lt_or_ge i vs.length with hi | hi
      · simp [hi]
      · simp [hi]
    · exact asc_sort h1 (fun i j C hij hi hC => hks.ask (congrArg tuples' (show (Value.type "int" != Value.type "tuple") = true by rfl)) hij (by (first | lia | omega)) (hZ j i hij hi) hC) ⟨rfl, rfl⟩
    · rintro ⟨⟨⟩, st'⟩ s' ⟨rfl, ho, hf⟩
      exact tail_ok hk ha hka ho hf (by (first | lia | omega)) h64 h
theorem tree_ok {f : Value} (ho : s.heap.get? a = some (seqObj "list" (List.toArray vs) n)) (h1 : 1 ≤ vs.length) (h64 : vs.length < 64) (hZ : ∀ i j, i < j → j < vs.length → Z i < Z j)
    (hkey : ∀ j x s', vs[j]? = some x → Kept a s s' → wpAny (model prog w) A (call f [x]) (fun k s'' => (∀ b o, s'.heap.get? b = some o → s''.heap.get? b = some o) ∧ s''.gens = s'.gens ∧ s''.os = s'.os ∧ ∃ p t1 t2 i2 d, k = .ref p ∧ s''.heap.get? p = some (tupO [.int (Z j) t1, .int i2 t2] d)) noE s')
    (h : ∀ s' c, Kept a s s' → s'.heap.get? a = some (seqObj "list" (List.toArray vs) c) → P (.done (.ret .none)) s') :
    wpAny (model prog w) A (ksk_tree a f false) P E s := by
  have ha : a < s.heap.objs.size := Heap.lt_size ho
  have s1 := Heap.SameBut.update s.heap a (Obj.mapSeq fun _ => (#[] : Array Value))
  obtain ⟨e1, ho1⟩ : ∃ e1, (s.heap.update a (Obj.mapSeq fun _ => (#[] : Array Value))).get? a = some (seqObj "list" #[] e1) := ⟨_, get?_update_seq ho fun _ => #[]⟩
  have hsz : ((s.heap.update a (Obj.mapSeq fun _ => (#[] : Array Value))).push (seqObj "tuple" (List.toArray vs) 0)).objs.size = s.heap.objs.size + 1 := by rw [size_push', Heap.size_update]
  unfold ksk_tree
  refine wpAny_bind (listItems_at ho rfl ?_)
  refine wpAny_bind (listUpdate_at ho rfl ?_ (by rw [List.size_toArray, sizeLine_eq]; (first | lia | omega)) (Nat.zero_le _))
  refine wpAny_bind (seqEpoch_at ho1 rfl ?_)
  refine wpAny_bind (wpAny_newTuple ?_ (by show vs.length ≤ _; rw [sizeLine_eq]; (first | lia | omega)))
  refine wpAny_bind (wpAny_newList ?_ (Nat.zero_le _))
  refine wpAny_holding ?_
  show wpAny _ _ _ _ _ { s with heap := ((s.heap.update a (Obj.mapSeq fun _ => (#[] : Array Value))).push (seqObj "tuple" (List.toArray vs) 0)).push (seqObj "list" #[] 0) }
  generalize hkS : ((s.heap.update a (Obj.mapSeq fun _ => (#[] : Array Value))).push (seqObj "tuple" (List.toArray vs) 0)).objs.size = kS
  rw [hkS] at hsz
  have hka : kS ≠ a := Nat.ne_of_gt (by rw [hsz]; exact Nat.lt_succ_of_lt ha)
  have start : (((s.heap.update a (Obj.mapSeq fun _ => (#[] : Array Value))).push (seqObj "tuple" (List.toArray vs) 0)).push (seqObj "list" #[] 0)).get? kS = some (seqObj "list" #[] 0) := by rw [← hkS]; exact Heap.get?_push_size _ rfl
  unfold ksk_rest
  refine wpAny_bind (wpAny_rule ?_)
  rw [List.forIn_toArray]
  refine wpAny_bind (ksk_fold (fun i s' => ∃ ks e, s'.heap.get? kS = some (seqObj "list" (List.toArray ks) e) ∧ ks.length = i ∧ s'.heap.get? a = some (seqObj "list" #[] e1) ∧ Kept a s s' ∧ Keys s'.heap Z ks) vs 0 _ ?_ (fun j x s' hj hI => ?_) fun s' hI => ?_)
  · exact ⟨[], 0, start, rfl, Heap.get?_push_of_some _ (Heap.get?_push_of_some _ ho1), ⟨fun b o hb q => Heap.get?_push_of_some _ (Heap.get?_push_of_some _ ((s1.2 b hb).trans q)), rfl, rfl⟩, fun j k hj => by simp at hj⟩
  · obtain ⟨ks, e, k1, k2, k3, k4, k5⟩ := hI
    rw [Nat.zero_add] at k2
    have hjl : j < vs.length := (List.getElem?_eq_some_iff.mp hj).1
    refine wpAny_bind (wpAny_attempt (wpN (hkey j x s' hj k4) (fun k s'' hk => ?_)))
    obtain ⟨q1, q2, q3, p, t1, t2, i2, d, rfl, q4⟩ := hk
    have k1' := q1 _ _ k1
    have u1 := Heap.SameBut.update s''.heap kS (Obj.mapSeq (·.push (.ref p)))
    have ea : (List.toArray ks).push (.ref p) = List.toArray (ks ++ [.ref p]) := by simp
    obtain ⟨c2, hc2⟩ : ∃ c2, (s''.heap.update kS (Obj.mapSeq (·.push (.ref p)))).get? kS = some (seqObj "list" (List.toArray (ks ++ [.ref p])) c2) := ⟨_, by rw [← ea]; exact get?_update_seq k1' (·.push (.ref p))⟩
    dsimp only
    have nk : ∀ (b : Addr) (ws : List Value) (d : Nat), s''.heap.get? b = some (tupO ws d) → b ≠ kS := fun b ws d q z => by subst z; rw [k1'] at q; have := congrArg (fun o : Option Obj => o.map (·.cls)) q; simp [seqObj] at this
    refine wpAny_bind (listUpdate_at k1' rfl ?_ (by rw [List.size_toArray, sizeLine_eq]; (first | lia | omega)) (Nat.le_trans (Nat.le_of_eq (Array.size_push ..)) (by rw [List.size_toArray, sizeLine_eq]; (first | lia | omega))))
    refine wpAny_pure ⟨rfl, ks ++ [.ref p], c2, hc2, by simp [k2], (u1.2 a hka.symm).trans (q1 _ _ k3), ⟨fun b o hb q => ?_, q2.trans k4.gens, q3.trans k4.os⟩, fun i k hi => ?_⟩
    · refine (u1.2 b ?_).trans (q1 _ _ (k4.h b o hb q))
      exact Nat.ne_of_lt (by rw [hsz]; exact Nat.lt_succ_of_lt (Heap.lt_size q))
    · rcases Nat.lt_or_ge i ks.length with hlt | hge
      · rw [List.getElem?_append_left hlt] at hi
        obtain ⟨p', t1', t2', i2', d', e', hp'⟩ := k5 i k hi
        have hp'' := q1 _ _ hp'
        exact ⟨p', t1', t2', i2', d', e', (u1.2 p' (nk _ _ _ hp'')).trans hp''⟩
      · rw [List.getElem?_append_right hge] at hi
        have : i - ks.length = 0 := by
          rcases Nat.eq_zero_or_pos (i - ks.length) with z | z
          · exact z
          · rw [List.getElem?_eq_none (by simp; (first | lia | omega))] at hi; cases hi
        rw [this] at hi
        have hij : i = j := by (first | lia | omega)
        subst hij
        cases hi
        exact ⟨p, t1, t2, i2, d, rfl, (u1.2 p (nk _ _ _ q4)).trans q4⟩
  · obtain ⟨ks, e, k1, k2, k3, k4, k5⟩ := hI
    rw [Nat.zero_add] at k2
    refine wpAny_bind (listItems_at k1 rfl ?_)
    refine end_ok k1 k3 hka k2 h1 h64 hZ k5 fun s'' c y1 y2 y3 y4 => h s'' c ⟨fun b o hb q => y1 b o hb ?_ (k4.h b o hb q), y2.trans k4.gens, y3.trans k4.os⟩ y4
    exact Nat.ne_of_lt (by rw [hsz]; exact Nat.lt_succ_of_lt (Heap.lt_size q))
theorem sorted_ok {l q : Addr} {Q : Value → Shared → Prop} (hl : s.heap.IsList l (List.toArray vs)) (h1 : 1 ≤ vs.length) (h64 : vs.length < 64) (hZ : ∀ i j, i < j → j < vs.length → Z i < Z j)
    (hkey : ∀ j x s', vs[j]? = some x → (∀ b o, s.heap.get? b = some o → s'.heap.get? b = some o) → s'.gens = s.gens → s'.os = s.os →
      wpAny (model prog w) A.in1.in1 (call (.ref q) [x]) (fun k s'' => (∀ b o, s'.heap.get? b = some o → s''.heap.get? b = some o) ∧ s''.gens = s'.gens ∧ s''.os = s'.os ∧ ∃ p t1 t2 i2 d, k = .ref p ∧ s''.heap.get? p = some (tupO [.int (Z j) t1, .int i2 t2] d)) noE s')
    (h : ∀ s' D c, (∀ b o, s.heap.get? b = some o → s'.heap.get? b = some o) → s'.gens = s.gens → s'.os = s.os → s.heap.get? D = none → s'.heap.get? D = some (lstO vs c) → Q (.ref D) s') :
    wpAny (model prog w) A (call (.builtin "sorted") [.ref l] [(Str.ofString "key", .ref q)]) Q E s := by
  refine call_function_entry_kw kind_sorted plain_sorted entry_sorted (ksk_s1 _ _) ?_
  unfold Builtin.«sorted»
  refine wpAny_bind (m := checkCount "sorted" 1 1 _) (wpAny_pure ?_)
  refine wpAny_bind (collect_list hl ?_ (by rw [sizeLine_eq]; (first | lia | omega)))
  refine wpAny_bind (wpAny_newList ?_ (by rw [sizeLine_eq]; (first | lia | omega)))
  generalize hH : (s.heap.push (seqObj "list" #[] 0)).update s.heap.objs.size (Obj.mapSeq (· ++ List.toArray vs)) = H
  have hsz : H.objs.size = s.heap.objs.size + 1 := by rw [← hH, Heap.size_update, size_push']
  have keep : ∀ b o, s.heap.get? b = some o → H.get? b = some o := fun b o q => by
    have hlt : b < s.heap.objs.size := Heap.lt_size q
    rw [← hH, Heap.get?_update_ne _ _ _ _ (Nat.ne_of_lt hlt)]
    exact Heap.get?_push_of_some _ q
  show wpAny _ _ _ _ _ { s with heap := H.push (seqObj "list" (List.toArray vs) 0) }
  have hoL : (H.push (seqObj "list" (List.toArray vs) 0)).get? H.objs.size = some (seqObj "list" (List.toArray vs) 0) := Heap.get?_push_size _ rfl
  have hD : s.heap.get? H.objs.size = none := Heap.get?_none_of_le (by (first | lia | omega))
  have neD : ∀ b o, s.heap.get? b = some o → b ≠ H.objs.size := fun b o q z => by rw [z, hD] at q; cases q
  refine wpAny_bind (wpAny_holding (wpAny_call_entry_kw slot_list_sort ⟨_, hoL, rfl⟩ entry_list_sort ?body (ksk_l1 _ _)))
  case body =>
    show wpAny (model prog w) A.in1.in1 (Builtin.«list.sort» ⟨[.ref H.objs.size], [(Str.ofString "key", .ref q)]⟩) _ _ _
    rw [ksk_t1]
    refine tree_ok (Z := Z) (s := { s with heap := H.push (seqObj "list" (List.toArray vs) 0) }) hoL h1 h64 hZ (fun j x s' hj hk => ?_) fun s' c hk hc => ?_
    · exact hkey j x s' hj (fun b o q => hk.h b o (neD b o q) (Heap.get?_push_of_some _ (keep b o q))) hk.gens hk.os
    · exact ⟨_, rfl, wpAny_pure ⟨_, rfl, h s' _ c (fun b o q => hk.h b o (neD b o q) (Heap.get?_push_of_some _ (keep b o q))) hk.gens hk.os hD hc⟩⟩
end
end Mine
namespace Mine
noncomputable def bd_by_start : List Stmt := fBody (topAt 49)
noncomputable def sc_by_start : Scope := fScope (topAt 49)
noncomputable def lamOf : List Stmt → Option (Arguments × Expr × Scope × Pos)
  | [.Return (some (.Call _ _ [⟨_, .Lambda p b s q, _⟩] _)) _] => some (p, b, s, q)
  | _ => none
noncomputable def lam4 : Arguments × Expr × Scope × Pos := (lamOf bd_by_start).getD (⟨[], [], none, [], [], none, []⟩, .Name "" ⟨0, 0, 0, 0⟩, ⟨.function, [], false, false, []⟩, ⟨0, 0, 0, 0⟩)
noncomputable abbrev lamP : Arguments := lam4.1
noncomputable abbrev lamB : Expr := lam4.2.1
noncomputable abbrev lamS : Scope := lam4.2.2.1
noncomputable abbrev lamPos : Pos := lam4.2.2.2
theorem by_form : ∃ np op cp rp kp, bd_by_start = [.Return (some (.Call (.Name "sorted" np) [.Name "occupations" op] [⟨some "key", .Lambda lamP lamB lamS lamPos, kp⟩] cp)) rp] := ⟨_, _, _, _, _, rfl⟩
theorem lam_form : ∃ p1 p2 p3 p4 k p5, lamB = .Tuple [.Attribute (.Name "taken" p1) "start" p2, .Attribute (.Name "taken" p3) "number" p4] k p5 := ⟨_, _, _, _, _, _, rfl⟩
noncomputable def lamQ : Str := ("by_start" ++ ".<locals>.") ++ "<lambda>"

noncomputable def TabG (h : Heap) (ps : Array Value) : Prop := ps = #[] ∨ ∃ c' o vs t, ps = #[rawInt lamPos.line, rawInt lamPos.col, .ref c'] ∧ h.get? c' = some o ∧ o.cls = .type "code" ∧ o.data = .fields vs ∧ vs[1]? = some (.str lamQ t)
theorem TabG.mono {h h' : Heap} {ps : Array Value} (k : TK h h') (x : TabG h ps) : TabG h' ps := x.imp id fun ⟨c', o, vs, t, e, ho, hc, hd, hv⟩ => ⟨c', o, vs, t, e, k _ _ ho (.inr ⟨hc, _, hd⟩), hc, hd, hv⟩

structure FnC (K : Frag) (f cd : Addr) (qual : Str) (params : List Str) (body : List Stmt) (scope : Scope) : Prop where
  ok : ∃ oc od fd sl, K.lookup f = some ⟨oc, od, .func fd, sl⟩ ∧ (∀ vs : List Value, vs.length = params.length → bindArgs fd ⟨vs, []⟩ = pure (params.zip vs)) ∧ fd.body = .stmts body ∧ fd.scope = scope ∧ fd.globals = mainGlobals ∧ fd.closure = [] ∧
    fd.builtins = builtinsNs ∧ codeIn K fd.code fd.qualname = true ∧ fd.qualname = qual ∧ fd.code = .ref cd

structure ByH (c : Cx) : Prop where
  tg : c.TabGood = TabG
  code : CodeHd c.h₀ 634 630
  bm : ∃ bm ob, c.mg "__builtins__" = some (.ref bm) ∧ bm ≠ builtinsNs ∧ c.h₀.get? bm = some ob ∧ ob.cls = .type "module" ∧ ob.dict = some builtinsNs ∧ ob.data = .plain
  fn : FnC c.K 635 634 "by_start" ["occupations"] bd_by_start sc_by_start
  srt : gNone c.K "sorted"

section
variable {M : Model} {A : Around} {E : Value → Shared → Prop} {s : Shared} {name qual : Str} {params : Arguments} {body : Expr} {scope : Scope} {env : Env} {c P : Addr} {ps : Array Value} {pos : Pos} {firstLine : Nat} {mg : Str → Option Value} {Q : Value → Shared → Prop}
theorem mk_lam (hcl : closureFor scope env = pure []) (hge0 : env.globals = mainGlobals) (hg : s.heap.Ns mainGlobals mg) (hcode : env.code = .ref c) (C : CodeHd s.heap c P) (hP : s.heap.get? P = some (tabObj ps)) (ht : TriplesOk ps.toList)
    (hnf : codeAmong pos ps.toList = none) (hgP : mainGlobals ≠ P) (hb : s.heap.BuiltinsAt mg P)
    (h : ∀ c' h' tk o vs t, Heap.ExtBut P s.heap h' → h'.get? c' = some o → o.cls = .type "code" → o.data = .fields vs → vs[1]? = some (.str qual t) → h'.get? P = some (tabObj (ps ++ #[rawInt pos.line, rawInt pos.col, .ref c'])) →
      Q (.ref h'.objs.size) { s with heap := h'.push (kla_obj name qual params body scope [] ((mg "__name__").getD .none) c' .none), toks := tk }) :
    wpAny M A (makeFunction name qual params (.expr body) scope env [] [] [] pos firstLine) Q E s := by
  rw [makeFunction_eq]
  simp only [List.zip_nil_right, List.filterMap_nil, List.isEmpty_nil, if_true, pure_bind]
  obtain ⟨bm, ob, hbm, hne0, _, hneP, hbo, hcls, hdict, hdata⟩ := hb
  unfold makeTail
  rw [hcl, hge0]
  refine wpAny_bind (wpAny_pure ?_)
  simp only [List.isEmpty_nil, if_true]
  refine wpAny_bind (wpAny_pure ?_)
  refine wpAny_bind (wpAny_functionCodeX hcode (C.code hP ht) (C.tab hP) hnf fun c' h' tk hx hge hlt _ hrec htb hc2 => ?_)
  have hg' := hg.extBut hx hgP
  refine wpAny_bind (wpAny_builtinsFor hg' hbm hne0 (hx _ _ hneP hbo) hcls hdict hdata ?_)
  refine wpAny_bind (wpAny_nsGet hg' ?_)
  obtain ⟨_, _, _, ⟨⟨oc, vs, e1, e2, e3, _⟩, _⟩⟩ := hc2
  obtain ⟨c₂, oc₂, vs₂, t, q1, q2, q3, q4⟩ := hrec
  cases q1
  rw [e1] at q2
  cases q2
  exact wpAny_bind (wpAny_pure (wpAny_newObj_type (h c' h' tk oc vs₂ t hx e1 e2 q3 q4 htb.2) (by size_fits)))
end

section
variable {c : Cx} {n : Nat} {names : List Str} {scope : Scope}
variable {P : Prot} {L : Addr} {q : Str} {f : Addr} {cd : Value} {A : Around} {s : Shared} {m : Fm} {st : St}
theorem Rep.tabUpd {h h' : Heap} {a : Addr} (R : Rep c P L names h m st) (ho : st.tb a = true) (hs : Heap.ExtBut a h h') {ps : Array Value} (hn : h'.get? a = some (tabObj ps)) (hg : c.TabGood h' ps) : Rep c P L names h' m st ∧ TK h h' := by
  classical
  obtain ⟨δ, x⟩ := R.s
  have k : TK h h' := x.tk (mo := .tab) ho hs
  refine ⟨⟨⟨δ, x.upd (mo := .tab) (mo' := .tab) rfl hs ho ⟨ps, hn, hg⟩ (fun b y q => ?_) rfl⟩, R.f.but hs (R.neL (mo := .tab) ho) k⟩, k⟩
  by_cases hb : b = a ∧ y = .tab
  · exact .inl hb
  · exact .inr ⟨q, fun e z => hb ⟨e, z⟩⟩
theorem lam_ok (B : ByH c) (R : Rep c P L names s.heap m st) (htb : st.tb 630 = true) {scp : Scope} {f : Addr} :
    wpAny (model c.prog c.w) A (eval (.Lambda lamP lamB lamS lamPos) (envOf "by_start" scp L f (.ref 634)))
      (fun v s' => Rep c P L names s'.heap m st ∧ Ext s s' ∧ ∃ fa c' ctv pm, v = .ref fa ∧ s'.heap.get? fa = some (kla_obj "<lambda>" lamQ lamP lamB lamS [] pm c' ctv) ∧ s'.heap.CodeRec (.ref c') lamQ) noE s := by
  obtain ⟨δ, ⟨ps, hP, hg⟩, _⟩ := R.obj (mo := .tab) htb
  rw [B.tg] at hg
  have C := B.code.keeps R.keeps₀
  have G := c.g.keeps R.keeps₀
  obtain ⟨bm, ob, b1, b2, b3, b4, b5, b6⟩ := B.bm
  have b3' := R.keeps₀ _ _ b3
  have hgP : mainGlobals ≠ 630 := by decide
  have hbP : bm ≠ 630 := fun q => by subst q; rw [hP] at b3'; cases b3'; cases b4
  have hbG : bm ≠ mainGlobals := fun q => by
    obtain ⟨o, es, ep, e, hd, _⟩ := G
    rw [q, e] at b3'; cases b3'; rw [hd] at b6; cases b6
  have BA : s.heap.BuiltinsAt c.mg 630 := ⟨bm, ob, b1, b2, hbG, hbP, b3', b4, b5, b6⟩
  refine kla_eval rfl ?_
  show wpAny _ _ (makeFunction "<lambda>" lamQ lamP (.expr lamB) lamS (envOf "by_start" scp L f (.ref 634)) [] [] [] lamPos lamPos.line) _ _ _
  rcases hg with rfl | ⟨c', o, vs, t, rfl, hc, hcc, hcd, hcv⟩
  · refine mk_lam rfl rfl G rfl C hP trivial rfl hgP BA fun c' h' tk o vs t hx h1 h2 h3 h4 h5 => ?_
    have good : TabG h' (#[] ++ #[rawInt lamPos.line, rawInt lamPos.col, .ref c']) := .inr ⟨c', o, vs, t, by simp, h1, h2, h3, h4⟩
    obtain ⟨R2, k2⟩ := R.tabUpd htb hx h5 (by rw [B.tg]; exact good)
    exact ⟨R2.keep (keepPush _), ⟨k2.trans (.of_keep (keepPush _)), rfl, rfl⟩, _, c', _, _, rfl, Heap.get?_push_size _ rfl, ⟨_, o, vs, t, rfl, Heap.get?_push_of_some _ h1, h3, h4⟩⟩
  · refine kla_makeFunctionHit (cv := .ref c') rfl rfl G rfl C hP (by simp [TriplesOk, rawInt]) (by simp [codeAmong, rawInt]) BA fun ctv h' tk hk hz => ?_
    have k2 : ∀ b o, s.heap.get? b = some o → (h'.push { cls := .type "function", data := .func (kla_fn "<lambda>" lamQ lamP lamB lamS [] ((c.mg "__name__").getD .none) (.ref c') ctv) }).get? b = some o := fun b o e => Heap.get?_push_of_some _ (hk b o e)
    exact ⟨R.keep k2, ⟨.of_keep k2, rfl, rfl⟩, _, c', ctv, _, rfl, Heap.get?_push_size _ rfl, ⟨_, o, vs, t, rfl, k2 _ _ hc, hcd, hcv⟩⟩

theorem key_ok (kf : KF c.K) (R : Rep c P L names s.heap m st) (rl : A.depth < recursionLimit) {fa c' : Addr} {ctv pm : Value} (hf : s.heap.get? fa = some (kla_obj "<lambda>" lamQ lamP lamB lamS [] pm c' ctv)) (hcd : s.heap.CodeRec (.ref c') lamQ) {o : Oc} (ho : o.at st) :
    wpAny (model c.prog c.w) A (call (.ref fa) [.ref o.a]) (fun k s'' => (∀ b o, s.heap.get? b = some o → s''.heap.get? b = some o) ∧ s''.gens = s.gens ∧ s''.os = s.os ∧ ∃ p t1 t2 i2 d, k = .ref p ∧ s''.heap.get? p = some (tupO [.int o.i t1, .int i2 t2] d)) noE s := by
  have hcell : ∀ x ∈ lamS.names, x.2 ≠ .cell := by decide +kernel
  have hx : lamS.names.lookup ("taken" : Str) = some NameKind.local := by decide +kernel
  refine wpAny_call (kla_callFunE rl hf rfl rfl rfl rfl hcd ?_)
  have hb : bindArgs (kla_fn "<lambda>" lamQ lamP lamB lamS [] pm (.ref c') ctv) ⟨[.ref o.a], []⟩ = pure [(("taken" : Str), .ref o.a)] := rfl
  rw [hb]
  refine wpAny_pure (wpAny_newFunctionEnv hcell (fun x hx' => by
    rcases List.mem_cons.mp hx' with rfl | hx'
    · exact hx
    · cases hx') (fun h₁ hns hsb => ⟨(c.nolimit.keeps R.keeps₀).fresh _ hsb, ?_⟩) rfl)
  have k1 : ∀ b o, s.heap.get? b = some o → h₁.get? b = some o := fun b o e => hsb.extBut b o (Nat.ne_of_lt (Heap.lt_size e)) (Heap.get?_push_of_some _ e)
  have R1 : Rep c P L names h₁ m st := R.keep k1
  obtain ⟨p1, p2, p3, p4, k, p5, hlam⟩ := lam_form
  refine kla_codeExpr (wpN ?_ fun _ _ z => z)
  rw [hlam]
  have nm : ∀ {px : Pos} {Q : Value → Shared → Prop} {s₄ : Shared} {A' : Around}, s₄.heap = h₁ → Q (.ref o.a) s₄ → wpAny (model c.prog c.w) A' (eval (.Name "taken" px) (newEnv lamS s.heap.objs.size mainGlobals [] (lamQ ++ ".<locals>.") (some fa) (.ref c') none builtinsNs)) Q noE s₄ := fun e h =>
    wpAny_Name (wpAny_loadName_local (m := fun x => ([(("taken" : Str), (Value.ref o.a))] : List (Str × Value)).reverse.lookup x) rfl hx (by rw [e]; exact hns) rfl h) rfl
  refine wpAny_Tuple (wpAny_items_cons (attr_node rfl (nm rfl (getAttr_ (x := ("start" : Str)) (k := 21) (p := .int o.i) R1 ho (by decide) rfl kf.a_563_start rfl fun v1 hv1 => ?_))) rfl)
  refine wpAny_items_cons (attr_node rfl (nm rfl (getAttr_ (x := ("number" : Str)) (k := 20) (p := .int o.n) R1 ho (by decide) rfl kf.a_563_number rfl fun v2 hv2 => ?_))) rfl
  obtain ⟨t1, rfl⟩ := hv1
  obtain ⟨t2, rfl⟩ := hv2
  refine wpAny_items_nil ⟨by rw [sizeLine_eq]; simp, fun b o' e => Heap.get?_push_of_some _ (k1 b o' e), rfl, rfl, _, t1, t2, o.n, 0, rfl, Heap.get?_push_size _ rfl⟩
end
end Mine
namespace Mine
section
variable {c : Cx} {n : Nat} {names : List Str} {scope : Scope}
variable {P : Prot} {L : Addr} {q : Str} {f : Addr} {cd : Value} {A : Around} {s : Shared} {m : Fm} {st : St}
theorem CodeOk.fnC {f ca : Addr} {qn : Str} {params : List Str} {body : List Stmt} {w : WS} {S : Spec} (F : FnC c.K f ca qn params body scope) (hp : params = names.take params.length) (hnd : names.Nodup) (hk : scope.kind = .function) (hcell : ∀ x ∈ scope.names, x.2 ≠ .cell)
    (hloc : ∀ x ∈ params, scope.names.lookup x = some .local) (hco : scope.isCoroutine = false) (hgen : scope.isGenerator = false) (hb : ∀ {P L A s m st Q}, Room n A → Rep c P L names s.heap m st → w m st Q → wpAny (model c.prog c.w) A (execs body (envOf qn scope L f (.ref ca))) (PostS c P L names Q s) noE s)
    (hS : ∀ ps st Q, S ps st Q → ps.length = params.length ∧ w (frame0 names ps) st (fun fl _ st' => ∃ st'', Le st'' st' ∧ Q (retOf fl) st'')) : CodeOk c (n + 1) (.ref f) S := fun ⦃P L nms A s m st Q ps vs⦄ rm R V hs => by
  obtain ⟨hlen, hw⟩ := hS ps st Q hs
  obtain ⟨oc, od, ⟨name, qual, prm, bdy, scp, gl, clo, df, kd, doc, pm, an, cdv, ct, bi⟩, sl, hl, hbind, rfl, rfl, rfl, rfl, rfl, hcd, rfl, rfl⟩ := F.ok
  have ho := R.K _ _ hl
  have hvl : vs.length = params.length := V.length.trans hlen
  refine (codeAny_call_function rm.rl ho rfl hco hgen rfl (codeRec_of R.K hcd) ?_)
  rw [hbind vs hvl]
  obtain ⟨P', hPP, hin, hout⟩ := R.enter
  have hndp : params.Nodup := by rw [hp]; exact hnd.sublist (List.take_sublist _ _)
  refine wpAny_pure (wpAny_newFunctionEnv hcell (fun x hx => hloc _ (List.of_mem_zip hx).1) (fun h₁ hns hsb => ⟨(c.nolimit.keeps R.keeps₀).fresh _ hsb, ?_⟩) hk)
  have k1 : ∀ b o, s.heap.get? b = some o → h₁.get? b = some o := fun b o e => hsb.extBut b o (Nat.ne_of_lt (Heap.lt_size e)) (Heap.get?_push_of_some _ e)
  have R1 : Rep c P' s.heap.objs.size names h₁ (frame0 names ps) st := hin h₁ _ names _ k1 (Nat.le_refl _) ⟨_, hns, fun i p e => by
    unfold frame0 at e
    rcases Nat.lt_or_ge i ps.length with hi | hi
    · rw [List.getElem?_append_left (by simpa using hi)] at e
      rw [List.getElem?_map] at e
      obtain ⟨p', e1, e2⟩ := Option.map_eq_some_iff.mp e
      cases e2
      obtain ⟨v, v1, v2⟩ := V.get e1
      have hip : i < params.length := by (first | lia | omega)
      have hx : params[i]? = some params[i] := List.getElem?_eq_getElem hip
      refine ⟨params[i], v, ?_, lookup_zip_rev hndp hx v1, VR.mono (.of_keep k1) _ _ v2⟩
      have h2 : (names.take params.length)[i]? = some params[i] := hp ▸ hx
      rw [List.getElem?_take_of_lt hip] at h2
      exact h2
    · rw [List.getElem?_append_right (by simpa using hi), List.getElem?_replicate] at e
      split at e <;> cases e⟩
  refine codeAny_func (wpN (hb (A := A.deeper _) rm.deeper R1 hw) fun fl s₂ ⟨g, m₂, st₂, R₂, F₂, X₂, st₃, hle, q₂⟩ => ?_)
  obtain ⟨R₃, tk⟩ := hout _ _ _ _ _ R₂
  have X : Ext s s₂ := ⟨tk, X₂.gens, X₂.os⟩
  cases g with
  | next => cases F₂; exact ⟨.none, st₃, R₃.le (.rfl' _) hle, rfl, X, q₂⟩
  | brk => cases F₂; exact ⟨.none, st₃, R₃.le (.rfl' _) hle, rfl, X, q₂⟩
  | cont => cases F₂; exact ⟨.none, st₃, R₃.le (.rfl' _) hle, rfl, X, q₂⟩
  | ret p => obtain ⟨v, rfl, hv⟩ := F₂; exact ⟨p, st₃, R₃.le (.rfl' _) hle, hv, X, q₂⟩

theorem refs_vals {h : Heap} : ∀ {occs : List Oc} {vs : List Value}, VRs h (refs occs) vs → vs = occs.map fun o => Value.ref o.a
  | [], vs, x => x
  | o :: r, vs, x => by
    obtain ⟨v, vs', rfl, hv, hr⟩ := x
    cases hv
    rw [refs_vals hr]; rfl
noncomputable def w_by_start : WS := fun m st Q => ∃ (K : Addr) (occs : List Oc), m[0]? = some (some (.ref K)) ∧ st.ls K = some (refs occs) ∧ st.tb 630 = true ∧ (∀ o ∈ occs, o.at st) ∧ occs.Pairwise (fun x y => x.i < y.i) ∧ 1 ≤ occs.length ∧ occs.length ≤ 60 ∧
  ∀ D, st.free D → Q (.ret (.ref D)) m (st.setL D (refs occs))
theorem run_by_start (kf : KF c.K) (B : ByH c) {Q : Fl → Fm → St → Prop} (rm : Room n A) (R : Rep c P L ["occupations"] s.heap m st) (hw : w_by_start m st Q) :
    wpAny (model c.prog c.w) A (execs bd_by_start (envOf "by_start" sc_by_start L 635 (.ref 634))) (PostS c P L ["occupations"] Q s) noE s := by
  obtain ⟨K, occs, h0, hK, htb, hat, hasc, h1, h60, hq⟩ := hw
  obtain ⟨np, op, cp, rp, kp, hbd⟩ := by_form
  rw [hbd]
  obtain ⟨hg1, hg2⟩ := gloAll (scope := sc_by_start) (x := "sorted") (by decide +kernel)
  refine wpAny_execs_cons (wpAny_Return_some ?_)
  refine wpAny_Call_ofName (Calls.Name_function_global rfl hg1 (Calls.loadGlobal_builtin (c.g.keeps R.keeps₀) (mg_none_of c.X c.g B.srt) (c.b.keeps R.keeps₀) ((c.bi "sorted" (by decide)).trans (show bootBuiltins "sorted" = some (.builtin "sorted") from rfl)) ?_) hg2)
  refine callWith_kw ?_
  obtain ⟨M, hM, hm⟩ := R.f
  obtain ⟨y, v, a1, a2, a3⟩ := hm 0 _ h0
  cases a1
  cases a3
  refine wpAny_items_cons (wpAny_Name (wpAny_loadName_local rfl (show sc_by_start.names.lookup ("occupations" : Str) = some NameKind.local by decide +kernel) hM a2 ?_) (by decide +kernel)) rfl
  refine wpAny_items_nil ?_
  refine kws_cons (wpM (lam_ok B R htb) fun v s₁ ⟨R₁, X₁, fa, c', ctv, pm, e1, hf, hcd⟩ => kws_nil ?_)
  subst e1
  show wpAny (model c.prog c.w) A (call (.builtin "sorted") [.ref K] [(Str.ofString "key", .ref fa)]) _ _ s₁
  obtain ⟨vs, d, e2, hl, hv⟩ := R₁.list hK
  have hvs := refs_vals hv
  have hlen : vs.length = occs.length := by rw [hvs, List.length_map]
  have hZe : ∀ j (hj : j < occs.length), ((occs[j]?).map Oc.i).getD 0 = occs[j].i := fun j hj => by simp [hj]
  refine sorted_ok (vs := vs) (Z := fun j => ((occs[j]?).map Oc.i).getD 0) (isList_of e2) (by (first | lia | omega)) (by (first | lia | omega)) (fun i j hij hj => ?_) (fun j x s' hj hk hg hos => ?_) fun s' D k hk hg hos hD hn => ?_
  · rw [hZe i (by (first | lia | omega)), hZe j (by (first | lia | omega))]
    exact List.pairwise_iff_getElem.mp hasc i j (by (first | lia | omega)) (by (first | lia | omega)) hij
  · rw [hvs, List.getElem?_map] at hj
    obtain ⟨o, ho, rfl⟩ := Option.map_eq_some_iff.mp hj
    have hjl : j < occs.length := (List.getElem?_eq_some_iff.mp ho).1
    have hoe : ((occs[j]?).map Oc.i).getD 0 = o.i := by rw [ho]; rfl
    simp only [hoe]
    exact key_ok (A := A.in1.in1) kf (R₁.keep hk) rm.rl (hk _ _ hf) (hcd.keeps hk) (hat o (List.mem_of_getElem? ho))
  · obtain ⟨fr, R₂⟩ := R₁.newL' hD hk hn hl hv
    exact ⟨.ret (.ref D), m, _, R₂, ⟨_, rfl, rfl⟩, X₁.trans ⟨.of_keep hk, hg, hos⟩, hq D fr⟩
theorem ok_by_start (kf : KF c.K) (B : ByH c) : CodeOk c (n + 1) (.ref 635) Sp_by_start :=
  CodeOk.fnC (scope := sc_by_start) (names := ["occupations"]) (w := w_by_start) B.fn rfl (by decide) rfl (by decide +kernel) (by decide +kernel) rfl rfl (fun rm R hw => run_by_start kf B rm R hw) (S := Sp_by_start) (fun ps st Q h => by
    obtain ⟨K, occs, rfl, h1, h2, h3, h4, h5, h6, h⟩ := h
    exact ⟨rfl, K, occs, rfl, h1, h2, h3, h4, h5, h6, fun D fr => ⟨_, Le.rfl' _, h _ D (keep_setL (.inr fr)) fr (by simp [St.setL])⟩⟩)
end
end Mine
namespace Mine
noncomputable def fArgs : Stmt → Arguments | .FunctionDef _ a .. => a | _ => ⟨[], [], none, [], [], none, []⟩
noncomputable def fnV (K : Frag) (f : Addr) : Option (Arguments × FuncBody × Scope × Addr × List (Str × Addr) × Value × Value × Addr × Bool) :=
  match K.lookup f with
  | some ⟨_, _, .func fd, _⟩ => some (fd.params, fd.body, fd.scope, fd.globals, fd.closure, fd.defaults, fd.kwdefaults, fd.builtins, codeIn K fd.code fd.qualname)
  | _ => none
theorem FnAt.of {K : Frag} {f : Addr} {params : List Str} {body : List Stmt} {scope : Scope} {prm : Arguments} (h : fnV K f = some (prm, .stmts body, scope, mainGlobals, [], .none, .none, builtinsNs, true))
    (hb : ∀ (vs : List Value), vs.length = params.length → ∀ name qual doc pm an cdv ct, bindArgs ⟨name, qual, prm, .stmts body, scope, mainGlobals, [], .none, .none, doc, pm, an, cdv, ct, builtinsNs⟩ ⟨vs, []⟩ = pure (params.zip vs)) : FnAt K f params body scope := by
  unfold fnV at h
  split at h
  · rename_i oc od fd sl hl
    obtain ⟨name, qual, p, b, sc, gl, clo, df, kd, doc, pm, an, cdv, ct, bi⟩ := fd
    simp only [Option.some.injEq, Prod.mk.injEq] at h
    obtain ⟨rfl, rfl, rfl, rfl, rfl, rfl, rfl, rfl, hc⟩ := h
    exact ⟨oc, od, _, sl, hl, fun vs hv => hb vs hv _ _ _ _ _ _ _, rfl, rfl, rfl, rfl, rfl, hc⟩
  · cases h
noncomputable def qcV (K : Frag) (f : Addr) : Option (Str × Value) :=
  match K.lookup f with
  | some ⟨_, _, .func fd, _⟩ => some (fd.qualname, fd.code)
  | _ => none
theorem FnC.of {K : Frag} {f cd : Addr} {qn : Str} {params : List Str} {body : List Stmt} {scope : Scope} (F : FnAt K f params body scope) (h : qcV K f = some (qn, .ref cd)) : FnC K f cd qn params body scope := by
  obtain ⟨oc, od, fd, sl, hl, h1, h2, h3, h4, h5, h6, h7⟩ := F.ok
  unfold qcV at h
  rw [hl] at h
  simp only [Option.some.injEq, Prod.mk.injEq] at h
  exact ⟨oc, od, fd, sl, hl, h1, h2, h3, h4, h5, h6, h7, h.1, h.2⟩
noncomputable def isInt : Option (Option Value) → Int → Bool | some (some (.int j _)), i => j == i | _, _ => false
theorem gInt.of {K : Frag} {x : Str} {i : Int} (h : isInt (nsIn K mainGlobals x) i = true) : gInt K x i := by
  unfold isInt at h
  split at h
  · rename_i j t e
    rw [beq_iff_eq] at h
    subst h
    exact ⟨t, e⟩
  · cases h
theorem len0 {vs : List Value} (h : vs.length = 0) : vs = [] := List.length_eq_zero_iff.mp h
theorem len1 {vs : List Value} (h : vs.length = 1) : ∃ a0, vs = [a0] := by
  cases vs with
  | nil => cases h
  | cons a r => exact ⟨a, by rw [len0 (Nat.succ.inj h)]⟩
theorem len2 {vs : List Value} (h : vs.length = 2) : ∃ a0 a1, vs = [a0, a1] := by
  cases vs with
  | nil => cases h
  | cons a r => obtain ⟨a1, rfl⟩ := len1 (Nat.succ.inj h); exact ⟨a, a1, rfl⟩
theorem len3 {vs : List Value} (h : vs.length = 3) : ∃ a0 a1 a2, vs = [a0, a1, a2] := by
  cases vs with
  | nil => cases h
  | cons a r => obtain ⟨a1, a2, rfl⟩ := len2 (Nat.succ.inj h); exact ⟨a, a1, a2, rfl⟩
theorem len4 {vs : List Value} (h : vs.length = 4) : ∃ a0 a1 a2 a3, vs = [a0, a1, a2, a3] := by
  cases vs with
  | nil => cases h
  | cons a r => obtain ⟨a1, a2, a3, rfl⟩ := len3 (Nat.succ.inj h); exact ⟨a, a1, a2, a3, rfl⟩
theorem len5 {vs : List Value} (h : vs.length = 5) : ∃ a0 a1 a2 a3 a4, vs = [a0, a1, a2, a3, a4] := by
  cases vs with
  | nil => cases h
  | cons a r => obtain ⟨a1, a2, a3, a4, rfl⟩ := len4 (Nat.succ.inj h); exact ⟨a, a1, a2, a3, a4, rfl⟩
theorem len6 {vs : List Value} (h : vs.length = 6) : ∃ a0 a1 a2 a3 a4 a5, vs = [a0, a1, a2, a3, a4, a5] := by
  cases vs with
  | nil => cases h
  | cons a r => obtain ⟨a1, a2, a3, a4, a5, rfl⟩ := len5 (Nat.succ.inj h); exact ⟨a, a1, a2, a3, a4, a5, rfl⟩
theorem len7 {vs : List Value} (h : vs.length = 7) : ∃ a0 a1 a2 a3 a4 a5 a6, vs = [a0, a1, a2, a3, a4, a5, a6] := by
  cases vs with
  | nil => cases h
  | cons a r => obtain ⟨a1, a2, a3, a4, a5, a6, rfl⟩ := len6 (Nat.succ.inj h); exact ⟨a, a1, a2, a3, a4, a5, a6, rfl⟩
/-- how a plain def binds its arguments -/
noncomputable def Binds (params : List Str) (prm : Arguments) (body : List Stmt) (scope : Scope) : Prop := ∀ (vs : List Value), vs.length = params.length → ∀ name qual doc pm an cdv ct, bindArgs ⟨name, qual, prm, .stmts body, scope, mainGlobals, [], .none, .none, doc, pm, an, cdv, ct, builtinsNs⟩ ⟨vs, []⟩ = pure (params.zip vs)
theorem ba_fixed_atoms : Binds pm_fixed_atoms (fArgs (topAt 10)) bd_fixed_atoms sc_fixed_atoms := fun vs hv name qual doc pm an cdv ct => by cases len0 hv; kernel_rfl
theorem ba_fixed_functors : Binds pm_fixed_functors (fArgs (topAt 11)) bd_fixed_functors sc_fixed_functors := fun vs hv name qual doc pm an cdv ct => by cases len0 hv; kernel_rfl
theorem ba_Sym_init : Binds pm_Sym_init (fArgs (cAt 12 0)) bd_Sym_init sc_Sym_init := fun vs hv name qual doc pm an cdv ct => by obtain ⟨a0, rfl⟩ := len1 hv; kernel_rfl
theorem ba_atom : Binds pm_atom (fArgs (cAt 12 1)) bd_atom sc_atom := fun vs hv name qual doc pm an cdv ct => by obtain ⟨a0, a1, rfl⟩ := len2 hv; kernel_rfl
theorem ba_functor : Binds pm_functor (fArgs (cAt 12 3)) bd_functor sc_functor := fun vs hv name qual doc pm an cdv ct => by obtain ⟨a0, a1, a2, rfl⟩ := len3 hv; kernel_rfl
theorem ba_func : Binds pm_func (fArgs (cAt 12 4)) bd_func sc_func := fun vs hv name qual doc pm an cdv ct => by obtain ⟨a0, a1, a2, rfl⟩ := len3 hv; kernel_rfl
theorem ba_constant_cell : Binds pm_constant_cell (fArgs (topAt 16)) bd_constant_cell sc_constant_cell := fun vs hv name qual doc pm an cdv ct => by obtain ⟨a0, rfl⟩ := len1 hv; kernel_rfl
theorem ba_CS_init : Binds pm_CS_init (fArgs (cAt 17 0)) bd_CS_init sc_CS_init := fun vs hv name qual doc pm an cdv ct => by obtain ⟨a0, a1, a2, rfl⟩ := len3 hv; kernel_rfl
theorem ba_emit : Binds pm_emit (fArgs (cAt 17 1)) bd_emit sc_emit := fun vs hv name qual doc pm an cdv ct => by obtain ⟨a0, a1, rfl⟩ := len2 hv; kernel_rfl
theorem ba_new_temporary : Binds pm_new_temporary (fArgs (cAt 17 2)) bd_new_temporary sc_new_temporary := fun vs hv name qual doc pm an cdv ct => by obtain ⟨a0, rfl⟩ := len1 hv; kernel_rfl
theorem ba_match : Binds pm_match (fArgs (cAt 18 1)) bd_match sc_match := fun vs hv name qual doc pm an cdv ct => by obtain ⟨a0, a1, a2, rfl⟩ := len3 hv; kernel_rfl
theorem ba_match_arguments : Binds pm_match_arguments (fArgs (cAt 18 2)) bd_match_arguments sc_match_arguments := fun vs hv name qual doc pm an cdv ct => by obtain ⟨a0, a1, a2, rfl⟩ := len3 hv; kernel_rfl
theorem ba_build : Binds pm_build (fArgs (cAt 19 0)) bd_build sc_build := fun vs hv name qual doc pm an cdv ct => by obtain ⟨a0, a1, a2, rfl⟩ := len3 hv; kernel_rfl
theorem ba_wait_for_nested : Binds pm_wait_for_nested (fArgs (cAt 19 1)) bd_wait_for_nested sc_wait_for_nested := fun vs hv name qual doc pm an cdv ct => by obtain ⟨a0, a1, a2, rfl⟩ := len3 hv; kernel_rfl
theorem ba_take_nested : Binds pm_take_nested (fArgs (cAt 19 2)) bd_take_nested sc_take_nested := fun vs hv name qual doc pm an cdv ct => by obtain ⟨a0, a1, a2, rfl⟩ := len3 hv; kernel_rfl
theorem ba_set_arguments : Binds pm_set_arguments (fArgs (cAt 19 3)) bd_set_arguments sc_set_arguments := fun vs hv name qual doc pm an cdv ct => by obtain ⟨a0, a1, rfl⟩ := len2 hv; kernel_rfl
theorem ba_KC_init : Binds pm_KC_init (fArgs (cAt 28 0)) bd_KC_init sc_KC_init := fun vs hv name qual doc pm an cdv ct => by obtain ⟨a0, a1, a2, a3, a4, rfl⟩ := len5 hv; kernel_rfl
theorem ba_CP_init : Binds pm_CP_init (fArgs (cAt 33 0)) bd_CP_init sc_CP_init := fun vs hv name qual doc pm an cdv ct => by obtain ⟨a0, a1, a2, a3, a4, a5, rfl⟩ := len6 hv; kernel_rfl
theorem ba_chunk_numbers : Binds pm_chunk_numbers (fArgs (topAt 34)) bd_chunk_numbers sc_chunk_numbers := fun vs hv name qual doc pm an cdv ct => by obtain ⟨a0, rfl⟩ := len1 hv; kernel_rfl
theorem ba_Sv_init : Binds pm_Sv_init (fArgs (cAt 35 0)) bd_Sv_init sc_Sv_init := fun vs hv name qual doc pm an cdv ct => by obtain ⟨a0, rfl⟩ := len1 hv; kernel_rfl
theorem ba_terms : Binds pm_terms (fArgs (cAt 35 2)) bd_terms sc_terms := fun vs hv name qual doc pm an cdv ct => by obtain ⟨a0, a1, a2, a3, a4, rfl⟩ := len5 hv; kernel_rfl
theorem ba_slot_order : Binds pm_slot_order (fArgs (topAt 37)) bd_slot_order sc_slot_order := fun vs hv name qual doc pm an cdv ct => by obtain ⟨a0, rfl⟩ := len1 hv; kernel_rfl
theorem ba_classify : Binds pm_classify (fArgs (topAt 38)) bd_classify sc_classify := fun vs hv name qual doc pm an cdv ct => by obtain ⟨a0, rfl⟩ := len1 hv; kernel_rfl
theorem ba_operand_roles : Binds pm_operand_roles (fArgs (topAt 43)) bd_operand_roles sc_operand_roles := fun vs hv name qual doc pm an cdv ct => by obtain ⟨a0, rfl⟩ := len1 hv; kernel_rfl
theorem ba_ends_arguments : Binds pm_ends_arguments (fArgs (topAt 44)) bd_ends_arguments sc_ends_arguments := fun vs hv name qual doc pm an cdv ct => by obtain ⟨a0, rfl⟩ := len1 hv; kernel_rfl
theorem ba_Oc_init : Binds pm_Oc_init (fArgs (cAt 45 0)) bd_Oc_init sc_Oc_init := fun vs hv name qual doc pm an cdv ct => by obtain ⟨a0, a1, a2, a3, a4, rfl⟩ := len5 hv; kernel_rfl
theorem ba_overlaps : Binds pm_overlaps (fArgs (cAt 45 1)) bd_overlaps sc_overlaps := fun vs hv name qual doc pm an cdv ct => by obtain ⟨a0, a1, rfl⟩ := len2 hv; kernel_rfl
theorem ba_intervals : Binds pm_intervals (fArgs (topAt 46)) bd_intervals sc_intervals := fun vs hv name qual doc pm an cdv ct => by obtain ⟨a0, a1, rfl⟩ := len2 hv; kernel_rfl
theorem ba_wishes : Binds pm_wishes (fArgs (topAt 47)) bd_wishes sc_wishes := fun vs hv name qual doc pm an cdv ct => by obtain ⟨a0, rfl⟩ := len1 hv; kernel_rfl
theorem ba_RF_init : Binds pm_RF_init (fArgs (cAt 48 0)) bd_RF_init sc_RF_init := fun vs hv name qual doc pm an cdv ct => by obtain ⟨a0, rfl⟩ := len1 hv; kernel_rfl
theorem ba_occupy : Binds pm_occupy (fArgs (cAt 48 1)) bd_occupy sc_occupy := fun vs hv name qual doc pm an cdv ct => by obtain ⟨a0, a1, a2, rfl⟩ := len3 hv; kernel_rfl
theorem ba_is_free : Binds pm_is_free (fArgs (cAt 48 2)) bd_is_free sc_is_free := fun vs hv name qual doc pm an cdv ct => by obtain ⟨a0, a1, a2, rfl⟩ := len3 hv; kernel_rfl
theorem ba_wished : Binds pm_wished (fArgs (cAt 48 3)) bd_wished sc_wished := fun vs hv name qual doc pm an cdv ct => by obtain ⟨a0, a1, a2, rfl⟩ := len3 hv; kernel_rfl
theorem ba_place : Binds pm_place (fArgs (cAt 48 4)) bd_place sc_place := fun vs hv name qual doc pm an cdv ct => by obtain ⟨a0, a1, a2, rfl⟩ := len3 hv; kernel_rfl
theorem ba_real_operand : Binds pm_real_operand (fArgs (topAt 50)) bd_real_operand sc_real_operand := fun vs hv name qual doc pm an cdv ct => by obtain ⟨a0, a1, rfl⟩ := len2 hv; kernel_rfl
theorem ba_allocate : Binds pm_allocate (fArgs (topAt 51)) bd_allocate sc_allocate := fun vs hv name qual doc pm an cdv ct => by obtain ⟨a0, a1, a2, a3, rfl⟩ := len4 hv; kernel_rfl
theorem ba_greatest : Binds pm_greatest (fArgs (topAt 52)) bd_greatest sc_greatest := fun vs hv name qual doc pm an cdv ct => by obtain ⟨a0, rfl⟩ := len1 hv; kernel_rfl
theorem ba_l_digit : Binds pm_l_digit (fArgs (topAt 54)) bd_l_digit sc_l_digit := fun vs hv name qual doc pm an cdv ct => by obtain ⟨a0, a1, rfl⟩ := len2 hv; kernel_rfl
theorem ba_l_tree : Binds pm_l_tree (fArgs (topAt 55)) bd_l_tree sc_l_tree := fun vs hv name qual doc pm an cdv ct => by obtain ⟨a0, a1, rfl⟩ := len2 hv; kernel_rfl
theorem ba_l_nested : Binds pm_l_nested (fArgs (topAt 56)) bd_l_nested sc_l_nested := fun vs hv name qual doc pm an cdv ct => by obtain ⟨a0, rfl⟩ := len1 hv; kernel_rfl
theorem ba_l_totals : Binds pm_l_totals (fArgs (topAt 57)) bd_l_totals sc_l_totals := fun vs hv name qual doc pm an cdv ct => by obtain ⟨a0, rfl⟩ := len1 hv; kernel_rfl
theorem ba_l_apart : Binds pm_l_apart (fArgs (topAt 58)) bd_l_apart sc_l_apart := fun vs hv name qual doc pm an cdv ct => by obtain ⟨a0, rfl⟩ := len1 hv; kernel_rfl
theorem ba_l_together : Binds pm_l_together (fArgs (topAt 59)) bd_l_together sc_l_together := fun vs hv name qual doc pm an cdv ct => by obtain ⟨a0, rfl⟩ := len1 hv; kernel_rfl
theorem ba_l_right : Binds pm_l_right (fArgs (topAt 60)) bd_l_right sc_l_right := fun vs hv name qual doc pm an cdv ct => by obtain ⟨a0, a1, a2, a3, rfl⟩ := len4 hv; kernel_rfl
theorem ba_law : Binds pm_law (fArgs (topAt 61)) bd_law sc_law := fun vs hv name qual doc pm an cdv ct => by obtain ⟨a0, rfl⟩ := len1 hv; kernel_rfl
theorem ba_by_start : Binds ["occupations"] (fArgs (topAt 49)) bd_by_start sc_by_start := fun vs hv name qual doc pm an cdv ct => by obtain ⟨a0, rfl⟩ := len1 hv; kernel_rfl
end Mine
namespace Mine
theorem ints_VRs {h : Heap} : ∀ {vs : List Value} {xs : List Int}, IntsAre vs xs → VRs h (intL xs) vs
  | _, _, .nil => rfl
  | _, _, .cons n t r => ⟨_, _, rfl, ⟨t, rfl⟩, ints_VRs r⟩
section
variable {c : Cx} {n : Nat} {names : List Str} {scope : Scope}
noncomputable def W.takeB (a : Addr) (xs : List Int) (e u : WE) : WE := fun m st Q => e m st fun p st₁ => u m st₁ fun k st₂ => ∃ k', p = .ref a ∧ k = .int k' ∧ 0 ≤ k' ∧ ∀ b, st₂.free b → Q (.ref b) (st₂.setL b ((intL xs).take k'.toNat))
theorem SE.takeB {a : Addr} {xs : List Int} {vs : List Value} (hl : c.h₀.IsList a vs.toArray) (hI : IntsAre vs xs) (h63 : xs.length ≤ 63) {e u : Expr} {p pos : Pos} {we wu : WE} (htmp : ∀ o r, letTemporaryGo e o r = pure ()) (he : SE c n names scope e we) (hu : SE c n names scope u wu) : SE c n names scope (.Subscript e (.Slice none (some u) none p) pos) (W.takeB a xs we wu) := fun ⦃P L q f cd A s m st Q⦄ rm R hw => by
  refine wpAny_Subscript_list_slice (wpM (he rm R hw) fun v s₁ ⟨pv, st₁, R₁, V₁, X₁, q₁⟩ => ?_) htmp
  refine wpAny_pure (wpM (hu rm R₁ q₁) fun k s₂ ⟨pk, st₂, R₂, V₂, X₂, q₂⟩ => ?_)
  obtain ⟨k', rfl, rfl, h0, q₃⟩ := q₂
  cases V₁
  obtain ⟨t, rfl⟩ := V₂
  have hvl : vs.length ≤ 63 := by rw [hI.length]; exact h63
  have hl2 : s₂.heap.IsList a vs.toArray := by obtain ⟨o, h1, h2⟩ := hl; exact ⟨o, R₂.keeps₀ _ _ h1, h2⟩
  refine ⟨a, vs.toArray, none, some k', rfl, hl2, by rw [List.size_toArray, sizeLine_eq]; (first | lia | omega), .none, .int _ _, ?_⟩
  obtain ⟨j, rfl⟩ := Int.eq_ofNat_of_zero_le h0
  rw [slicePick_upto', List.toList_toArray]
  have hn : ((s₂.heap.push { cls := .type "slice", data := .fields #[.none, .int (j : Int) t, .none] }).push { cls := .type "list", data := .seq (vs.take j).toArray }).get? (s₂.heap.objs.size + 1) = some (lstO (vs.take j) 0) := by
    have := Heap.get?_push_size (s₂.heap.push { cls := .type "slice", data := .fields #[.none, .int (j : Int) t, .none] }) (o := { cls := .type "list", data := .seq (vs.take j).toArray }) rfl
    rw [Heap.size_push] at this
    exact this
  obtain ⟨hf, R'⟩ := R₂.newL (a := s₂.heap.objs.size + 1) (Nat.le_succ _) (pushes _ _) hn (by rw [List.length_take]; unfold lim; (first | lia | omega)) ((ints_VRs hI).take j)
  exact ⟨.ref _, _, R', rfl, (X₁.trans X₂).trans ⟨.of_keep (pushes _ _), rfl, rfl⟩, q₃ _ hf⟩
noncomputable def w_law2 (a : Addr) (xs : List Int) (S_Symbols S_l_tree S_KernelClause S_classify S_Builder S_m_match S_l_apart S_l_right S_m_build S_l_together : Spec) : WS := (W.seq (W.asg 1 (W.list (W.cons (W.takeB a xs (W.loc 0) (W.const (.int 60))) (W.cons (W.const (.int 0)) (W.cons (W.const (.int 0)) W.nil)))))
    (W.seq (W.asg 2 (W.call S_Symbols W.nil))
    (W.seq (W.asg 3 (W.call S_l_tree (W.cons (W.loc 1) (W.cons (W.list (W.cons (W.const (.int 12)) W.nil)) W.nil))))
    (W.seq (W.asg 4 (W.call S_KernelClause (W.cons (W.const (.int 24)) (W.cons (W.tup W.nil) (W.cons (W.list W.nil) (W.cons (W.const (.int 1)) W.nil))))))
    (W.seq (W.asg 5 (W.call S_classify (W.cons (W.loc 4) W.nil)))
    (W.seq (W.asg 6 (W.call S_Builder (W.cons (W.loc 4) (W.cons (W.loc 5) W.nil))))
    (W.seq (W.expr (W.meth 306 S_m_match (W.loc 6) (W.cons (W.loc 3) (W.cons (W.tup (W.cons (W.const (.str "t")) (W.cons (W.const (.int 0)) W.nil))) W.nil))))
    (W.seq (W.ite (W.notT (W.valT (W.call S_l_right (W.cons (W.loc 2) (W.cons (W.attr 306 2 (W.loc 6)) (W.cons (W.loc 3) (W.cons (W.call S_l_apart (W.cons (W.loc 3) W.nil)) W.nil))))))) (W.seq (W.ret (W.const (.bool false)))
    W.skip) W.skip)
    (W.seq (W.asg 7 (W.call S_Builder (W.cons (W.loc 4) (W.cons (W.loc 5) W.nil))))
    (W.seq (W.expr (W.meth 306 S_m_build (W.loc 7) (W.cons (W.loc 3) (W.cons (W.tup (W.cons (W.const (.str "t")) (W.cons (W.const (.int 0)) W.nil))) W.nil))))
    (W.seq (W.ret (W.call S_l_right (W.cons (W.loc 2) (W.cons (W.attr 306 2 (W.loc 7)) (W.cons (W.loc 3) (W.cons (W.call S_l_together (W.cons (W.loc 3) W.nil)) W.nil))))))
    W.skip)))))))))))
theorem sm_law2 (kf : KF c.K) {a : Addr} {xs : List Int} {vs : List Value} (hl : c.h₀.IsList a vs.toArray) (hI : IntsAre vs xs) (h63 : xs.length ≤ 63) {S_Symbols S_l_tree S_KernelClause S_classify S_Builder S_m_match S_l_apart S_l_right S_m_build S_l_together : Spec} (h_Symbols : CallOk c n (.ref 154) S_Symbols) (h_l_tree : CallOk c n (.ref 670) S_l_tree) (h_KernelClause : CallOk c n (.ref 367) S_KernelClause) (h_classify : CallOk c n (.ref 525) S_classify) (h_Builder : CallOk c n (.ref 306) S_Builder) (h_m_match : CallOk c n (.ref 242) S_m_match) (h_l_apart : CallOk c n (.ref 689) S_l_apart) (h_l_right : CallOk c n (.ref 703) S_l_right) (h_m_build : CallOk c n (.ref 275) S_m_build) (h_l_together : CallOk c n (.ref 696) S_l_together) : SS c n nm_law sc_law bd_law (w_law2 a xs S_Symbols S_l_tree S_KernelClause S_classify S_Builder S_m_match S_l_apart S_l_right S_m_build S_l_together) :=
  have F := F_law
  (SS.cons (SX.a (i := 1) F (by decide +kernel) (fun _ => rfl) (SE.list (SEs.cons (star_ne rfl) (SE.takeB hl hI h63 (fun _ _ => rfl) (SE.l (i := 0) F (by decide +kernel)) SE.int) (SEs.cons (star_ne rfl) SE.int (SEs.cons (star_ne rfl) SE.int SEs.nil)))))
    (SS.cons (SX.a (i := 2) F (by decide +kernel) (fun _ => rfl) (SE.cK F kf.g_Symbols (by decide +kernel) (fun _ => rfl) SEs.nil h_Symbols))
    (SS.cons (SX.a (i := 3) F (by decide +kernel) (fun _ => rfl) (SE.cK F kf.g_l_tree (by decide +kernel) (fun _ => rfl) (SEs.cons (star_ne rfl) (SE.l (i := 1) F (by decide +kernel)) (SEs.cons (star_ne rfl) (SE.list (SEs.cons (star_ne rfl) SE.int SEs.nil)) SEs.nil)) h_l_tree))
    (SS.cons (SX.a (i := 4) F (by decide +kernel) (fun _ => rfl) (SE.cK F kf.g_KernelClause (by decide +kernel) (fun _ => rfl) (SEs.cons (star_ne rfl) (SE.gI F (by decide +kernel) kf.i_F_CALL1) (SEs.cons (star_ne rfl) (SE.tup SEs.nil) (SEs.cons (star_ne rfl) (SE.list SEs.nil) (SEs.cons (star_ne rfl) SE.int SEs.nil)))) h_KernelClause))
    (SS.cons (SX.a (i := 5) F (by decide +kernel) (fun _ => rfl) (SE.cK F kf.g_classify (by decide +kernel) (fun _ => rfl) (SEs.cons (star_ne rfl) (SE.l (i := 4) F (by decide +kernel)) SEs.nil) h_classify))
    (SS.cons (SX.a (i := 6) F (by decide +kernel) (fun _ => rfl) (SE.cK F kf.g_Builder (by decide +kernel) (fun _ => rfl) (SEs.cons (star_ne rfl) (SE.l (i := 4) F (by decide +kernel)) (SEs.cons (star_ne rfl) (SE.l (i := 5) F (by decide +kernel)) SEs.nil)) h_Builder))
    (SS.cons (SX.e F (fun _ => rfl) (SE.me kf.m_match (by decide +kernel) (fun _ => rfl) (fun _ => rfl) (by decide) rfl (SE.l (i := 6) F (by decide +kernel)) (SEs.cons (star_ne rfl) (SE.l (i := 3) F (by decide +kernel)) (SEs.cons (star_ne rfl) (SE.tup (SEs.cons (star_ne rfl) SE.str (SEs.cons (star_ne rfl) SE.int SEs.nil))) SEs.nil)) h_m_match))
    (SS.cons (SX.ite (ST.not (ST.val (SE.cK F kf.g_l_right (by decide +kernel) (fun _ => rfl) (SEs.cons (star_ne rfl) (SE.l (i := 2) F (by decide +kernel)) (SEs.cons (star_ne rfl) (SE.attr (k := 2) (fun _ => rfl) (by decide) rfl kf.a_306_code (SE.l (i := 6) F (by decide +kernel))) (SEs.cons (star_ne rfl) (SE.l (i := 3) F (by decide +kernel)) (SEs.cons (star_ne rfl) (SE.cK F kf.g_l_apart (by decide +kernel) (fun _ => rfl) (SEs.cons (star_ne rfl) (SE.l (i := 3) F (by decide +kernel)) SEs.nil) h_l_apart) SEs.nil)))) h_l_right) (fun _ _ => rfl))) (SS.cons (SX.ret SE.bool)
    SS.nil) SS.nil)
    (SS.cons (SX.a (i := 7) F (by decide +kernel) (fun _ => rfl) (SE.cK F kf.g_Builder (by decide +kernel) (fun _ => rfl) (SEs.cons (star_ne rfl) (SE.l (i := 4) F (by decide +kernel)) (SEs.cons (star_ne rfl) (SE.l (i := 5) F (by decide +kernel)) SEs.nil)) h_Builder))
    (SS.cons (SX.e F (fun _ => rfl) (SE.me kf.m_build (by decide +kernel) (fun _ => rfl) (fun _ => rfl) (by decide) rfl (SE.l (i := 7) F (by decide +kernel)) (SEs.cons (star_ne rfl) (SE.l (i := 3) F (by decide +kernel)) (SEs.cons (star_ne rfl) (SE.tup (SEs.cons (star_ne rfl) SE.str (SEs.cons (star_ne rfl) SE.int SEs.nil))) SEs.nil)) h_m_build))
    (SS.cons (SX.ret (SE.cK F kf.g_l_right (by decide +kernel) (fun _ => rfl) (SEs.cons (star_ne rfl) (SE.l (i := 2) F (by decide +kernel)) (SEs.cons (star_ne rfl) (SE.attr (k := 2) (fun _ => rfl) (by decide) rfl kf.a_306_code (SE.l (i := 7) F (by decide +kernel))) (SEs.cons (star_ne rfl) (SE.l (i := 3) F (by decide +kernel)) (SEs.cons (star_ne rfl) (SE.cK F kf.g_l_together (by decide +kernel) (fun _ => rfl) (SEs.cons (star_ne rfl) (SE.l (i := 3) F (by decide +kernel)) SEs.nil) h_l_together) SEs.nil)))) h_l_right))
    SS.nil)))))))))))
theorem law_logic (hp : Plain) {a : Addr} {l : List Int} {st : St} {Q : PV → St → Prop} (htb : st.tb 630 = true) (h : ∀ st', Keep [] st st' → Q (.bool true) st') :
    w_law2 a l Sp_Sym (Sp_l_tree 12) Sp_KC Sp_classify Sp_Bd Sp_m_match (Sp_l_apart 13) Sp_l_right Sp_m_build (Sp_l_together 13) (frame0 nm_law [.ref a]) st (fun fl _ st2 => ∃ st3, Le st3 st2 ∧ Q (retOf fl) st3) := by
  simp [w_law2, W.takeB, and_assoc, Sp_Sym]
  intro A fA T fT sy st1 _ k1 LF fLF
  have kA : Keep [] st (st.setL A (List.take 60 (intL l))) := keep_setL (.inr fA)
  have kT : Keep [] st ((st.setL A (List.take 60 (intL l))).setL T [PV.ref A, PV.int 0, PV.int 0]) := kA.trans (keep_setL (.inr fT))
  have ks1 : Keep [] st st1 := kT.trans k1
  have fT' : st.free T := free_back kA (by simp) fT
  have fLF' : st.free LF := free_back ks1 (by simp) fLF
  have hAT : A ≠ T := free_ne_ls fT (ps := List.take 60 (intL l)) (by simp)
  have T1 : st1.ls T = some [PV.ref A, PV.int 0, PV.int 0] := k1.ls (by simp) (by simp)
  have A1 : st1.ls A = some (List.take 60 (intL l)) := k1.ls (by simp) (by simp [hAT])
  have hTL : T ≠ LF := free_ne_ls fLF T1
  have hAL : A ≠ LF := free_ne_ls fLF A1
  have kL : Keep [] st (st1.setL LF [PV.int 12]) := ks1.trans (keep_setL (.inr fLF))
  refine ⟨T, A, LF, 12, rfl, ⟨l.take 60, 0, 0, by simp [hTL, T1], by simp [hAL, A1, intL, List.map_take], Ne.symm hAT, by (first | lia | omega)⟩, by simp, by (first | lia | omega), Ne.symm hTL, Ne.symm hAL, fun st2 t j' G C k2 _ _ => ?_⟩
  have ks2 : Keep [] st st2 := keep_drop kL k2 (by simp [fT', fA, fLF'])
  have hC : Arg.comp (.sub t) ≤ 13 := by (first | lia | omega)
  intro W fW
  have ks2w : Keep [] st (st2.setL W []) := ks2.trans (keep_setL (.inr fW))
  refine ⟨_, _, _, _, rfl, fun K st3 fK k3 e3 => ?_⟩
  have W3 : st3.ls W = some [] := k3.ls (by simp) (by simp)
  have ks3 := ks2w.trans k3
  refine ⟨K, _, W, rfl, e3, by simp [kcF], by simp [kcF], W3, fun P st4 k4 => ?_⟩
  have ks4 := ks3.trans k4
  have e4 := k4.ins (by simp) e3
  refine ⟨K, _, _, 1, rfl, e4, by simp [kcF], fun B st5 cd s5 l5 k5 fB fcd b5 c5 => ?_⟩
  have ks5 := ks4.trans k5
  have fB' : st.free B := free_back ks4 (by simp) fB
  have fcd' : st.free cd := free_back ks4 (by simp) fcd
  simp [b5, bdF]
  refine ⟨B, cd, t, rfl, ⟨_, _, _, _, b5, c5⟩, G, hC, fun st6 rows nx' k6 run B6 => ?_⟩
  obtain ⟨q1, q2, q3, q4, H6⟩ := B6
  have ks6 : Keep [] st st6 := keep_drop ks5 k6 (by simp [fB', fcd'])
  have hbc : B ≠ K := fun e => fB (.inst 367 _) (e ▸ e4)
  have hcK : K ≠ cd := free_ne_ins fcd e4
  have e6 := k6.ins (by simp [Ne.symm hbc, hcK]) (k5.ins (by simp) e4)
  simp [H6.hb, bdF]
  refine ⟨t, rfl, G, hC, fun st7 k7 => ?_⟩
  have ks7 := ks6.trans k7
  refine ⟨_, cd, t, rows, _, rfl, k7.ls (by simp) H6.hc, ks7.tb (by simp) htb, hp.taken t rows nx' G hC run, fun st8 k8 => ?_⟩
  have ks8 := ks7.trans k8
  have e8 := (k7.trans k8).ins (by simp) e6
  simp
  refine ⟨K, _, _, 1, rfl, e8, by simp [kcF], fun B2 st9 cd2 s9 l9 k9 fB2 fcd2 b9 c9 => ?_⟩
  have ks9 := ks8.trans k9
  have fB2' : st.free B2 := free_back ks8 (by simp) fB2
  have fcd2' : st.free cd2 := free_back ks8 (by simp) fcd2
  simp [b9, bdF]
  refine ⟨B2, cd2, t, rfl, ⟨_, _, _, _, b9, c9⟩, G, hC, fun st10 rows2 nx2 k10 run2 B10 => ?_⟩
  obtain ⟨q1, q2, q3, q4, H10⟩ := B10
  have ks10 : Keep [] st st10 := keep_drop ks9 k10 (by simp [fB2', fcd2'])
  simp [H10.hb, bdF]
  refine ⟨t, rfl, G, hC, fun st11 k11 => ?_⟩
  have ks11 := ks10.trans k11
  exact ⟨_, cd2, t, rows2, _, rfl, k11.ls (by simp) H10.hc, ks11.tb (by simp) htb, hp.made t rows2 nx2 G hC run2, fun st12 k12 => ⟨_, .rfl' _, h _ (ks11.trans k12)⟩⟩
theorem law_run (hp : Plain) (kf : KF c.K) (B : ByH c) {a : Addr} {xs : List Int} {vs : List Value} (hl : c.h₀.IsList a vs.toArray) (hI : IntsAre vs xs) (h63 : xs.length ≤ 63) {P : Prot} {L f : Addr} {q : Str} {cd : Value} {A : Around} {s : Shared} {st : St} (rm : Room (n + 21) A)
    (R : Rep c P L nm_law s.heap (frame0 nm_law [.ref a]) st) (htb : st.tb 630 = true) :
    wpAny (model c.prog c.w) A (execs bd_law (envOf q sc_law L f cd)) (fun fl s' => fl = .ret (.bool true) ∧ (∀ b o, c.h₀.get? b = some o → s'.heap.get? b = some o) ∧ s'.gens = s.gens ∧ s'.os = s.os ∧ ∃ ps, s'.heap.get? 630 = some (tabObj ps)) noE s := by
  have hby : CallOk c (n + 19) (.ref 635) Sp_by_start := CodeOk.call (ok_by_start (n := n + 18) kf B)
  refine wpM (sm_law2 (n := n + 21) kf hl hI h63 (h_Symbols := CodeOk.call (ok_Sym (n := n + 17) kf)) (h_l_tree := CodeOk.call (ok_l_tree (n := n + 7) kf 12)) (h_KernelClause := CodeOk.call (ok_KC (n := n + 19) kf)) (h_classify := CodeOk.call (ok_classify (n := n + 18) kf)) (h_Builder := CodeOk.call (ok_Bd (n := n + 19) kf))
    (h_m_match := CodeOk.call (ok_match (n := n + 18) kf)) (h_l_apart := CodeOk.call (ok_l_apart (n := n + 6) kf 13)) (h_l_right := CodeOk.call (ok_l_right kf hby)) (h_m_build := CodeOk.call (ok_build (n := n + 18) kf)) (h_l_together := CodeOk.call (ok_l_together (n := n + 6) kf 13)) rm R
    (law_logic hp (Q := fun p st' => p = .bool true ∧ Keep [] st st') htb (fun st' k => ⟨rfl, k⟩))) fun fl s' ⟨g, m', st2, R2, F2, X2, st3, hle, hp2, k⟩ => ?_
  have R3 := R2.le (LeF.rfl' _) hle
  have ht := k.tb (by simp) htb
  obtain ⟨δ, ⟨ps, e, _⟩, _⟩ := R3.obj (mo := .tab) ht
  refine ⟨?_, R3.keeps₀, X2.gens, X2.os, ps, e⟩
  cases g with
  | ret p => cases hp2; obtain ⟨v, rfl, hv⟩ := F2; cases hv; rfl
  | next => cases hp2
  | brk => cases hp2
  | cont => cases hp2
end
end Mine
namespace Mine
noncomputable def st0 : St := ⟨fun _ => none, fun _ => none, fun _ => none, fun _ => none, fun _ => none, fun a => decide (a = 630)⟩
theorem st0_has {a : Addr} {mo : MO} (h : st0.has a mo) : a = 630 ∧ mo = .tab := by
  cases mo with
  | tab => exact ⟨by simpa [St.has, st0] using h, rfl⟩
  | _ => cases h
theorem start_rep (c : Cx) (tg : c.TabGood = TabG) {h : Heap} {L a : Addr} {m : Str → Option Value} (F : Fr c.h₀ L h m) (hm : m "script" = some (.ref a)) (N : News c.h₀ L h [(630, tabObj #[])]) :
    Rep c (fun b => c.h₀.get? b) L nm_law h (frame0 nm_law [.ref a]) st0 := by
  obtain ⟨n1, n2, n3⟩ := N _ (.head _)
  refine ⟨⟨fun a => a, fun b o e => e, F.keep, Heap.get?_none_of_le F.above, fun b mo q => ?_, fun b C fs q => (nomatch q), fun b d x y q => (nomatch q), fun b x y q1 q2 => ?_⟩, m, F.ns, fun i p e => ?_⟩
  · obtain ⟨rfl, rfl⟩ := st0_has q
    exact ⟨⟨#[], n1, by rw [tg]; exact .inl rfl⟩, n3, n2, fun e => nomatch e⟩
  · rw [(st0_has q1).2, (st0_has q2).2]
  · cases i with
    | zero =>
      have e : some (some (PV.ref a)) = some (some p) := e
      cases e
      exact ⟨"script", .ref a, rfl, hm, rfl⟩
    | succ i =>
      have e : (List.replicate 7 (none : Option PV))[i]? = some (some p) := e
      rw [List.getElem?_replicate] at e
      split at e <;> cases e
theorem low_of {p : Program} {loose : List Str} {mean : ExcName → Option Value} {mg mb : Str → Option Value} {h : Heap} (T : Top p loose mean mg mb h) : ∃ o, h.get? cStatics = some o := by
  obtain ⟨mc, ⟨o, es, ep, e, _⟩, _⟩ := T.nodigits
  exact ⟨o, e⟩
noncomputable def theCx (w : World) {K : Frag} {p : Program} {loose : List Str} {mean : ExcName → Option Value} {mg mb : Str → Option Value} {h : Heap} (T : Top p loose mean mg mb h) (X : K.In h) : Cx where
  prog := PySem.Challenge.rw_sa0159_01.row.prog
  w := w
  h₀ := h
  TabGood := TabG
  tabMono := TabG.mono
  low := low_of T
  K := K
  X := X
  mg := mg
  mb := mb
  g := T.g
  b := T.b
  nolimit := T.nolimit
  bi := T.builtins
theorem the_run (w : World) {K : Frag} {p : Program} {loose : List Str} {mean : ExcName → Option Value} {mg mb : Str → Option Value} {h : Heap} (T : Top p loose mean mg mb h) (X : K.In h) (kf : KF K) (fb : FnC K 635 634 "by_start" ["occupations"] bd_by_start sc_by_start) (C : CodeHd h 634 630)
    {s : Shared} {L a f : Addr} {m : Str → Option Value} {xs : List Int} {vs : List Value} {cd : Value} {q : Str} (F : Fr h L s.heap m) (hm : m "script" = some (.ref a)) (N : News h L s.heap [(630, tabObj #[])]) (hl : h.IsList a vs.toArray) (hI : IntsAre vs xs) (h63 : ¬ (63 : Int) < (xs.length : Int)) {Q : Flow → Shared → Prop} {E : Value → Shared → Prop}
    (hQ : ∀ s', (∀ b o, h.get? b = some o → s'.heap.get? b = some o) → s'.gens = s.gens → s'.os = s.os → (∃ ps, s'.heap.get? 630 = some (tabObj ps)) → Q (.ret (.bool true)) s') :
    wpAny (model PySem.Challenge.rw_sa0159_01.row.prog w) (callerA.deeper (envOf q sc_law L f cd)) (execs bd_law (envOf q sc_law L f cd)) Q E s :=
  wpN (law_run (c := theCx w T X) (n := 0) plain kf ⟨rfl, C, T.bmain, fb, kf.n_sorted⟩ hl hI (by omega) ⟨rfl, by show 1 + claimMargin + 1 + 4 * (0 + 21) ≤ 990; decide, by show 4 + 3 + 20 * (0 + 21) ≤ 9800; decide⟩ (start_rep (theCx w T X) rfl F hm N) (by decide)) fun fl s' ⟨e, h1, h2, h3, h4⟩ => by subst e; exact hQ s' h1 h2 h3 h4
end Mine
set_option Elab.async true in
set_option maxHeartbeats 0 in
theorem Mine.main : PySem.Challenge.rw_sa0159_01.Holds := by
  (w_on; o_law; k_head; (case hw => w_witness2))
  k_go0
  refine Mine.the_run _ ‹Top topProg _ _ _ _ _› ‹Frag.In _ (ghostOf _ _)› ?kf ?fb codeHd ‹Fr _ _ _ _› rfl ‹News _ _ _ _› lifted ‹IntsAre _ _› ‹¬ _ < _› fun s' h1 h2 h3 h4 => ?_
  case kf => exact { f_fixed_atoms := .of (by kernel_rfl) Mine.ba_fixed_atoms, f_fixed_functors := .of (by kernel_rfl) Mine.ba_fixed_functors, s_154_texts := by kernel_rfl, s_154_atom_numbers := by kernel_rfl, s_154_functors := by kernel_rfl, s_154_functor_numbers := by kernel_rfl, m_atom := by kernel_rfl, g_fixed_atoms := by kernel_rfl, m_func := by kernel_rfl, g_fixed_functors := by kernel_rfl, f_Sym_init := .of (by kernel_rfl) Mine.ba_Sym_init, a_154_atom_numbers := by kernel_rfl, a_154_texts := by kernel_rfl, n_len := by unfold Mine.gNone; kernel_rfl, f_atom := .of (by kernel_rfl) Mine.ba_atom, a_154_functor_numbers := by kernel_rfl, a_154_functors := by kernel_rfl, f_functor := .of (by kernel_rfl) Mine.ba_functor, m_functor := by kernel_rfl, f_func := .of (by kernel_rfl) Mine.ba_func, i_CON := .of (by kernel_rfl), i_INT := .of (by kernel_rfl), f_constant_cell := .of (by kernel_rfl) Mine.ba_constant_cell, s_306_kernel := by kernel_rfl, s_306_plan := by kernel_rfl, s_306_code := by kernel_rfl, n_set := by unfold Mine.gNone; kernel_rfl, s_306_seen := by kernel_rfl, s_306_local := by kernel_rfl, a_367_count := by kernel_rfl, s_306_next_temporary := by kernel_rfl, f_CS_init := .of (by kernel_rfl) Mine.ba_CS_init, a_306_code := by kernel_rfl, f_emit := .of (by kernel_rfl) Mine.ba_emit, a_306_next_temporary := by kernel_rfl, f_new_temporary := .of (by kernel_rfl) Mine.ba_new_temporary, i_F_DOT := .of (by kernel_rfl), m_emit := by kernel_rfl, m_match_arguments := by kernel_rfl, f_match := .of (by kernel_rfl) Mine.ba_match, m_new_temporary := by kernel_rfl, g_constant_cell := by kernel_rfl, f_match_arguments := .of (by kernel_rfl) Mine.ba_match_arguments, m_wait_for_nested := by kernel_rfl, m_take_nested := by kernel_rfl, m_set_arguments := by kernel_rfl, f_build := .of (by kernel_rfl) Mine.ba_build, f_wait_for_nested := .of (by kernel_rfl) Mine.ba_wait_for_nested, n_list := by unfold Mine.gNone; kernel_rfl, f_take_nested := .of (by kernel_rfl) Mine.ba_take_nested, f_set_arguments := .of (by kernel_rfl) Mine.ba_set_arguments, s_367_functor := by kernel_rfl, s_367_args := by kernel_rfl, s_367_goals := by kernel_rfl, s_367_count := by kernel_rfl, f_KC_init := .of (by kernel_rfl) Mine.ba_KC_init, s_458_infos := by kernel_rfl, s_458_chunks := by kernel_rfl, s_458_needs_env := by kernel_rfl, s_458_env_size := by kernel_rfl, s_458_live_after := by kernel_rfl, f_CP_init := .of (by kernel_rfl) Mine.ba_CP_init, f_chunk_numbers := .of (by kernel_rfl) Mine.ba_chunk_numbers, s_500_infos := by kernel_rfl, f_Sv_init := .of (by kernel_rfl) Mine.ba_Sv_init, f_terms := .of (by kernel_rfl) Mine.ba_terms, n_sorted := by unfold Mine.gNone; kernel_rfl, f_slot_order := .of (by kernel_rfl) Mine.ba_slot_order, a_367_goals := by kernel_rfl, g_chunk_numbers := by kernel_rfl, g_Survey := by kernel_rfl, a_367_args := by kernel_rfl, m_terms := by kernel_rfl, n_range := by unfold Mine.gNone; kernel_rfl, a_500_infos := by kernel_rfl, g_slot_order := by kernel_rfl, g_ClausePlan := by kernel_rfl, f_classify := .of (by kernel_rfl) Mine.ba_classify, i_READS := .of (by kernel_rfl), i_WRITES := .of (by kernel_rfl), i_UPDATES := .of (by kernel_rfl), f_operand_roles := .of (by kernel_rfl) Mine.ba_operand_roles, f_ends_arguments := .of (by kernel_rfl) Mine.ba_ends_arguments, s_563_kind := by kernel_rfl, s_563_number := by kernel_rfl, s_563_start := by kernel_rfl, s_563_stop := by kernel_rfl, f_Oc_init := .of (by kernel_rfl) Mine.ba_Oc_init, a_563_start := by kernel_rfl, a_563_stop := by kernel_rfl, f_overlaps := .of (by kernel_rfl) Mine.ba_overlaps, g_ends_arguments := by kernel_rfl, g_Occupation := by kernel_rfl, g_operand_roles := by kernel_rfl, f_intervals := .of (by kernel_rfl) Mine.ba_intervals, f_wishes := .of (by kernel_rfl) Mine.ba_wishes, s_624_taken := by kernel_rfl, s_624_home := by kernel_rfl, f_RF_init := .of (by kernel_rfl) Mine.ba_RF_init, a_624_taken := by kernel_rfl, f_occupy := .of (by kernel_rfl) Mine.ba_occupy, m_overlaps := by kernel_rfl, f_is_free := .of (by kernel_rfl) Mine.ba_is_free, f_wished := .of (by kernel_rfl) Mine.ba_wished, m_wished := by kernel_rfl, m_is_free := by kernel_rfl, m_occupy := by kernel_rfl, a_624_home := by kernel_rfl, a_563_number := by kernel_rfl, f_place := .of (by kernel_rfl) Mine.ba_place, n_isinstance := by unfold Mine.gNone; kernel_rfl, n_tuple := by unfold Mine.gNone; kernel_rfl, f_real_operand := .of (by kernel_rfl) Mine.ba_real_operand, g_RegisterFile := by kernel_rfl, a_563_kind := by kernel_rfl, g_intervals := by kernel_rfl, g_wishes := by kernel_rfl, m_place := by kernel_rfl, g_by_start := by kernel_rfl, g_real_operand := by kernel_rfl, g_greatest := by kernel_rfl, f_allocate := .of (by kernel_rfl) Mine.ba_allocate, f_greatest := .of (by kernel_rfl) Mine.ba_greatest, f_l_digit := .of (by kernel_rfl) Mine.ba_l_digit, g_l_digit := by kernel_rfl, g_l_tree := by kernel_rfl, i_F_MINUS1 := .of (by kernel_rfl), i_F_CALL3 := .of (by kernel_rfl), f_l_tree := .of (by kernel_rfl) Mine.ba_l_tree, f_l_nested := .of (by kernel_rfl) Mine.ba_l_nested, g_l_totals := by kernel_rfl, g_l_nested := by kernel_rfl, f_l_totals := .of (by kernel_rfl) Mine.ba_l_totals, n_max := by unfold Mine.gNone; kernel_rfl, g_l_apart := by kernel_rfl, f_l_apart := .of (by kernel_rfl) Mine.ba_l_apart, g_l_together := by kernel_rfl, f_l_together := .of (by kernel_rfl) Mine.ba_l_together, g_allocate := by kernel_rfl, f_l_right := .of (by kernel_rfl) Mine.ba_l_right, g_Symbols := by kernel_rfl, i_F_CALL1 := .of (by kernel_rfl), g_KernelClause := by kernel_rfl, g_classify := by kernel_rfl, g_Builder := by kernel_rfl, m_match := by kernel_rfl, g_l_right := by kernel_rfl, m_build := by kernel_rfl, f_law := .of (by kernel_rfl) Mine.ba_law, c_154 := by kernel_rfl, c_306 := by kernel_rfl, c_367 := by kernel_rfl, c_458 := by kernel_rfl, c_500 := by kernel_rfl, c_563 := by kernel_rfl, c_624 := by kernel_rfl }
  case fb => exact .of (.of (by kernel_rfl) Mine.ba_by_start) (by kernel_rfl)
  exact ⟨⟨.inl ⟨.bool true, .bool true, [], rfl, fun _ => rfl, .bool _, postW_of (r := PySem.Challenge.rw_sa0159_01.row.toRowW) (X := true) (by kernel_rfl) (by kernel_rfl) rfl, fun _ => ⟨List.nodup_nil, fun _ h => nomatch h⟩⟩, h1, h3, h2.trans ‹_›⟩, h4, trivial⟩
set_option maxHeartbeats 0 in
theorem PySem.Challenge.cw_sa0159_01_holds : PySem.Challenge.rw_sa0159_01.Holds := by
  exact Mine.main
