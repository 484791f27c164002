import PyProof.Rows.All
import Wide.All
import OpenK.AllK
import Wide.FinOn
import Lean
import PySem.Challenge.RW_rr0038_01
open PySem PySem.W PyProof.Rows
set_option Elab.async false
set_option linter.unusedVariables false
set_option genSizeOf false
set_option compiler.extract_closed false
section
open PySem PySem.W PyProof.Rows
set_option Elab.async false
set_option linter.unusedVariables false
set_option maxRecDepth 100000
set_option maxHeartbeats 8000000
namespace Mine
section
local macro_rules | `(tactic| o_head (kHook $k $_ $_)) => `(tactic| (rotate_left; (exact $k); assumption))
noncomputable def hp : Params → Frag := by
  refine PProd.snd (⟨?p, ?data⟩ : PProd ((PySem.Challenge.rw_rr0038_01).row.Holds → (PySem.Challenge.rw_rr0038_01).row.Holds) (Params → Frag))
  intro hyp
  k_head
end
end Mine
end

section
set_option maxRecDepth 100000
set_option maxHeartbeats 8000000
namespace Mine
/-- the statements that the view keeps -/
noncomputable def dropAt (ms : List Nat) : Nat → List Stmt → List Stmt
  | _, [] => []
  | i, s :: r => if ms.contains i then dropAt ms (i + 1) r else s :: dropAt ms (i + 1) r
noncomputable def view : Program := { PySem.Challenge.rw_rr0038_01.row.toRowW.prog with main := { PySem.Challenge.rw_rr0038_01.row.toRowW.prog.main with body := dropAt [1, 13, 24, 45, 51, 52, 63, 76, 78] 0 PySem.Challenge.rw_rr0038_01.row.toRowW.prog.main.body } }
noncomputable def lawD : DefRec := match PySem.Challenge.rw_rr0038_01.prog.main.body.getLast? with
  | some (.FunctionDef name params body _ _ _ scope _ _ pos) => ⟨name, params, body, scope, pos⟩
  | _ => ⟨Str.ofString "", default, [], default, default⟩
@[reducible] def Gg {T : Prop} (_ : T) (r : OpenRow) : Prop := r.Holds
def Dp {T : Prop} (_ : T) (P : Prop) : Prop := P
/-- the head's rule, said so that its last goal keeps the walk in sight -/
theorem hop {T : Prop} {t : T} {r : OpenRow} {X : Prop} (f : X → r.Holds) (call : Dp t X) : Gg t r := f call
section
local macro_rules | `(tactic| refine $f:ident $args*) => if f.getId == ``PySem.W.holds_open then `(tactic| refine hop ($f $(args.pop)*) $(⟨args.back!⟩)) else Lean.Macro.throwUnsupported
theorem hd.tw6019021122589006684 : True := trivial
theorem hd.tw12590977762386282803 : True := trivial
theorem hd.tw2480057099694739299 : True := trivial
theorem hd.tw701333769924781912 : True := trivial
theorem hd.tw3913528116038191188 : True := trivial
theorem hd.tw11434409384045074295 : True := trivial
theorem hd.tw15643275761693703936 : True := trivial
theorem hd.tw2608437505485318709 : True := trivial
theorem hd.tw5480042469492414594 : True := trivial
theorem hd.tw14612060388864693735 : True := trivial
theorem hd.tw8773699223549846113 : True := trivial
theorem hd.tw4768578896829404305 : True := trivial
theorem hd.tw2252305205657439004 : True := trivial
theorem hd.tw15790720579355451973 : True := trivial
theorem hd.tw9398405308114057262 : True := trivial
theorem hd.tw8977307856219701671 : True := trivial
theorem hd.tw3039998526598829958 : True := trivial
theorem hd.tw12112201142124510154 : True := trivial
theorem hd.tw3434918251397683217 : True := trivial
theorem hd.tw960944832710211464 : True := trivial
theorem hd.tw1865391376527767206 : True := trivial
theorem hd.tw4494801613693538912 : True := trivial
theorem hd.tw9215827820722605749 : True := trivial
theorem hd.tw8179070454071193570 : True := trivial
theorem hd.tw8044012406986999415 : True := trivial
theorem hd.tw3350930974749635488 : True := trivial
theorem hd.tw3451239065008710300 : True := trivial
theorem hd.tw6877226645827823821 : True := trivial
theorem hd.tw5322579261384874668 : True := trivial
theorem hd.tw2845207389951388047 : True := trivial
theorem hd.tw13790719812936386609 : True := trivial
theorem hd.tw16970440968685349367 : True := trivial
theorem hd.tw7085514621470718492 : True := trivial
theorem hd.tw15910714762333108613 : True := trivial
theorem hd.tw8381844023166312768 : True := trivial
theorem hd.tw7880807054014371918 : True := trivial
theorem hd.tw9741134391959003819 : True := trivial
theorem hd.tw14772383043592177042 : True := trivial
theorem hd.tw9627899436633539337 : True := trivial
theorem hd.tw7372000682148998216 : True := trivial
theorem hd.tw17012040316742504577 : True := trivial
theorem hd.tw8228950375871286339 : True := trivial
theorem hd.tw7292484366425897655 : True := trivial
theorem hd.tw15508949281206285077 : True := trivial
theorem hd.tw10531373872144210542 : True := trivial
theorem hd.tw4367455430839740993 : True := trivial
theorem hd.tw16357263729072622229 : True := trivial
theorem hd.tw16156708551869547534 : True := trivial
theorem hd.tw15618049606547972131 : True := trivial
theorem hd.tw11729958736954745289 : True := trivial
theorem hd.tw12565835363266740329 : True := trivial
theorem hd.tw12414669353804360901 : True := trivial
theorem hd.tw7379015992945566340 : True := trivial
theorem hd.tw16635604280276938560 : True := trivial
theorem hd.tw11249132867342737325 : True := trivial
theorem hd.tw8977460988437922124 : True := trivial
theorem hd.tw16547865195752855329 : True := trivial
theorem hd.tw15603535497565009323 : True := trivial
theorem hd.tw7317836474542784337 : True := trivial
theorem hd.tw3419581819265744254 : True := trivial
theorem hd.tw4159134105002834734 : True := trivial
theorem hd.tw10012880186880212623 : True := trivial
theorem hd.tw14040608126747316905 : True := trivial
theorem hd.tw2930668341846507884 : True := trivial
theorem hd.tw14896477498954680388 : True := trivial
theorem hd.tw1511243299971373483 : True := trivial
theorem hd.tw15278966056882409248 : True := trivial
theorem hd.tw15616948245753086127 : True := trivial
theorem hd.tw9577689765879766989 : True := trivial
theorem hd.tw6848782300941138395 : True := trivial
theorem hd.tw1379335367625716243 : True := trivial
theorem hd.tw15591429051563716170 : True := trivial
theorem hd.tw5366084841770067474 : True := trivial
theorem hd.tw15463257786427224491 : True := trivial
theorem hd.tw16473244170626142550 : True := trivial
theorem hd.tw262745018181394680 : True := trivial
theorem hd.tw17429513623812275283 : True := trivial
theorem hd.tw14439243815434019604 : True := trivial
theorem hd.tw14960593345356199642 : True := trivial
theorem hd.tw15987713032478767096 : True := trivial
theorem hd.tw15615537253650120727 : True := trivial
theorem hd.tw18421049791903953903 : True := trivial
theorem hd.tw1736311965527578767 : True := trivial
theorem hd.tw18268791191939849864 : True := trivial
theorem hd.tw14176624398918483544 : True := trivial
theorem hd.tw7914949630228597729 : True := trivial
theorem hd.tw6308581086252854402 : True := trivial
theorem hd.tw15852365999677673905 : True := trivial
theorem hd.tw11128854368766332075 : True := trivial
theorem hd.tw14859038896228082724 : True := trivial
theorem hd.tw6627881031435992008 : True := trivial
theorem hd.tw17070941380808615275 : True := trivial
theorem hd.tw2739504486584576224 : True := trivial
theorem hd.tw6785817131721698500 : True := trivial
theorem hd.tw17599816209265215132 : True := trivial
theorem hd.tw15220180469806662145 : True := trivial
theorem hd.tw395138700845864316 : True := trivial
theorem hd.tw16301592386811335294 : True := trivial
theorem hd.tw17143205804819765802 : True := trivial
theorem hd.tw17562767543260142214 : True := trivial
theorem hd.tw6957150274394394060 : True := trivial
theorem hd.tw4990156530697904881 : True := trivial
theorem hd.tw13160604113216922460 : True := trivial
theorem hd.tw4643362625855044894 : True := trivial
theorem hd.tw10246146449241189800 : True := trivial
theorem hd.tw8015326511298524721 : True := trivial
theorem hd.tw6082411064634330575 : True := trivial
theorem hd.tw7691918140598264929 : True := trivial
theorem hd.tw3789350110615891812 : True := trivial
theorem hd.tw4581847759332874082 : True := trivial
theorem hd.tw15967140613478806237 : True := trivial
theorem hd.tw9476321141362543215 : True := trivial
theorem hd.tw5667655126489319660 : True := trivial
theorem hd.tw6902198413751149823 : True := trivial
theorem hd.tw18343703819029505601 : True := trivial
theorem hd.tw12591134339009171964 : True := trivial
theorem hd.tw1997569388931296116 : True := trivial
theorem hd.tw6291416237084387574 : True := trivial
theorem hd.tw8312999807965096350 : True := trivial
theorem hd.tw8789358453043137523 : True := trivial
theorem hd.tw11232374478483605306 : True := trivial
theorem hd.tw11251137523995926341 : True := trivial
theorem hd.tw16587392273704687506 : True := trivial
theorem hd.tw2616952524820836436 : True := trivial
theorem hd.tw16299908979028503884 : True := trivial
theorem hd.tw11709330566771433103 : True := trivial
theorem hd.tw9908193460736022307 : True := trivial
theorem hd.tw4436941084341937812 : True := trivial
theorem hd.tw2042292140826266357 : True := trivial
theorem hd.tw9132557439983319658 : True := trivial
theorem hd.tw6438293893037913957 : True := trivial
theorem hd.tw500953250457666378 : True := trivial
theorem hd.tw5189956158058943387 : True := trivial
theorem hd.tw13409441903868389331 : True := trivial
theorem hd.tw5247051413645994129 : True := trivial
theorem hd.tw2888306203540662325 : True := trivial
theorem hd.tw13483081372092288885 : True := trivial
theorem hd.tw17491280204586788870 : True := trivial
theorem hd.tw7510230149288206974 : True := trivial
theorem hd.tw16011055738799735888 : True := trivial
theorem hd.tw5535567543195554156 : True := trivial
theorem hd.tw7006195865600381663 : True := trivial
theorem hd.tw5608270528595127837 : True := trivial
theorem hd.tw10879034167726328663 : True := trivial
theorem hd.tw10614716105012338702 : True := trivial
theorem hd.tw10919297434634762262 : True := trivial
theorem hd.tw4367231431732253908 : True := trivial
theorem hd.tw14745743045033390146 : True := trivial
theorem hd.tw18293851220164018083 : True := trivial
theorem hd.tw5549315172176941698 : True := trivial
theorem hd.tw16759147789766475008 : True := trivial
theorem hd.tw5283464899586487735 : True := trivial
theorem hd.tw6804821044290156842 : True := trivial
theorem hd.tw2167537188350426706 : True := trivial
theorem hd.tw16006246977917349235 : True := trivial
theorem hd.tw7891253978561527248 : True := trivial
theorem hd.tw10860895700388868024 : True := trivial
theorem hd.tw13051953538815563581 : True := trivial
theorem hd.tw12647368939536790636 : True := trivial
theorem hd.tw15813434630575017362 : True := trivial
theorem hd.tw1005483496087919985 : True := trivial
theorem hd.tw3309697970292668127 : True := trivial
theorem hd.tw1452849714261714991 : True := trivial
theorem hd.tw9983964734214183352 : True := trivial
theorem hd.tw17471934795394947791 : True := trivial
theorem hd.tw5343241284826551009 : True := trivial
theorem hd.tw10949625832625181284 : True := trivial
theorem hd.tw14205177575709318024 : True := trivial
theorem hd.tw3940546777539579641 : True := trivial
theorem hd.tw7369741819223213686 : True := trivial
theorem hd.tw17177331786930743035 : True := trivial
theorem hd.tw9330823016148744750 : True := trivial
theorem hd.tw5318216170032084099 : True := trivial
theorem hd.tw17447410573909459338 : True := trivial
theorem hd.tw8377043916266704855 : True := trivial
theorem hd.tw13064122474441708322 : True := trivial
theorem hd.tw13566260322249332789 : True := trivial
theorem hd.tw11465210709893060100 : True := trivial
theorem hd.tw1954109241102656831 : True := trivial
theorem hd.tw7270182246851987180 : True := trivial
theorem hd.tw11161378853769524075 : True := trivial
theorem hd.tw15642763164714097627 : True := trivial
theorem hd.tw4074112789689628901 : True := trivial
theorem hd.tw518976864732996251 : True := trivial
theorem hd.tw14006173549557618073 : True := trivial
theorem hd.tw5978321128707920903 : True := trivial
theorem hd.tw3608708970678896270 : True := trivial
theorem hd.tw22551697357593593 : True := trivial
theorem hd.tw17948085552500728524 : True := trivial
theorem hd.tw15427206886491885616 : True := trivial
theorem hd.tw14984183105004643987 : True := trivial
theorem hd.tw12870888531099404533 : True := trivial
theorem hd.tw16412773359747925120 : True := trivial
theorem hd.tw3381375190539634487 : True := trivial
theorem hd.tw15179676742415161110 : True := trivial
theorem hd.tw18166333605607142505 : True := trivial
theorem hd.tw15946356160694317329 : True := trivial
theorem hd.tw4182648748547736412 : True := trivial
theorem hd.tw368366308016060594 : True := trivial
theorem hd.tw9153386212771759811 : True := trivial
theorem hd.tw11319097763535126812 : True := trivial
theorem hd.tw6669269137521125552 : True := trivial
theorem hd.tw2871226400543044806 : True := trivial
theorem hd.tw11507959949525687343 : True := trivial
theorem hd.tw9641152695372364146 : True := trivial
theorem hd.tw9557236495431379559 : True := trivial
theorem hd.tw2598446214317162929 : True := trivial
theorem hd.tw13132618709999183898 : True := trivial
theorem hd.tw15043168886218598503 : True := trivial
theorem hd.tw14743440263598761229 : True := trivial
theorem hd.tw17588044629489971554 : True := trivial
theorem hd.tw2867327485932766208 : True := trivial
theorem hd.tw9429285754427346401 : True := trivial
theorem hd.tw4870687313549177768 : True := trivial
theorem hd.tw9995953887348947515 : True := trivial
theorem hd.tw1011335219593555734 : True := trivial
theorem hd.tw2799067240506288376 : True := trivial
theorem hd.tw12453114486196615683 : True := trivial
theorem hd.tw15367242080415987702 : True := trivial
theorem hd.tw7031273417212677730 : True := trivial
theorem hd.tw10601615944963115059 : True := trivial
theorem hd.tw2595994805191909183 : True := trivial
theorem hd.tw15625209780758371316 : True := trivial
theorem hd.tw12769127236821124696 : True := trivial
theorem hd.tw13038990169509382042 : True := trivial
theorem hd.tw16155205043701107222 : True := trivial
theorem hd.tw11472165163037031739 : True := trivial
theorem hd.tw5629675986466331604 : True := trivial
theorem hd.tw3484992998616243462 : True := trivial
theorem hd.tw5013244726748249802 : True := trivial
theorem hd.tw14103535550066685397 : True := trivial
theorem hd.tw9566141503761928105 : True := trivial
theorem hd.tw1147470481896660410 : True := trivial
theorem hd.tw1588505670450824345 : True := trivial
theorem hd.tw10030107230732127627 : True := trivial
theorem hd.tw17843490464661113860 : True := trivial
theorem hd.tw250903467453971090 : True := trivial
theorem hd.tw2922222751358710265 : True := trivial
theorem hd.tw12676414471582705871 : True := trivial
theorem hd.tw6982297934935202809 : True := trivial
theorem hd.tw17714235663813219645 : True := trivial
theorem hd.tw12509009523430927325 : True := trivial
theorem hd.tw2448417245163862455 : True := trivial
theorem hd.tw11011131195910976488 : True := trivial
theorem hd.tw5220083430330967483 : True := trivial
theorem hd.tw3182187488490625086 : True := trivial
theorem hd.tw17312999752573914782 : True := trivial
theorem hd.tw17901334829092211166 : True := trivial
theorem hd.tw8428860471423672150 : True := trivial
theorem hd.tw7752569895197466512 : True := trivial
theorem hd.tw11136197038861592535 : True := trivial
theorem hd.tw9783614193127449063 : True := trivial
theorem hd.tw7080932558258925280 : True := trivial
theorem hd.tw11399449904127653305 : True := trivial
theorem hd.tw16414904818172857274 : True := trivial
theorem hd.tw8770205317985620760 : True := trivial
theorem hd.tw14400467628812073631 : True := trivial
theorem hd.tw137786328141462057 : True := trivial
theorem hd.tw3915529967508079626 : True := trivial
theorem hd.tw9271970288684553227 : True := trivial
theorem hd.tw10743916045514856203 : True := trivial
theorem hd.tw3333446698644548216 : True := trivial
theorem hd.tw3673020696563887462 : True := trivial
theorem hd.tw9459050058782445324 : True := trivial
theorem hd.tw14980023328507725902 : True := trivial
theorem hd.tw2101469004524951375 : True := trivial
theorem hd.tw6278647508926252785 : True := trivial
theorem hd.tw13368278939475635651 : True := trivial
theorem hd.tw8343274005884668182 : True := trivial
theorem hd.tw18300207936620678264 : True := trivial
theorem hd.tw6449127861642672459 : True := trivial
theorem hd.tw12994019391074448376 : True := trivial
theorem hd.tw5148922909946612681 : True := trivial
theorem hd.tw8684328023851190084 : True := trivial
theorem hd.tw17903497710992402801 : True := trivial
theorem hd.tw9258712216579463092 : True := trivial
theorem hd.tw11778180911958503814 : True := trivial
theorem hd.tw6423634429210846174 : True := trivial
theorem hd.tw4065347644161347641 : True := trivial
theorem hd.tw1936894748134917147 : True := trivial
theorem hd.tw17583924267553061668 : True := trivial
theorem hd.tw4424954536736003961 : True := trivial
theorem hd.tw17925215291927510665 : True := trivial
theorem hd.tw6924109203229866365 : True := trivial
theorem hd.tw18293732401869909652 : True := trivial
theorem hd.tw15687388767607454252 : True := trivial
theorem hd.tw12631932088317031055 : True := trivial
theorem hd.tw9842699097658496709 : True := trivial
theorem hd.tw11151547217846952531 : True := trivial
theorem hd.tw7339039647409124788 : True := trivial
theorem hd.tw16227762859984022837 : True := trivial
theorem hd.tw3229955645248102723 : True := trivial
theorem hd.tw7519716089354478335 : True := trivial
theorem hd.tw17491317419825422843 : True := trivial
theorem hd.tw10792051664901133789 : True := trivial
theorem hd.tw14060237666301923597 : True := trivial
theorem hd.tw4068527845204499245 : True := trivial
theorem hd.tw16713699803418581334 : True := trivial
theorem hd.tw11652457597714270106 : True := trivial
theorem hd.tw14553816603554493358 : True := trivial
theorem hd.tw1331487369976884630 : True := trivial
theorem hd.tw8004679753235328684 : True := trivial
theorem hd.tw7754304195085646258 : True := trivial
theorem hd.tw2295870552580634182 : True := trivial
theorem hd.tw6038821095411175016 : True := trivial
theorem hd.tw4297731678662094536 : True := trivial
theorem hd.tw16064382804478563927 : True := trivial
theorem hd.tw1335065189686863947 : True := trivial
theorem hd.tw2315301623876862497 : True := trivial
theorem hd.tw15344866539931968096 : True := trivial
theorem hd.tw15042006015671813226 : True := trivial
theorem hd.tw10098268173465320503 : True := trivial
theorem hd.tw4272726840584523970 : True := trivial
theorem hd.tw12254263087357419629 : True := trivial
theorem hd.tw3404104791013757517 : True := trivial
theorem hd.tw2114630138375439770 : True := trivial
theorem hd.tw2808349399557158395 : True := trivial
theorem hd.tw16853341256802265648 : True := trivial
theorem hd.tw3649758429140192277 : True := trivial
theorem hd.tw15074197538484233485 : True := trivial
theorem hd.tw10763509664835889504 : True := trivial
theorem hd.tw4172343393113369950 : True := trivial
theorem hd.tw3969467460574380271 : True := trivial
theorem hd.tw13315533130655954831 : True := trivial
theorem hd.tw9990345226319884068 : True := trivial
theorem hd.tw15675198926951892251 : True := trivial
theorem hd.tw1643121930917553208 : True := trivial
theorem hd.tw10841399608879689956 : True := trivial
theorem hd.tw11893437276241958245 : True := trivial
theorem hd.tw10365702040365258594 : True := trivial
theorem hd.tw2051048951616859547 : True := trivial
theorem hd.tw1097748713957950337 : True := trivial
theorem hd.tw17130151131035750659 : True := trivial
theorem hd.tw10847404155465417027 : True := trivial
theorem hd.tw13855881374063213867 : True := trivial
theorem hd.tw8242931771332617035 : True := trivial
theorem hd.tw519851828213033955 : True := trivial
theorem hd.tw6906073325868019850 : True := trivial
theorem hd.tw1582976572388173787 : True := trivial
theorem hd.tw18322514126500204803 : True := trivial
theorem hd.tw3480954088277226078 : True := trivial
theorem hd.tw14346525914970070588 : True := trivial
theorem hd.tw2329189449893159454 : True := trivial
theorem hd.tw11402939732021071671 : True := trivial
theorem hd.tw18233516762306594366 : True := trivial
theorem hd.tw663384727985864361 : True := trivial
theorem hd.tw14446474709323646786 : True := trivial
theorem hd.tw6578402527460240241 : True := trivial
theorem hd.tw7927469264209771579 : True := trivial
theorem hd.tw2442259710966052079 : True := trivial
theorem hd.tw3941438180925939637 : True := trivial
theorem hd.tw16194383521188589630 : True := trivial
theorem hd.tw5513025101015932971 : True := trivial
theorem hd.tw3259873300814134281 : True := trivial
theorem hd.tw17739348878880393726 : True := trivial
theorem hd.tw7721951785955056133 : True := trivial
theorem hd.tw13363553139645760527 : True := trivial
theorem hd.tw12685813987229840507 : True := trivial
theorem hd.tw4724112764586752083 : True := trivial
theorem hd.tw16301706205554447908 : True := trivial
theorem hd.tw190519026028168232 : True := trivial
theorem hd.tw10778257442750969130 : True := trivial
theorem hd.tw7746578258024575070 : True := trivial
theorem hd.tw189712035060473897 : True := trivial
theorem hd.tw6213412439835118660 : True := trivial
theorem hd.tw12070654863422294720 : True := trivial
theorem hd.tw4091639524402994376 : True := trivial
theorem hd.tw9496365245306024149 : True := trivial
theorem hd.tw402640490398009360 : True := trivial
theorem hd.tw8545014587354053640 : True := trivial
theorem hd.tw9077708301081682751 : True := trivial
theorem hd.tw12480425521718506038 : True := trivial
theorem hd.tw6615107907471364465 : True := trivial
theorem hd.tw18176940659606848779 : True := trivial
theorem hd.tw10834780440838970164 : True := trivial
theorem hd.tw13267510147771200024 : True := trivial
theorem hd.tw10583446816852156582 : True := trivial
theorem hd.tw3044193314922437478 : True := trivial
theorem hd.tw3878383114103592795 : True := trivial
theorem hd.tw16772102934027710169 : True := trivial
theorem hd.tw11054480109507316185 : True := trivial
theorem hd.tw6264232113106981867 : True := trivial
theorem hd.tw8191903926673212241 : True := trivial
theorem hd.tw10283529075043463162 : True := trivial
theorem hd.tw18358800413957953924 : True := trivial
theorem hd.tw5292301768408028288 : True := trivial
theorem hd.tw6164396464334811476 : True := trivial
theorem hd.tw13120147024254741914 : True := trivial
theorem hd.tw4725425184044842548 : True := trivial
theorem hd.tw8934143017859847078 : True := trivial
theorem hd.tw162610821266807592 : True := trivial
theorem hd.tw12239354291974867115 : True := trivial
theorem hd.tw12952509933414984302 : True := trivial
theorem hd.tw6442067068224118133 : True := trivial
theorem hd.tw2068664650715991707 : True := trivial
theorem hd.tw4282359134580295075 : True := trivial
theorem hd.tw14478148883734587675 : True := trivial
theorem hd.tw541196102884509978 : True := trivial
theorem hd.tw17989097746536338734 : True := trivial
theorem hd.tw9617658007855726926 : True := trivial
theorem hd.tw15103106377680225435 : True := trivial
theorem hd.tw9719896912496429819 : True := trivial
theorem hd.tw15946388913382835224 : True := trivial
theorem hd.tw2274498078352570744 : True := trivial
theorem hd.tw6838551448383532254 : True := trivial
theorem hd.tw7261450039545342454 : True := trivial
theorem hd.tw17213754286329925777 : True := trivial
theorem hd.tw12614811148066621264 : True := trivial
theorem hd.tw7541792107247259296 : True := trivial
theorem hd.tw17772917993097084435 : True := trivial
theorem hd.tw1448358952932078338 : True := trivial
theorem hd.tw1820180628909398317 : True := trivial
theorem hd.tw10210669037155785340 : True := trivial
theorem hd.tw11623594800819314181 : True := trivial
theorem hd.tw7382370116671421104 : True := trivial
theorem hd.tw1792636949448641307 : True := trivial
theorem hd.tw5433107678231618845 : True := trivial
theorem hd.tw8589211134812392127 : True := trivial
theorem hd.tw6136932545381038964 : True := trivial
theorem hd.tw11672842613191775419 : True := trivial
theorem hd.tw4993660671451451078 : True := trivial
theorem hd.tw17606422857730326317 : True := trivial
theorem hd.tw8025032847418708242 : True := trivial
theorem hd.tw6755925336976613232 : True := trivial
theorem hd.tw11801993109049149486 : True := trivial
theorem hd.tw16138627921320673191 : True := trivial
theorem hd.tw11256106856564762260 : True := trivial
theorem hd.tw12058812876911547015 : True := trivial
theorem hd.tw4086058157674990017 : True := trivial
theorem hd.tw4851647983119433812 : True := trivial
theorem hd.tw307737655149646647 : True := trivial
theorem hd.tw8801323125487838256 : True := trivial
theorem hd.tw5902613922787404954 : True := trivial
theorem hd.tw14685462170515437407 : True := trivial
theorem hd.tw4383666589626881386 : True := trivial
theorem hd.tw1032897675154438637 : True := trivial
theorem hd.tw2457190517430149469 : True := trivial
theorem hd.tw9702936160620672325 : True := trivial
theorem hd.tw9631708518359487223 : True := trivial
theorem hd.tw15207398651663016943 : True := trivial
theorem hd.tw5781342201191254626 : True := trivial
theorem hd.tw7525542149764818722 : True := trivial
theorem hd.tw11319892378374348655 : True := trivial
theorem hd.tw12271959270614036898 : True := trivial
theorem hd.tw13466754112058979494 : True := trivial
theorem hd.tw4136554803537287180 : True := trivial
theorem hd.tw1247026723315081023 : True := trivial
theorem hd.tw10525666975642140466 : True := trivial
theorem hd.tw8317466277049474617 : True := trivial
theorem hd.tw12940713784782232206 : True := trivial
theorem hd.tw11364443708160879001 : True := trivial
theorem hd.tw15089522573102190283 : True := trivial
theorem hd.tw10788059911547816233 : True := trivial
theorem hd.tw3354817982754805858 : True := trivial
theorem hd.tw16415028865518655546 : True := trivial
theorem hd.tw7640094616464845771 : True := trivial
theorem hd.tw11032806212648032379 : True := trivial
theorem hd.tw16919406825032445293 : True := trivial
theorem hd.tw6302793511295740619 : True := trivial
theorem hd.tw17047115858639842297 : True := trivial
theorem hd.tw13217827037086042188 : True := trivial
theorem hd.tw9430268157657104642 : True := trivial
theorem hd.tw12070051907170230399 : True := trivial
theorem hd.tw13574768056931433239 : True := trivial
theorem hd.tw16091413853298234908 : True := trivial
theorem hd.tw7654286748164834634 : True := trivial
theorem hd.tw13293453174229064190 : True := trivial
theorem hd.tw102014493982917126 : True := trivial
theorem hd.tw17950676927832955104 : True := trivial
theorem hd.tw1241404454085649124 : True := trivial
theorem hd.tw9421340871869096474 : True := trivial
theorem hd.tw11115866451450875312 : True := trivial
theorem hd.tw3442329435671937591 : True := trivial
theorem hd.tw9420132969298855359 : True := trivial
theorem hd.tw17183224562656869120 : True := trivial
theorem hd.tw13628142620392400109 : True := trivial
theorem hd.tw5715356086224469760 : True := trivial
theorem hd.tw2284436838669742495 : True := trivial
theorem hd.tw12350410155528471161 : True := trivial
theorem hd.tw11052946933831473538 : True := trivial
theorem hd.tw4402725079659364252 : True := trivial
theorem hd.tw13365295217650922812 : True := trivial
theorem hd.tw7598622570094877466 : True := trivial
theorem hd.tw10778013660560245624 : True := trivial
theorem hd.tw5036846961687405229 : True := trivial
theorem hd.tw17919194246423945575 : True := trivial
theorem hd.tw3008623586974134963 : True := trivial
theorem hd.tw3496965988886986938 : True := trivial
theorem hd.tw5238241317806426387 : True := trivial
theorem hd.tw11283319371284918911 : True := trivial
theorem hd.tw18093812233618175256 : True := trivial
theorem hd.tw9170477692918782315 : True := trivial
theorem hd.tw7191455744419660376 : True := trivial
theorem hd.tw7153062008950511462 : True := trivial
theorem hd.tw17377529257436501650 : True := trivial
theorem hd.tw13129650132239662433 : True := trivial
theorem hd.tw7523672394736509286 : True := trivial
theorem hd.tw728884934406724761 : True := trivial
theorem hd.tw8803977449572941912 : True := trivial
theorem hd.tw4115565904173853331 : True := trivial
theorem hd.tw18160293313031310949 : True := trivial
theorem hd.tw11852641145169952659 : True := trivial
theorem hd.tw5190246844813560578 : True := trivial
theorem hd.tw1584506945513601688 : True := trivial
theorem hd.tw4971549296188076032 : True := trivial
theorem hd.tw8047900516022102942 : True := trivial
theorem hd.tw13866372431405929976 : True := trivial
theorem hd.tw17234923516513369237 : True := trivial
theorem hd.tw5245234834050458271 : True := trivial
theorem hd.tw7296583596125217682 : True := trivial
theorem hd.tw5486487638281291605 : True := trivial
theorem hd.tw13431754692932380062 : True := trivial
theorem hd.tw17001982702790524580 : True := trivial
theorem hd.tw11375277706881905925 : True := trivial
theorem hd.tw17420951861521290806 : True := trivial
theorem hd.tw10693273971655334444 : True := trivial
theorem hd.tw11631869004601391166 : True := trivial
theorem hd.tw17696971302532935780 : True := trivial
theorem hd.tw13225837485096350037 : True := trivial
theorem hd.tw11636924220087485885 : True := trivial
theorem hd.tw9406673726873002282 : True := trivial
theorem hd.tw313027258313007627 : True := trivial
theorem hd.tw9345929723534960622 : True := trivial
theorem hd.tw12832683148521936107 : True := trivial
theorem hd.tw11119798521548139033 : True := trivial
theorem hd.tw16649331688326792143 : True := trivial
theorem hd.tw5363564295841288755 : True := trivial
theorem hd.tw12727495553239364174 : True := trivial
theorem hd.tw1043307727769730188 : True := trivial
theorem hd.tw7898215921889874393 : True := trivial
theorem hd.tw7712819752767893495 : True := trivial
theorem hd.tw6046454685291232161 : True := trivial
theorem hd.tw2603259988358896889 : True := trivial
theorem hd.tw16634568088961857937 : True := trivial
theorem hd.tw15924899543223041283 : True := trivial
theorem hd.tw15527848837575444561 : True := trivial
theorem hd.tw8493152586797012548 : True := trivial
theorem hd.tw11953376511379268794 : True := trivial
theorem hd.tw16456969618363192440 : True := trivial
theorem hd.tw18103342009636024947 : True := trivial
theorem hd.tw16007149819294483003 : True := trivial
theorem hd.tw13181700845877081190 : True := trivial
theorem hd.tw1013155817946168525 : True := trivial
theorem hd.tw4654797750381630734 : True := trivial
theorem hd.tw3513125359445811510 : True := trivial
theorem hd.tw16259696140248634718 : True := trivial
theorem hd.tw1847840615245081061 : True := trivial
theorem hd.tw16477043939570097188 : True := trivial
theorem hd.tw14060154772996877548 : True := trivial
theorem hd.tw3109861748172591687 : True := trivial
theorem hd.tw4225703048834024713 : True := trivial
theorem hd.tw2951005344575393816 : True := trivial
theorem hd.tw14143962318596072753 : True := trivial
theorem hd.tw10170382586518783626 : True := trivial
theorem hd.tw9763420282994701918 : True := trivial
theorem hd.tw5416991563250132298 : True := trivial
theorem hd.tw1535757262459896012 : True := trivial
theorem hd.tw3876449026389394717 : True := trivial
theorem hd.tw14444963742821833902 : True := trivial
theorem hd.tw14294001040229213422 : True := trivial
theorem hd.tw1506431575118746342 : True := trivial
theorem hd.tw8356816923877370021 : True := trivial
theorem hd.tw15637593595834871717 : True := trivial
theorem hd.tw13322179722446271537 : True := trivial
theorem hd.tw18163647496604598072 : True := trivial
theorem hd.tw9449672872311958731 : True := trivial
theorem hd.tw2371736936440567457 : True := trivial
theorem hd.tw4734902545126651661 : True := trivial
theorem hd.tw3919010098100093602 : True := trivial
theorem hd.tw9277588360372424766 : True := trivial
theorem hd.tw3922637787740509324 : True := trivial
theorem hd.tw8117029840178788049 : True := trivial
theorem hd.tw4521580383011477154 : True := trivial
theorem hd.tw1781861727890032366 : True := trivial
theorem hd.tw14567429538950270057 : True := trivial
theorem hd.tw15166520500009309586 : True := trivial
theorem hd.tw16053994301053490033 : True := trivial
theorem hd.tw15837987909243819085 : True := trivial
theorem hd.tw11814627755841444246 : True := trivial
theorem hd.tw11663481321943121269 : True := trivial
theorem hd.tw17895171251205151618 : True := trivial
theorem hd.tw14667805832236412624 : True := trivial
theorem hd.tw2489000522355961661 : True := trivial
theorem hd.tw15759970867653108152 : True := trivial
theorem hd.tw5859118754885311737 : True := trivial
theorem hd.tw12394076208661396346 : True := trivial
theorem hd.tw7152984921513172624 : True := trivial
theorem hd.tw16154546982801380032 : True := trivial
theorem hd.tw10603584201595350602 : True := trivial
theorem hd.tw12588582704262371052 : True := trivial
theorem hd.tw17711083657039698284 : True := trivial
theorem hd.tw2323474266016966308 : True := trivial
theorem hd.tw17628472586750557451 : True := trivial
theorem hd.tw1413172679324656950 : True := trivial
theorem hd.tw13262116225945230012 : True := trivial
theorem hd.tw12629568148972539762 : True := trivial
theorem hd.tw10806950440038215891 : True := trivial
theorem hd.tw9983995961361265002 : True := trivial
theorem hd.tw15277330632498426303 : True := trivial
theorem hd.tw7578210074245671484 : True := trivial
theorem hd.tw4015398097383911347 : True := trivial
theorem hd.tw18095200977026478895 : True := trivial
theorem hd.tw8965841893048198262 : True := trivial
theorem hd.tw4449123307109862055 : True := trivial
theorem hd.tw4867443594122359892 : True := trivial
theorem hd.tw922143313871775805 : True := trivial
theorem hd.tw6767318904944593275 : True := trivial
theorem hd.tw10784824025267889561 : True := trivial
theorem hd.tw16257038226119295666 : True := trivial
theorem hd.tw15610959940260225430 : True := trivial
theorem hd.tw10117440562283002822 : True := trivial
theorem hd.tw4282304852377368616 : True := trivial
theorem hd.tw14438451200097066615 : True := trivial
theorem hd.tw10752148897807903841 : True := trivial
theorem hd.tw1010039293126601017 : True := trivial
theorem hd.tw18185175575083235020 : True := trivial
theorem hd.tw17673860158736603733 : True := trivial
theorem hd.tw17495340751864218003 : True := trivial
theorem hd.tw12399718760709695909 : True := trivial
theorem hd.tw10944956837784636368 : True := trivial
theorem hd.tw12092154237167983948 : True := trivial
theorem hd.tw7068711184596962023 : True := trivial
theorem hd.tw9345676750909349944 : True := trivial
theorem hd.tw16661405048812198066 : True := trivial
theorem hd.tw17387473266821786944 : True := trivial
theorem hd.tw17737187407176874954 : True := trivial
theorem hd.tw17640862679970642326 : True := trivial
theorem hd.tw6469175993241445255 : True := trivial
theorem hd.tw6528754448969337418 : True := trivial
theorem hd.tw9131607905817354932 : True := trivial
theorem hd.tw7526368328331116154 : True := trivial
theorem hd.tw2999033326186475339 : True := trivial
theorem hd.tw5505005885091257285 : True := trivial
theorem hd.tw6636792957720756321 : True := trivial
theorem hd.tw1208734638264122097 : True := trivial
theorem hd.tw8134915037123179040 : True := trivial
theorem hd.tw8538877666451538035 : True := trivial
theorem hd.tw6394381022753523788 : True := trivial
theorem hd.tw17902569758825723728 : True := trivial
theorem hd.tw15615420239508185596 : True := trivial
theorem hd.tw18330183385023645277 : True := trivial
theorem hd.tw442638132926106271 : True := trivial
theorem hd.tw1194904439430580092 : True := trivial
theorem hd.tw11713075325732132258 : True := trivial
theorem hd.tw8671608845466749128 : True := trivial
theorem hd.tw212345690472687942 : True := trivial
theorem hd.tw1652717081866841025 : True := trivial
theorem hd.tw18103420901670897651 : True := trivial
theorem hd.tw13171141561276507362 : True := trivial
theorem hd.tw16823583209533085739 : True := trivial
theorem hd.tw5927567313105069670 : True := trivial
theorem hd.tw16211521421427940678 : True := trivial
theorem hd.tw16178712458983371728 : True := trivial
theorem hd.tw18245042118932799458 : True := trivial
theorem hd.tw6140570298594658328 : True := trivial
theorem hd.tw6998783941825042932 : True := trivial
theorem hd.tw3795277891434052102 : True := trivial
theorem hd.tw2134215046882385847 : True := trivial
theorem hd.tw1439246655266547700 : True := trivial
theorem hd.tw128412058910260475 : True := trivial
theorem hd.tw14333710738500927179 : True := trivial
theorem hd.tw6885289447975202357 : True := trivial
theorem hd.tw17062030032774818151 : True := trivial
theorem hd.tw10258999931320997221 : True := trivial
theorem hd.tw9864973744126774698 : True := trivial
theorem hd.tw16169374299450900766 : True := trivial
theorem hd.tw14246236162039180721 : True := trivial
theorem hd.tw11513968764499736323 : True := trivial
theorem hd.tw11551083187376567056 : True := trivial
theorem hd.tw13671756088133313087 : True := trivial
theorem hd.tw4833718069199227053 : True := trivial
theorem hd.tw1409312971732116557 : True := trivial
theorem hd.tw432457690288141553 : True := trivial
theorem hd.tw461538923250603899 : True := trivial
theorem hd.tw10552574844327859949 : True := trivial
theorem hd.tw12023040214023829324 : True := trivial
theorem hd.tw6196171512934965099 : True := trivial
theorem hd.tw17577478241444706838 : True := trivial
theorem hd.tw4138081844389336918 : True := trivial
theorem hd.tw10543509907540572799 : True := trivial
theorem hd.tw7854228177987924090 : True := trivial
theorem hd.tw6819123309680001836 : True := trivial
theorem hd.tw876933089483189297 : True := trivial
theorem hd.tw14586822029978311858 : True := trivial
theorem hd.tw5278057926702712004 : True := trivial
theorem hd.tw16868993833207775613 : True := trivial
theorem hd.tw9298403506768410418 : True := trivial
theorem hd.tw18087722134493236510 : True := trivial
theorem hd.tw8735263284916673568 : True := trivial
theorem hd.tw16945582573551092051 : True := trivial
theorem hd.tw13783031573616600631 : True := trivial
theorem hd.tw17893044597097874663 : True := trivial
theorem hd.tw10643592516055977328 : True := trivial
theorem hd.tw2788664435532181463 : True := trivial
theorem hd.tw5167245352685981253 : True := trivial
theorem hd.tw6463563184777811805 : True := trivial
theorem hd.tw17335414052712997756 : True := trivial
theorem hd.tw12228760424905384129 : True := trivial
theorem hd.tw11587034568685482758 : True := trivial
theorem hd.tw14955159897011116063 : True := trivial
theorem hd.tw16158619036321959407 : True := trivial
theorem hd.tw10845626234925267891 : True := trivial
theorem hd.tw12901994302517312135 : True := trivial
theorem hd.tw6990203504111849199 : True := trivial
theorem hd.tw7792395482447073224 : True := trivial
theorem hd.tw16345102440705955213 : True := trivial
theorem hd.tw18439511094173506614 : True := trivial
theorem hd.tw13531707123254989501 : True := trivial
theorem hd.tw10465514089279642386 : True := trivial
theorem hd.tw5716766192118558609 : True := trivial
theorem hd.tw1445366717492459972 : True := trivial
theorem hd.tw12232750017996463310 : True := trivial
theorem hd.tw561391293025646643 : True := trivial
theorem hd.tw8683856772340465682 : True := trivial
theorem hd.tw12131494931117144662 : True := trivial
theorem hd.tw13919464512627920130 : True := trivial
theorem hd.tw17044025373686055510 : True := trivial
theorem hd.tw17087091549796120035 : True := trivial
theorem hd.tw3828038474966422129 : True := trivial
theorem hd.tw16171809288044610508 : True := trivial
theorem hd.tw17986969038992634876 : True := trivial
theorem hd.tw16302227732802510677 : True := trivial
theorem hd.tw5388632664720090651 : True := trivial
theorem hd.tw9960721518486171458 : True := trivial
theorem hd.tw7240586211207864342 : True := trivial
theorem hd.tw17336936450418997793 : True := trivial
theorem hd.tw1563692795949630186 : True := trivial
theorem hd.tw978945382295711627 : True := trivial
theorem hd.tw6780557218761844654 : True := trivial
theorem hd.tw5976792059365374437 : True := trivial
theorem hd.tw16896567674234606475 : True := trivial
theorem hd.tw5899666649113621702 : True := trivial
theorem hd.tw5054737718236178183 : True := trivial
theorem hd.tw12575139184659369484 : True := trivial
theorem hd.tw9330943631129107780 : True := trivial
theorem hd.tw11079593142295127227 : True := trivial
theorem hd.tw1118553966540926140 : True := trivial
theorem hd.tw1129884963351977449 : True := trivial
theorem hd.tw8959176491354863721 : True := trivial
theorem hd.tw16794629799341752650 : True := trivial
theorem hd.tw13609717118414637909 : True := trivial
theorem hd.tw5562173858411828344 : True := trivial
theorem hd.tw16332348944364537037 : True := trivial
theorem hd.tw10286656452748174568 : True := trivial
theorem hd.tw15634565183472343292 : True := trivial
theorem hd.tw1299046323782801668 : True := trivial
theorem hd.tw2799716289819351777 : True := trivial
theorem hd.tw12353913968525425643 : True := trivial
theorem hd.tw11917015161858427179 : True := trivial
theorem hd.tw15963624873386084050 : True := trivial
theorem hd.tw833173182276230429 : True := trivial
theorem hd.tw2502866573005156581 : True := trivial
theorem hd.tw13828106393651249627 : True := trivial
theorem hd.tw8716120427605611371 : True := trivial
theorem hd.tw17975533764899295144 : True := trivial
theorem hd.tw2658526732547218105 : True := trivial
theorem hd.tw12127338746724423809 : True := trivial
theorem hd.tw17252143746492648416 : True := trivial
theorem hd.tw14457593812595234344 : True := trivial
theorem hd.tw16376525773666504680 : True := trivial
theorem hd.tw15102309248680683417 : True := trivial
theorem hd.tw7354087734392854552 : True := trivial
theorem hd.tw1222794163293265305 : True := trivial
theorem hd.tw16698745307106531279 : True := trivial
theorem hd.tw18291419657060728153 : True := trivial
theorem hd.tw16487816990975572028 : True := trivial
theorem hd.tw6186238094035137676 : True := trivial
theorem hd.tw3953601041324332601 : True := trivial
theorem hd.tw7120233287515763914 : True := trivial
theorem hd.tw15152743547302097792 : True := trivial
theorem hd.tw14598272352848978880 : True := trivial
theorem hd.tw1666387254794493845 : True := trivial
theorem hd.tw4478177076189095293 : True := trivial
theorem hd.tw6709418730364537143 : True := trivial
theorem hd.tw13122850982685727845 : True := trivial
theorem hd.tw100483095206116625 : True := trivial
theorem hd.tw12459740579856956213 : True := trivial
theorem hd.tw7492773218913965947 : True := trivial
theorem hd.tw12113243949977362033 : True := trivial
theorem hd.tw5010264101278932077 : True := trivial
theorem hd.tw17330132731328240911 : True := trivial
theorem hd.tw12050417470231563642 : True := trivial
theorem hd.tw4706079058837389440 : True := trivial
theorem hd.tw697623264460660564 : True := trivial
theorem hd.tw8273930003744585626 : True := trivial
theorem hd.tw17172931820748874959 : True := trivial
theorem hd.tw9533747618267967006 : True := trivial
theorem hd.tw8210421348078903774 : True := trivial
theorem hd.tw10678649693572172417 : True := trivial
theorem hd.tw6820862383352777685 : True := trivial
theorem hd.tw8112040973832200146 : True := trivial
theorem hd.tw10844753989422098599 : True := trivial
theorem hd.tw7628703163842673926 : True := trivial
theorem hd.tw12268275109542032366 : True := trivial
theorem hd.tw8587404781116728655 : True := trivial
theorem hd.tw7712595579559962911 : True := trivial
theorem hd.tw2327210489368252092 : True := trivial
theorem hd.tw9673543361469618366 : True := trivial
theorem hd.tw2304311442786299043 : True := trivial
theorem hd.tw11210553801493137410 : True := trivial
theorem hd.tw10200926772931222457 : True := trivial
theorem hd.tw2845679848157327705 : True := trivial
theorem hd.tw8960069828448710407 : True := trivial
theorem hd.tw15411387601460861337 : True := trivial
theorem hd.tw7028611270464810887 : True := trivial
theorem hd.tw1836080755315867724 : True := trivial
theorem hd.tw17002781174329755331 : True := trivial
theorem hd.tw15368132723985388332 : True := trivial
theorem hd.tw16432713993328977331 : True := trivial
theorem hd.tw4523669819894539328 : True := trivial
theorem hd.tw881544763273948857 : True := trivial
theorem hd.tw8472141830624432390 : True := trivial
theorem hd.tw3386092968808520798 : True := trivial
theorem hd.tw13518370688599389936 : True := trivial
theorem hd.tw6547078798241139092 : True := trivial
theorem hd.tw1580110805410547442 : True := trivial
theorem hd.tw5130813555471234732 : True := trivial
theorem hd.tw17574625026820762457 : True := trivial
theorem hd.tw7534799579077118603 : True := trivial
theorem hd.tw7626941382939369770 : True := trivial
theorem hd.tw8268277133935991078 : True := trivial
theorem hd.tw701787995468756871 : True := trivial
theorem hd.tw8244733829118024811 : True := trivial
theorem hd.tw1712922718373300912 : True := trivial
theorem hd.tw8351282476255451920 : True := trivial
theorem hd.tw5362516397382645915 : True := trivial
theorem hd.tw8664936974563722654 : True := trivial
theorem hd.tw2855845756224970109 : True := trivial
theorem hd.tw7763873220885509757 : True := trivial
theorem hd.tw15228807520496212463 : True := trivial
theorem hd.tw8458067239894703972 : True := trivial
theorem hd.tw10491609206876299696 : True := trivial
theorem hd.tw6276725880618359904 : True := trivial
theorem hd.tw11912922877643110818 : True := trivial
theorem hd.tw9341642984632610673 : True := trivial
theorem hd.tw6683769817339685419 : True := trivial
theorem hd.tw14168552714766633299 : True := trivial
theorem hd.tw8912348807662434688 : True := trivial
theorem hd.tw4021928978595405253 : True := trivial
theorem hd.tw15683763237869141255 : True := trivial
theorem hd.tw18321552122766947510 : True := trivial
theorem hd.tw280609765759037681 : True := trivial
theorem hd.tw17672654358674132775 : True := trivial
theorem hd.tw18368451091360184599 : True := trivial
theorem hd.tw2142638176634142368 : True := trivial
theorem hd.tw14492701947808656938 : True := trivial
theorem hd.tw920214292312260371 : True := trivial
theorem hd.tw9657781627882305391 : True := trivial
theorem hd.tw5983496337302601536 : True := trivial
theorem hd.tw12364972598781006883 : True := trivial
theorem hd.tw14851293442969957182 : True := trivial
theorem hd.tw12900700647772717614 : True := trivial
theorem hd.tw3694398316872202419 : True := trivial
theorem hd.tw10507497572311344420 : True := trivial
theorem hd.tw15213948185873263833 : True := trivial
theorem hd.tw1051681510052472703 : True := trivial
theorem hd.tw13468300074154594103 : True := trivial
theorem hd.tw3816877163431070358 : True := trivial
theorem hd.tw18219297243305740317 : True := trivial
theorem hd.tw5505332120971382143 : True := trivial
theorem hd.tw13321331477185743149 : True := trivial
theorem hd.tw1809687716253123402 : True := trivial
theorem hd.tw14727110085682223627 : True := trivial
theorem hd.tw9073681462420916055 : True := trivial
theorem hd.tw15595854959937240912 : True := trivial
theorem hd.tw16056359734778111409 : True := trivial
theorem hd.tw2781682124601125471 : True := trivial
theorem hd.tw13280443560766958183 : True := trivial
theorem hd.tw5009564483982726761 : True := trivial
theorem hd.tw14706022693812145444 : True := trivial
theorem hd.tw732345407407602841 : True := trivial
theorem hd.tw242841246431481386 : True := trivial
theorem hd.tw17088047866570459193 : True := trivial
theorem hd.tw7494724483528729301 : True := trivial
theorem hd.tw8913175085399131134 : True := trivial
theorem hd.tw4819202231147424091 : True := trivial
theorem hd.tw14255774112173564976 : True := trivial
theorem hd.tw12949589719889679912 : True := trivial
theorem hd.tw3673089383077640791 : True := trivial
theorem hd.tw14120982254508448379 : True := trivial
theorem hd.tw1888629882248256335 : True := trivial
theorem hd.tw11631947586910100387 : True := trivial
theorem hd.tw8652628183442184457 : True := trivial
theorem hd.tw1800889605409440832 : True := trivial
theorem hd.tw12744807935193187038 : True := trivial
theorem hd.tw12936449754285732098 : True := trivial
theorem hd.tw16920754564084929960 : True := trivial
theorem hd.tw3920623390966001496 : True := trivial
theorem hd.tw7941745277869089046 : True := trivial
theorem hd.tw3536873572635521401 : True := trivial
theorem hd.tw9513423893830186035 : True := trivial
theorem hd.tw6079173187612997037 : True := trivial
theorem hd.tw185848376630758926 : True := trivial
theorem hd.tw1870067075039425230 : True := trivial
theorem hd.tw17330945745186091897 : True := trivial
theorem hd.tw17076082267592564974 : True := trivial
theorem hd.tw4360684699965382250 : True := trivial
theorem hd.tw14137390275340422267 : True := trivial
theorem hd.tw13474097485772985973 : True := trivial
theorem hd.tw17679848547673146604 : True := trivial
theorem hd.tw6545403380812914513 : True := trivial
theorem hd.tw4315991029959535628 : True := trivial
theorem hd.tw4292457097857839397 : True := trivial
theorem hd.tw8879563391730754479 : True := trivial
theorem hd.tw2040990291671593033 : True := trivial
theorem hd.tw17956543221229664512 : True := trivial
theorem hd.tw15048261121198461528 : True := trivial
theorem hd.tw3759623122121258479 : True := trivial
theorem hd.tw12611767792052310623 : True := trivial
theorem hd.tw14876163932577733988 : True := trivial
theorem hd.tw8727321023445011275 : True := trivial
theorem hd.tw8516288146210602744 : True := trivial
theorem hd.tw17542962492245011380 : True := trivial
theorem hd.tw14906377314874228009 : True := trivial
theorem hd.tw2195365466389143174 : True := trivial
theorem hd.tw2468469042602058204 : True := trivial
theorem hd.tw1760603350576429475 : True := trivial
theorem hd.tw16037735763661986305 : True := trivial
theorem hd.tw511748877826530558 : True := trivial
theorem hd.tw3443669649825651883 : True := trivial
theorem hd.tw4788038989552484473 : True := trivial
theorem hd.tw1097998534492414930 : True := trivial
theorem hd.tw257007361410690125 : True := trivial
theorem hd.tw4377701919642642989 : True := trivial
theorem hd.tw16502264421070913907 : True := trivial
theorem hd.tw9390866547671247325 : True := trivial
theorem hd.tw9325612240067072397 : True := trivial
theorem hd.tw10273187271170590260 : True := trivial
theorem hd.tw3493717111155160527 : True := trivial
theorem hd.tw6761669909254768831 : True := trivial
theorem hd.tw15083628210047938546 : True := trivial
theorem hd.tw10933677585905718993 : True := trivial
theorem hd.tw8770659054964912022 : True := trivial
theorem hd.tw2263123870574935043 : True := trivial
theorem hd.tw18241275227582772068 : True := trivial
theorem hd.tw14892549342360969540 : True := trivial
theorem hd.tw15529170255622000948 : True := trivial
theorem hd.tw11905163887095721015 : True := trivial
theorem hd.tw12211380539166087753 : True := trivial
theorem hd.tw7540655947842036084 : True := trivial
theorem hd.tw6931407450589930559 : True := trivial
theorem hd.tw13903934854276604550 : True := trivial
theorem hd.tw1033889070964956483 : True := trivial
theorem hd.tw940617070666608080 : True := trivial
theorem hd.tw10292235466723388172 : True := trivial
theorem hd.tw617508947420966582 : True := trivial
theorem hd.tw4166613126615870536 : True := trivial
theorem hd.tw16640546478005224243 : True := trivial
theorem hd.tw17470177872615007328 : True := trivial
theorem hd.tw8226494294326810461 : True := trivial
theorem hd.tw17386561741084979693 : True := trivial
theorem hd.tw6830512106363814048 : True := trivial
theorem hd.tw2000490053193787569 : True := trivial
theorem hd.tw15833661619300960221 : True := trivial
theorem hd.tw5592360268479517082 : True := trivial
theorem hd.tw6184460063843016694 : True := trivial
theorem hd.tw8053944837975664402 : True := trivial
theorem hd.tw11389486352061984695 : True := trivial
theorem hd.tw13994979335412520660 : True := trivial
theorem hd.tw17681399029576232318 : True := trivial
theorem hd.tw567884609423149705 : True := trivial
theorem hd.tw5657824000916062451 : True := trivial
theorem hd.tw7023726343779634624 : True := trivial
theorem hd.tw11162318198679636149 : True := trivial
theorem hd.tw5567388512258382067 : True := trivial
theorem hd.tw7082855905992002993 : True := trivial
theorem hd.tw3763122126050802206 : True := trivial
theorem hd.tw3704167492566942397 : True := trivial
theorem hd.tw7676003278276379012 : True := trivial
theorem hd.tw1610171440888473627 : True := trivial
theorem hd.tw3571134770919094901 : True := trivial
theorem hd.tw1197925565968671727 : True := trivial
theorem hd.tw13092906067662860646 : True := trivial
theorem hd.tw1848646778235469078 : True := trivial
theorem hd.tw13638418597567726942 : True := trivial
theorem hd.tw5174551420813472067 : True := trivial
theorem hd.tw8457440626546761165 : True := trivial
theorem hd.tw13534587687697041467 : True := trivial
theorem hd.tw15033227074091944939 : True := trivial
theorem hd.tw226724450230711188 : True := trivial
theorem hd.tw13330244855972007585 : True := trivial
theorem hd.tw3196399650302076718 : True := trivial
theorem hd.tw17325209927041812611 : True := trivial
theorem hd.tw7174315439194531881 : True := trivial
theorem hd.tw7512474625130614241 : True := trivial
theorem hd.tw14462709497994964445 : True := trivial
theorem hd.tw17217394356764393341 : True := trivial
theorem hd.tw1699103778626983548 : True := trivial
theorem hd.tw13532847315355080253 : True := trivial
theorem hd.tw1331086792558400476 : True := trivial
set_option Elab.async true in
theorem hd (walk : WalkO view [Str.ofString "NIL", Str.ofString "list_term"] (XL view [(Str.ofString "NIL", .tuple [.str ⟨#[97]⟩, .int 0])]) (kHook Mine.hp.heap_1 [2, 3, 15, 17, 18, 20, 21, 22, 29, 30, 31, 32, 35, 42, 44, 45, 47, 48, 49, 50, 51, 54, 56, 57, 59, 60, 61, 63, 64, 66, 67, 75, 77, 78, 80, 81, 82, 84, 85, 87, 88, 89, 91, 92, 94, 95, 96, 98, 99, 101, 102, 103, 105, 106, 108, 109, 110, 112, 113, 115, 116, 117, 119, 120, 122, 123, 124, 126, 127, 129, 130, 131, 133, 134, 136, 137, 138, 140, 141, 143, 144, 145, 147, 148, 150, 151, 152, 153, 154, 155, 156, 159, 161, 162, 164, 165, 166, 168, 169, 171, 172, 173, 175, 176, 178, 179, 180, 182, 183, 185, 186, 187, 189, 190, 192, 193, 194, 196, 197, 199, 200, 201, 203, 204, 206, 207, 208, 210, 211, 213, 214, 215, 218, 219, 220, 222, 223, 225, 226, 227, 229, 230, 232, 233, 241, 242, 244, 245, 247, 248, 249, 251, 252, 254, 255, 256, 258, 259, 261, 262, 263, 265, 266, 268, 269, 270, 272, 273, 275, 276, 277, 279, 280, 282, 283, 284, 286, 287, 289, 290, 291, 293, 294, 296, 297, 298, 300, 301, 303, 304, 305, 307, 308, 310, 311, 312, 314, 315, 317, 318, 319, 321, 322, 324, 325, 326, 328, 329, 331, 332, 333, 335, 336, 338, 339, 340, 342, 343, 345, 346, 347, 349, 350, 352, 353, 354, 356, 357, 359, 360, 361, 363, 364, 366, 367, 368, 369, 370, 371, 372, 375, 376, 378, 379, 381, 382, 383, 385, 386, 388, 389, 390, 392, 393, 395, 396, 397, 399, 400, 402, 403, 404, 405, 407, 408, 410, 411, 412, 413, 414, 415, 417, 418, 420, 421, 422, 424, 425, 427, 428, 429, 431, 432, 434, 435, 436, 438, 439, 441, 442, 450, 451, 453, 454, 456, 457, 458, 460, 461, 463, 464, 465, 467, 468, 470, 471, 472, 474, 475, 477, 478, 479, 481, 482, 484, 485, 486, 488, 489, 491, 492, 493, 495, 496, 498, 499, 500, 502, 503, 505, 506, 507, 508, 509, 510, 511, 521, 523, 524, 526, 527, 528, 530, 531, 533, 534, 535, 537, 538, 540, 541, 542, 544, 545, 547, 548, 549, 551, 552, 554, 555, 556, 558, 559, 561, 562, 563, 564, 565, 566, 567, 570, 571, 579, 581, 582, 584, 585, 586, 587, 588, 589, 590, 593, 595, 596, 598, 599, 600, 602, 603, 605, 606, 607, 609, 610, 612, 613, 621, 623, 624, 626, 627, 628, 630, 631, 633, 634, 635, 637, 638, 640, 641, 642, 644, 645, 647, 648, 649, 651, 652, 654, 655, 656, 658, 659, 661, 662, 663, 665, 666, 668, 669, 670, 672, 673, 675, 676, 677, 679, 680, 682, 683, 684, 686, 687, 689, 690, 691, 693, 694, 696, 697, 698, 700, 701, 703, 704, 705, 707, 708, 710, 711, 712, 714, 715, 717, 718, 719, 721, 722, 724, 725, 726, 729, 730, 731, 733, 734, 736, 737, 738, 740, 741, 743, 744, 745, 747, 748, 750, 751, 752, 754, 755, 757, 758, 759, 761, 762, 764, 765, 766, 768, 769, 771, 772, 773, 775, 776, 778, 779, 780, 782, 783, 785, 786, 787, 789, 790, 792, 793, 794, 795, 796, 797, 798, 808, 809, 811, 812, 814, 815, 816, 818, 819, 821, 822, 823, 825, 826, 828, 829, 830, 832, 833, 835, 836, 837, 838, 839, 840, 841, 844, 847, 848] (fun _ => by kernel_rfl)).says PySem.Challenge.rw_rr0038_01.row.toRowW lawD [] fun f vs => PySem.call f vs) : PySem.Challenge.rw_rr0038_01.Holds := by
  w_on
  o_law
  show Gg walk _
  o_head (kHook Mine.hp.heap_1 [2, 3, 15, 17, 18, 20, 21, 22, 29, 30, 31, 32, 35, 42, 44, 45, 47, 48, 49, 50, 51, 54, 56, 57, 59, 60, 61, 63, 64, 66, 67, 75, 77, 78, 80, 81, 82, 84, 85, 87, 88, 89, 91, 92, 94, 95, 96, 98, 99, 101, 102, 103, 105, 106, 108, 109, 110, 112, 113, 115, 116, 117, 119, 120, 122, 123, 124, 126, 127, 129, 130, 131, 133, 134, 136, 137, 138, 140, 141, 143, 144, 145, 147, 148, 150, 151, 152, 153, 154, 155, 156, 159, 161, 162, 164, 165, 166, 168, 169, 171, 172, 173, 175, 176, 178, 179, 180, 182, 183, 185, 186, 187, 189, 190, 192, 193, 194, 196, 197, 199, 200, 201, 203, 204, 206, 207, 208, 210, 211, 213, 214, 215, 218, 219, 220, 222, 223, 225, 226, 227, 229, 230, 232, 233, 241, 242, 244, 245, 247, 248, 249, 251, 252, 254, 255, 256, 258, 259, 261, 262, 263, 265, 266, 268, 269, 270, 272, 273, 275, 276, 277, 279, 280, 282, 283, 284, 286, 287, 289, 290, 291, 293, 294, 296, 297, 298, 300, 301, 303, 304, 305, 307, 308, 310, 311, 312, 314, 315, 317, 318, 319, 321, 322, 324, 325, 326, 328, 329, 331, 332, 333, 335, 336, 338, 339, 340, 342, 343, 345, 346, 347, 349, 350, 352, 353, 354, 356, 357, 359, 360, 361, 363, 364, 366, 367, 368, 369, 370, 371, 372, 375, 376, 378, 379, 381, 382, 383, 385, 386, 388, 389, 390, 392, 393, 395, 396, 397, 399, 400, 402, 403, 404, 405, 407, 408, 410, 411, 412, 413, 414, 415, 417, 418, 420, 421, 422, 424, 425, 427, 428, 429, 431, 432, 434, 435, 436, 438, 439, 441, 442, 450, 451, 453, 454, 456, 457, 458, 460, 461, 463, 464, 465, 467, 468, 470, 471, 472, 474, 475, 477, 478, 479, 481, 482, 484, 485, 486, 488, 489, 491, 492, 493, 495, 496, 498, 499, 500, 502, 503, 505, 506, 507, 508, 509, 510, 511, 521, 523, 524, 526, 527, 528, 530, 531, 533, 534, 535, 537, 538, 540, 541, 542, 544, 545, 547, 548, 549, 551, 552, 554, 555, 556, 558, 559, 561, 562, 563, 564, 565, 566, 567, 570, 571, 579, 581, 582, 584, 585, 586, 587, 588, 589, 590, 593, 595, 596, 598, 599, 600, 602, 603, 605, 606, 607, 609, 610, 612, 613, 621, 623, 624, 626, 627, 628, 630, 631, 633, 634, 635, 637, 638, 640, 641, 642, 644, 645, 647, 648, 649, 651, 652, 654, 655, 656, 658, 659, 661, 662, 663, 665, 666, 668, 669, 670, 672, 673, 675, 676, 677, 679, 680, 682, 683, 684, 686, 687, 689, 690, 691, 693, 694, 696, 697, 698, 700, 701, 703, 704, 705, 707, 708, 710, 711, 712, 714, 715, 717, 718, 719, 721, 722, 724, 725, 726, 729, 730, 731, 733, 734, 736, 737, 738, 740, 741, 743, 744, 745, 747, 748, 750, 751, 752, 754, 755, 757, 758, 759, 761, 762, 764, 765, 766, 768, 769, 771, 772, 773, 775, 776, 778, 779, 780, 782, 783, 785, 786, 787, 789, 790, 792, 793, 794, 795, 796, 797, 798, 808, 809, 811, 812, 814, 815, 816, 818, 819, 821, 822, 823, 825, 826, 828, 829, 830, 832, 833, 835, 836, 837, 838, 839, 840, 841, 844, 847, 848] (fun _ => by kernel_rfl))
  (case hw => w_witness2)
  exact walk
end
end Mine
end

section
open PySem PySem.W PyProof.Rows
set_option Elab.async false
set_option genSizeOf false
set_option linter.unusedVariables false
namespace Mine

/-- values by content, without tokens; a tuple is its items -/
inductive AV where
  | none
  | bool (b : Bool)
  | int (i : Int)
  | str (s : Str)
  | ref (a : Addr)
  | tup (vs : List AV)
  | type (n : String)
  | builtin (n : String)
  deriving Inhabited

noncomputable def tupObj (vs : List Value) (n : Nat) : Obj := { cls := .type "tuple", data := .seq vs.toArray n }

mutual
inductive VR (h : Heap) : Value → AV → Prop
  | none : VR h Value.none AV.none
  | bool (b : Bool) : VR h (Value.bool b) (AV.bool b)
  | int (i : Int) (t : Tok) : VR h (Value.int i t) (AV.int i)
  | str (x : Str) (t : Tok) : VR h (Value.str x t) (AV.str x)
  | ref (a : Addr) : VR h (Value.ref a) (AV.ref a)
  | tup {a : Addr} {vs : List Value} {n : Nat} {ds : List AV} : h.get? a = some (tupObj vs n) → VRs h vs ds → VR h (Value.ref a) (AV.tup ds)
  | type (n : String) : VR h (Value.type n) (AV.type n)
  | builtin (n : String) : VR h (Value.builtin n) (AV.builtin n)
inductive VRs (h : Heap) : List Value → List AV → Prop
  | nil : VRs h [] []
  | cons {v : Value} {vs : List Value} {d : AV} {ds : List AV} : VR h v d → VRs h vs ds → VRs h (v :: vs) (d :: ds)
end

/-- tuples stay -/
noncomputable def TupKeep (h h' : Heap) : Prop := ∀ a o its n, h.get? a = some o → o.cls = .type "tuple" → o.data = .seq its n → h'.get? a = some o
theorem TupKeep.refl (h : Heap) : TupKeep h h := fun _ _ _ _ e _ _ => e
theorem TupKeep.trans {h₁ h₂ h₃ : Heap} (x : TupKeep h₁ h₂) (y : TupKeep h₂ h₃) : TupKeep h₁ h₃ := fun a o _ _ e c d => y a o _ _ (x a o _ _ e c d) c d
theorem TupKeep.of_keep {h h' : Heap} (k : ∀ b o, h.get? b = some o → h'.get? b = some o) : TupKeep h h' := fun a o _ _ e _ _ => k a o e
/-- no tuple stands here -/
noncomputable def NoTup (o : Obj) : Prop := ∀ its n, o.cls = .type "tuple" → o.data = .seq its n → False
theorem TupKeep.extBut {h h' : Heap} {d : Addr} {o : Obj} (hs : Heap.ExtBut d h h') (ho : h.get? d = some o) (hc : NoTup o) : TupKeep h h' := fun a o' its n e c d' => by
  refine hs a o' (fun q => ?_) e
  subst q
  rw [ho] at e
  cases e
  exact hc its n c d'
theorem NoTup.of_cls {o : Obj} (h : o.cls ≠ .type "tuple") : NoTup o := fun _ _ c _ => h c
theorem NoTup.of_dict {o : Obj} {es : Array DictEntry} {ep : Nat} (h : o.data = .dict es ep) : NoTup o := fun _ _ _ d => by rw [h] at d; cases d
theorem NoTup.of_cell {o : Obj} {v : Option Value} (h : o.data = .cell v) : NoTup o := fun _ _ _ d => by rw [h] at d; cases d

theorem VR.both {h h' : Heap} (k : TupKeep h h') : (∀ v d, VR h v d → VR h' v d) ∧ ∀ vs ds, VRs h vs ds → VRs h' vs ds := by
  have A := fun (P : Prop) (q : (∀ v d, VR h v d → VR h' v d) → (∀ vs ds, VRs h vs ds → VRs h' vs ds) → P) => q
    (fun v d z => VR.rec (motive_1 := fun v d _ => VR h' v d) (motive_2 := fun vs ds _ => VRs h' vs ds) .none .bool .int .str .ref (fun e _ r => .tup (k _ _ _ _ e rfl rfl) r) .type .builtin .nil (fun _ _ a r => .cons a r) z)
    (fun v d z => VRs.rec (motive_1 := fun v d _ => VR h' v d) (motive_2 := fun vs ds _ => VRs h' vs ds) .none .bool .int .str .ref (fun e _ r => .tup (k _ _ _ _ e rfl rfl) r) .type .builtin .nil (fun _ _ a r => .cons a r) z)
  exact A _ And.intro
theorem VR.mono {h h' : Heap} (k : TupKeep h h') {v : Value} {d : AV} (z : VR h v d) : VR h' v d := (VR.both k).1 v d z
theorem VRs.mono {h h' : Heap} (k : TupKeep h h') {vs : List Value} {ds : List AV} (z : VRs h vs ds) : VRs h' vs ds := (VR.both k).2 vs ds z
theorem VRs.ind {h : Heap} {P : List Value → List AV → Prop} (n : P [] []) (c : ∀ {v : Value} {vs : List Value} {d : AV} {ds : List AV}, VR h v d → VRs h vs ds → P vs ds → P (v :: vs) (d :: ds)) {vs : List Value} {ds : List AV} (z : VRs h vs ds) : P vs ds :=
  VRs.rec (motive_1 := fun _ _ _ => True) (motive_2 := fun vs ds _ => P vs ds) trivial (fun _ => trivial) (fun _ _ => trivial) (fun _ _ => trivial) (fun _ => trivial) (fun _ _ _ => trivial) (fun _ => trivial) (fun _ => trivial) n (fun a r _ p => c a r p) z
theorem VRs.length {h : Heap} {vs : List Value} {ds : List AV} (z : VRs h vs ds) : vs.length = ds.length :=
  VRs.ind (P := fun vs ds => vs.length = ds.length) rfl (fun _ _ p => by rw [List.length_cons, List.length_cons, p]) z
theorem VRs.l0 {h : Heap} {vs : List Value} (z : VRs h vs []) : vs = [] := List.eq_nil_of_length_eq_zero z.length
theorem VR.noneI {h : Heap} {v : Value} (z : VR h v .none) : v = .none := by cases z; rfl
theorem VR.boolI {h : Heap} {v : Value} {b : Bool} (z : VR h v (.bool b)) : v = .bool b := by cases z; rfl
theorem VR.intI {h : Heap} {v : Value} {i : Int} (z : VR h v (.int i)) : ∃ t, v = .int i t := by cases z; exact ⟨_, rfl⟩
theorem VR.strI {h : Heap} {v : Value} {u : Str} (z : VR h v (.str u)) : ∃ t, v = .str u t := by cases z; exact ⟨_, rfl⟩
theorem VR.tupI {h : Heap} {v : Value} {ds : List AV} (z : VR h v (.tup ds)) : ∃ a vs n, v = .ref a ∧ h.get? a = some (tupObj vs n) ∧ VRs h vs ds := by cases z with | tup e r => exact ⟨_, _, _, rfl, e, r⟩
theorem VRs.lc {h : Heap} {vs : List Value} {d : AV} {ds : List AV} (z : VRs h vs (d :: ds)) : ∃ v ws, vs = v :: ws ∧ VR h v d ∧ VRs h ws ds := by
  cases z with
  | cons a r => exact ⟨_, _, rfl, a, r⟩
theorem VRs.ls {h : Heap} {vs : List Value} {d : AV} {ds : List AV} (z : VRs h vs (d :: ds)) : ∃ v ws, vs = v :: ws ∧ VRs h ws ds := let ⟨v, ws, e, _, r⟩ := z.lc; ⟨v, ws, e, r⟩
theorem VRs.l1 {h : Heap} {vs : List Value} {a : AV} (z : VRs h vs [a]) : ∃ v, vs = [v] := let ⟨v, _, e, r⟩ := z.ls; ⟨v, by rw [e, r.l0]⟩
theorem VRs.l2 {h : Heap} {vs : List Value} {a b : AV} (z : VRs h vs [a, b]) : ∃ v w, vs = [v, w] := let ⟨v, _, e, r⟩ := z.ls; let ⟨w, q⟩ := r.l1; ⟨v, w, by rw [e, q]⟩
theorem VRs.l3 {h : Heap} {vs : List Value} {a b c : AV} (z : VRs h vs [a, b, c]) : ∃ v w u, vs = [v, w, u] := let ⟨v, _, e, r⟩ := z.ls; let ⟨w, u, q⟩ := r.l2; ⟨v, w, u, by rw [e, q]⟩
theorem VRs.l4 {h : Heap} {vs : List Value} {a b c d : AV} (z : VRs h vs [a, b, c, d]) : ∃ v w u t, vs = [v, w, u, t] := let ⟨v, _, e, r⟩ := z.ls; let ⟨w, u, t, q⟩ := r.l3; ⟨v, w, u, t, by rw [e, q]⟩
theorem VRs.l5 {h : Heap} {vs : List Value} {a b c d e : AV} (z : VRs h vs [a, b, c, d, e]) : ∃ v w u t y, vs = [v, w, u, t, y] := let ⟨v, _, e, r⟩ := z.ls; let ⟨w, u, t, y, q⟩ := r.l4; ⟨v, w, u, t, y, by rw [e, q]⟩
theorem bB0 {h : Heap} {vs : List Value} {B : List Value → List Value → Prop} (z : VRs h vs []) (f : B [] []) : ∃ ws, VRs h ws [] ∧ B vs ws := by
  obtain rfl := z.l0
  exact ⟨_, z, f⟩
theorem bB1 {h : Heap} {vs : List Value} {a : AV} {B : List Value → List Value → Prop} (z : VRs h vs [a]) (f : ∀ v, B [v] [v]) : ∃ ws, VRs h ws [a] ∧ B vs ws := by
  obtain ⟨v, rfl⟩ := z.l1
  exact ⟨_, z, f v⟩
theorem bB2 {h : Heap} {vs : List Value} {a b : AV} {B : List Value → List Value → Prop} (z : VRs h vs [a, b]) (f : ∀ v w, B [v, w] [v, w]) : ∃ ws, VRs h ws [a, b] ∧ B vs ws := by
  obtain ⟨v, w, rfl⟩ := z.l2
  exact ⟨_, z, f v w⟩
theorem bB3 {h : Heap} {vs : List Value} {a b c : AV} {B : List Value → List Value → Prop} (z : VRs h vs [a, b, c]) (f : ∀ v w u, B [v, w, u] [v, w, u]) : ∃ ws, VRs h ws [a, b, c] ∧ B vs ws := by
  obtain ⟨v, w, u, rfl⟩ := z.l3
  exact ⟨_, z, f v w u⟩
theorem bB4 {h : Heap} {vs : List Value} {a b c d : AV} {B : List Value → List Value → Prop} (z : VRs h vs [a, b, c, d]) (f : ∀ v w u t, B [v, w, u, t] [v, w, u, t]) : ∃ ws, VRs h ws [a, b, c, d] ∧ B vs ws := by
  obtain ⟨v, w, u, t, rfl⟩ := z.l4
  exact ⟨_, z, f v w u t⟩
theorem bB5 {h : Heap} {vs : List Value} {a b c d e : AV} {B : List Value → List Value → Prop} (z : VRs h vs [a, b, c, d, e]) (f : ∀ v w u t y, B [v, w, u, t, y] [v, w, u, t, y]) : ∃ ws, VRs h ws [a, b, c, d, e] ∧ B vs ws := by
  obtain ⟨v, w, u, t, y, rfl⟩ := z.l5
  exact ⟨_, z, f v w u t y⟩
theorem VRs.append {h : Heap} {vs ws : List Value} {ds es : List AV} (z : VRs h vs ds) (y : VRs h ws es) : VRs h (vs ++ ws) (ds ++ es) :=
  VRs.ind (P := fun vs ds => VRs h (vs ++ ws) (ds ++ es)) y (fun a _ p => .cons a p) z
theorem VRs.get {h : Heap} {vs : List Value} {ds : List AV} (z : VRs h vs ds) : ∀ {i : Nat} {d : AV}, ds[i]? = some d → ∃ v, vs[i]? = some v ∧ VR h v d :=
  VRs.ind (P := fun vs ds => ∀ {i : Nat} {d : AV}, ds[i]? = some d → ∃ v, vs[i]? = some v ∧ VR h v d) (fun e => nomatch e)
    (fun a _ p i d e => by
      cases i with
      | zero => exact ⟨_, rfl, Option.some.inj e ▸ a⟩
      | succ i => exact p e) z
theorem VRs.take {h : Heap} {vs : List Value} {ds : List AV} (z : VRs h vs ds) : ∀ n, VRs h (vs.take n) (ds.take n) :=
  VRs.ind (P := fun vs ds => ∀ n, VRs h (vs.take n) (ds.take n)) (fun n => by rw [List.take_nil, List.take_nil]; exact .nil) (fun a _ p n => by
    cases n with
    | zero => exact .nil
    | succ n => exact .cons a (p n)) z
theorem VRs.drop {h : Heap} {vs : List Value} {ds : List AV} (z : VRs h vs ds) : ∀ n, VRs h (vs.drop n) (ds.drop n) :=
  VRs.ind (P := fun vs ds => ∀ n, VRs h (vs.drop n) (ds.drop n)) (fun n => by rw [List.drop_nil, List.drop_nil]; exact .nil) (fun a r p n => by
    cases n with
    | zero => exact .cons a r
    | succ n => exact p n) z
/-- mutable things -/
inductive AObj where
  | inst (C d : Addr) (fs : List (Str × AV))
  | own (a : Addr)
  | list (vs : List AV)
  | dictS (xs : List (Str × AV))
  | dictI (xs : List (Int × AV))
  | dictT (xs : List (List Int × AV))

noncomputable abbrev AH := Addr → Option AObj
noncomputable abbrev XH := Addr → Option Obj
noncomputable abbrev Loc := Str → Option AV
noncomputable def upd (H : AH) (a : Addr) (o : AObj) : AH := fun b => if b = a then some o else H b
theorem upd_same (H : AH) (a : Addr) (o : AObj) : upd H a o a = some o := if_pos rfl
theorem upd_ne {H : AH} {a b : Addr} {o : AObj} (h : b ≠ a) : upd H a o b = H b := if_neg h
noncomputable def setL (ρ : Loc) (x : Str) (v : AV) : Loc := fun y => if y = x then some v else ρ y
theorem setL_same (ρ : Loc) (x : Str) (v : AV) : setL ρ x v x = some v := if_pos rfl
theorem setL_ne {ρ : Loc} {x y : Str} {v : AV} (h : y ≠ x) : setL ρ x v y = ρ y := if_neg h

/-- the ground: the program, its written part, the heap at the call -/
structure Gd (KF : Params → Frag) where
  prog : Program
  w : World
  p : Program
  loose : List Str
  mean : ExcName → Option Value
  mg : Str → Option Value
  mb : Str → Option Value
  hb : Heap
  X : (KF w.params).In hb
  T : Top p loose mean mg mb hb
  lo : sysModules < hb.objs.size

noncomputable abbrev Gd.K {KF : Params → Frag} (g : Gd KF) : Frag := KF g.w.params

inductive FR (h : Heap) : List DictEntry → List (Str × AV) → Prop
  | nil : FR h [] []
  | cons {hs : Int} {x : Str} {t : Tok} {v : Value} {d : AV} {es : List DictEntry} {fs : List (Str × AV)} : VR h v d → FR h es fs → FR h (⟨hs, .str x t, v⟩ :: es) ((x, d) :: fs)
theorem FR.mono {h h' : Heap} (k : TupKeep h h') {es : List DictEntry} {fs : List (Str × AV)} (z : FR h es fs) : FR h' es fs := FR.rec .nil (fun a _ r => .cons (a.mono k) r) z
theorem FR.length {h : Heap} {es : List DictEntry} {fs : List (Str × AV)} (z : FR h es fs) : es.length = fs.length := FR.rec (motive := fun es fs _ => es.length = fs.length) rfl (fun _ _ r => by rw [List.length_cons, List.length_cons, r]) z

inductive OVR (h : Heap) : Option Value → Option AV → Prop
  | none : OVR h .none .none
  | some {v : Value} {d : AV} : VR h v d → OVR h (.some v) (.some d)
theorem OVR.mono {h h' : Heap} (k : TupKeep h h') {v : Option Value} {d : Option AV} (x : OVR h v d) : OVR h' v d := by
  cases x with
  | none => exact .none
  | some a => exact .some (a.mono k)
inductive PR {K : Type} (h : Heap) : List (K × Value) → List (K × AV) → Prop
  | nil : PR h [] []
  | cons {k : K} {v : Value} {d : AV} {ys : List (K × Value)} {xs : List (K × AV)} : VR h v d → PR h ys xs → PR h ((k, v) :: ys) ((k, d) :: xs)
theorem PR.mono {K : Type} {h h' : Heap} (k : TupKeep h h') {ys : List (K × Value)} {xs : List (K × AV)} (z : PR h ys xs) : PR h' ys xs := PR.rec .nil (fun a _ r => .cons (a.mono k) r) z
inductive TR (h : Heap) : List (List Int × Addr × Value) → List (List Int × AV) → Prop
  | nil : TR h [] []
  | cons {k : List Int} {a : Addr} {v : Value} {d : AV} {ys : List (List Int × Addr × Value)} {xs : List (List Int × AV)} : VR h v d → TR h ys xs → TR h ((k, a, v) :: ys) ((k, d) :: xs)
theorem TR.mono {h h' : Heap} (k : TupKeep h h') {ys : List (List Int × Addr × Value)} {xs : List (List Int × AV)} (z : TR h ys xs) : TR h' ys xs := TR.rec .nil (fun a _ r => .cons (a.mono k) r) z

noncomputable def OK {KF : Params → Frag} (g : Gd KF) (h : Heap) (H : AH) (a : Addr) : AObj → Prop
  | .inst C d fs => h.get? a = some (instObj C d) ∧ (∃ es n, h.get? d = some (dictOf es n) ∧ FR h es fs) ∧ H d = some (.own a)
  | .own b => ∃ C fs, H b = some (.inst C a fs)
  | .list vs => ∃ its n, h.get? a = some (listOf its.toArray n) ∧ VRs h its vs
  | .dictS xs => ∃ ys, h.DictOf (strKind g.prog g.w) a ys ∧ PR h ys xs
  | .dictI xs => ∃ ys, h.DictOf (intKind g.prog g.w) a ys ∧ PR h ys xs
  | .dictT xs => ∃ ys, h.DictOfH (tupleKind (intKind g.prog g.w)) a ys ∧ TR h ys xs

structure Rep0 {KF : Params → Frag} (g : Gd KF) (h : Heap) (H : AH) (X : XH) : Prop where
  keep : ∀ b o, g.hb.get? b = some o → h.get? b = some o
  size : g.hb.objs.size ≤ h.objs.size
  obj : ∀ a x, H a = some x → g.hb.objs.size ≤ a ∧ OK g h H a x
  ext : ∀ a o, X a = some o → h.get? a = some o ∧ H a = none ∧ g.hb.objs.size ≤ a

/-- a name's value: by the frame's dict, or by its cell -/
noncomputable def LocR (h : Heap) (m : Str → Option Value) (cl : List (Str × Addr)) (ρ : Loc) : Prop :=
  ∀ x d, ρ x = some d → match cl.lookup x with
    | none => ∃ v, m x = some v ∧ VR h v d
    | some c => ∃ v, h.IsCell c (some v) ∧ VR h v d

structure FrR {KF : Params → Frag} (g : Gd KF) (env : Env) (h : Heap) (ρ : Loc) (H : AH) (X : XH) : Prop where
  ns : ∃ m, h.Ns env.locals m ∧ LocR h m env.cells ρ
  nL : g.hb.objs.size ≤ env.locals ∧ H env.locals = none ∧ X env.locals = none
  cl : ∀ x c, env.cells.lookup x = some c → g.hb.objs.size ≤ c ∧ H c = none ∧ (env.func ≠ none → X c = none) ∧ c ≠ env.locals ∧ ∃ v, h.IsCell c v
  inj : ∀ x y c, env.cells.lookup x = some c → env.cells.lookup y = some c → x = y

structure Rep {KF : Params → Frag} (g : Gd KF) (env : Env) (h : Heap) (ρ : Loc) (H : AH) (X : XH) : Prop where
  o : Rep0 g h H X
  f : FrR g env h ρ H X

structure Step (s s' : Shared) : Prop where
  eq : s' = { s with heap := s'.heap, toks := s'.toks }
  tup : TupKeep s.heap s'.heap
theorem Step.refl (s : Shared) : Step s s := ⟨rfl, .refl _⟩
theorem Step.trans {s₁ s₂ s₃ : Shared} (x : Step s₁ s₂) (y : Step s₂ s₃) : Step s₁ s₃ := ⟨by rw [y.eq, x.eq], x.tup.trans y.tup⟩
theorem Step.tok (s : Shared) (t : Nat) : Step s { s with toks := t } := ⟨rfl, .refl _⟩
theorem Step.heap (s : Shared) {h : Heap} {t : Nat} (k : TupKeep s.heap h) (z : s.heap.objs.size ≤ h.objs.size) : Step s { s with heap := h, toks := t } := ⟨rfl, k⟩
theorem Step.heap' (s : Shared) {h : Heap} {t : Nat} (k : TupKeep s.heap h) : Step s { s with heap := h, toks := t } := ⟨rfl, k⟩

/-- where a frame's body runs -/
structure Cx where
  A : Around
  env : Env

/-- what an end must tell; what a raise must tell -/
noncomputable abbrev Qs {KF : Params → Frag} (g : Gd KF) (c : Cx) {α β : Type} (V : Heap → α → β → Prop) (X : XH) (s : Shared) (k : β → Loc → AH → Prop) (Q : α → Shared → Prop) : Prop :=
  ∀ v b s' ρ' H', Step s s' → Rep g c.env s'.heap ρ' H' X → V s'.heap v b → k b ρ' H' → Q v s'
noncomputable abbrev Es {KF : Params → Frag} (g : Gd KF) (c : Cx) (X : XH) (s : Shared) (x : AV → Loc → AH → Prop) (E : Value → Shared → Prop) : Prop :=
  ∀ e b s' ρ' H', Step s s' → Rep g c.env s'.heap ρ' H' X → VR s'.heap e b → x b ρ' H' → E e s'
theorem Qs.step {KF : Params → Frag} {g : Gd KF} {c : Cx} {α β : Type} {V : Heap → α → β → Prop} {X : XH} {s s₁ : Shared} {k : β → Loc → AH → Prop} {Q : α → Shared → Prop} (q : Qs g c V X s k Q) (st : Step s s₁) : Qs g c V X s₁ k Q :=
  fun v b s' ρ' H' st' => q v b s' ρ' H' (st.trans st')
theorem Es.step {KF : Params → Frag} {g : Gd KF} {c : Cx} {X : XH} {s s₁ : Shared} {x : AV → Loc → AH → Prop} {E : Value → Shared → Prop} (q : Es g c X s x E) (st : Step s s₁) : Es g c X s₁ x E :=
  fun v b s' ρ' H' st' => q v b s' ρ' H' (st.trans st')
/-- whatever heap stands for ρ and H, the tree t runs to an end that k tells (or raises what x tells) -/
noncomputable def Tri {KF : Params → Frag} (g : Gd KF) (c : Cx) {α β : Type} (V : Heap → α → β → Prop) (t : Sem α) (ρ : Loc) (H : AH) (k : β → Loc → AH → Prop) (x : AV → Loc → AH → Prop) : Prop :=
  ∀ (s : Shared) (X : XH) (Q : α → Shared → Prop) (E : Value → Shared → Prop), Rep g c.env s.heap ρ H X → Qs g c V X s k Q → Es g c X s x E →
    wpAny (model g.prog g.w) c.A t Q E s

theorem Tri.mono {KF : Params → Frag} {g : Gd KF} {c : Cx} {α β : Type} {V : Heap → α → β → Prop} {t : Sem α} {ρ : Loc} {H : AH} {k k' : β → Loc → AH → Prop} {x x' : AV → Loc → AH → Prop}
    (h : Tri g c V t ρ H k x) (hk : ∀ b ρ' H', k b ρ' H' → k' b ρ' H') (hx : ∀ b ρ' H', x b ρ' H' → x' b ρ' H') : Tri g c V t ρ H k' x' :=
  fun s X Q E R q e => h s X Q E R (fun v b s' ρ' H' st R' hv kk => q v b s' ρ' H' st R' hv (hk _ _ _ kk)) fun v b s' ρ' H' st R' hv kk => e v b s' ρ' H' st R' hv (hx _ _ _ kk)

noncomputable abbrev Ev {KF : Params → Frag} (g : Gd KF) (c : Cx) (e : Expr) := Tri g c VR (eval e c.env)
/-- a test -/
noncomputable def BR (_ : Heap) (a b : Bool) : Prop := a = b
noncomputable abbrev Ts {KF : Params → Frag} (g : Gd KF) (c : Cx) (e : Expr) := Tri g c BR (isTrue e c.env (eval e c.env))

inductive AF where
  | next | brk | cont
  | ret (v : AV)
inductive FlR (h : Heap) : Flow → AF → Prop
  | next : FlR h .next .next
  | brk : FlR h .brk .brk
  | cont : FlR h .cont .cont
  | ret {v : Value} {d : AV} : VR h v d → FlR h (.ret v) (.ret d)
noncomputable abbrev Ex {KF : Params → Frag} (g : Gd KF) (c : Cx) (st : Stmt) := Tri g c FlR (exec st c.env)
noncomputable abbrev Exs {KF : Params → Frag} (g : Gd KF) (c : Cx) (st : List Stmt) := Tri g c FlR (execs st c.env)

/-- an operation upon values -/
noncomputable def Op1 {KF : Params → Frag} (g : Gd KF) (c : Cx) {α β : Type} (V : Heap → α → β → Prop) (f : Value → Sem α) (a : AV) (ρ : Loc) (H : AH) (k : β → Loc → AH → Prop) (x : AV → Loc → AH → Prop) : Prop :=
  ∀ (s : Shared) (X : XH) (Q : α → Shared → Prop) (E : Value → Shared → Prop) (va : Value), Rep g c.env s.heap ρ H X → VR s.heap va a →
    Qs g c V X s k Q → Es g c X s x E →
    wpAny (model g.prog g.w) c.A (f va) Q E s
noncomputable def OpL {KF : Params → Frag} (g : Gd KF) (c : Cx) {α β : Type} (V : Heap → α → β → Prop) (f : List Value → Sem α) (as : List AV) (ρ : Loc) (H : AH) (k : β → Loc → AH → Prop) (x : AV → Loc → AH → Prop) : Prop :=
  ∀ (s : Shared) (X : XH) (Q : α → Shared → Prop) (E : Value → Shared → Prop) (vs : List Value), Rep g c.env s.heap ρ H X → VRs s.heap vs as →
    Qs g c V X s k Q → Es g c X s x E →
    wpAny (model g.prog g.w) c.A (f vs) Q E s
noncomputable def Op2 {KF : Params → Frag} (g : Gd KF) (c : Cx) {α β : Type} (V : Heap → α → β → Prop) (f : Value → Value → Sem α) (a b : AV) (ρ : Loc) (H : AH) (k : β → Loc → AH → Prop) (x : AV → Loc → AH → Prop) : Prop :=
  ∀ (s : Shared) (X : XH) (Q : α → Shared → Prop) (E : Value → Shared → Prop) (va vb : Value), Rep g c.env s.heap ρ H X → VR s.heap va a → VR s.heap vb b →
    Qs g c V X s k Q → Es g c X s x E →
    wpAny (model g.prog g.w) c.A (f va vb) Q E s

end Mine
end

section
open PySem PySem.W PyProof.Rows
set_option Elab.async false
set_option genSizeOf false
set_option linter.unusedVariables false
namespace Mine
section
variable {KF : Params → Frag} {g : Gd KF} {c : Cx} {ρ : Loc} {H : AH} {k : AV → Loc → AH → Prop} {kb : Bool → Loc → AH → Prop} {x : AV → Loc → AH → Prop}

theorem Ev.cint {i : Int} {kd : Nat} {pos : Pos} (h : k (.int i) ρ H) : Ev g c (.Constant (.int i) kd pos) ρ H k x :=
  fun s _ _ _ R q _ => wpAny_Constant_int (q _ _ _ _ _ (Step.tok s _) R (.int _ _) h)
theorem Ev.cstr {y : Str} {kd : Nat} {pos : Pos} (h : k (.str y) ρ H) : Ev g c (.Constant (.str y) kd pos) ρ H k x :=
  fun s _ _ _ R q _ => wpAny_Constant_str (q _ _ _ _ _ (Step.tok s _) R (.str _ _) h)
theorem Ev.cbool {b : Bool} {kd : Nat} {pos : Pos} (h : k (.bool b) ρ H) : Ev g c (.Constant (.bool b) kd pos) ρ H k x :=
  fun s _ _ _ R q _ => wpAny_Constant_bool (q _ _ _ _ _ (Step.refl s) R (.bool _) h)
theorem Ev.cnone {kd : Nat} {pos : Pos} (h : k .none ρ H) : Ev g c (.Constant .none kd pos) ρ H k x :=
  fun s _ _ _ R q _ => wpAny_Constant_none (q _ _ _ _ _ (Step.refl s) R .none h)

theorem Ev.binop {l r : Expr} {op : Operator} {pos : Pos} (h : Ev g c l ρ H (fun a ρ₁ H₁ => Ev g c r ρ₁ H₁ (fun b ρ₂ H₂ => Op2 g c VR (binaryOp op) a b ρ₂ H₂ k x) x) x) :
    Ev g c (.BinOp l op r pos) ρ H k x := fun s X Q E R q e =>
  wpAny_BinOp (h s X _ _ R (fun a a' s₁ ρ₁ H₁ st₁ R₁ va h₁ => h₁ s₁ X _ _ R₁ (fun b b' s₂ ρ₂ H₂ st₂ R₂ vb h₂ =>
    h₂ s₂ X _ _ a b R₂ (va.mono st₂.tup) vb (q.step (st₁.trans st₂)) (e.step (st₁.trans st₂))) (e.step st₁)) e)
theorem Ev.compare1 {l r : Expr} {op : CmpOp} {pos : Pos} (h : Ev g c l ρ H (fun a ρ₁ H₁ => Ev g c r ρ₁ H₁ (fun b ρ₂ H₂ => Op2 g c VR (compareOp op) a b ρ₂ H₂ k x) x) x)
    (hm : behindInMarks op r = false := by kernel_rfl) :
    Ev g c (.Compare l [op] [r] pos) ρ H k x := fun s X Q E R q e =>
  wpAny_Compare1 (h s X _ _ R (fun a a' s₁ ρ₁ H₁ st₁ R₁ va h₁ => h₁ s₁ X _ _ R₁ (fun b b' s₂ ρ₂ H₂ st₂ R₂ vb h₂ =>
    h₂ s₂ X _ _ a b R₂ (va.mono st₂.tup) vb (q.step (st₁.trans st₂)) (e.step (st₁.trans st₂))) (e.step st₁)) e) hm
theorem Ev.unaryop {y : Expr} {op : UnaryOp} {pos : Pos} (h : Ev g c y ρ H (fun a ρ₁ H₁ => Op1 g c VR (unaryOp op) a ρ₁ H₁ k x) x) :
    Ev g c (.UnaryOp op y pos) ρ H k x := fun s X Q E R q e =>
  wpAny_UnaryOp (h s X _ _ R (fun a a' s₁ ρ₁ H₁ st₁ R₁ va h₁ => h₁ s₁ X _ _ a R₁ va (q.step st₁) (e.step st₁)) e)
theorem Ev.ifexp {t a b : Expr} {pos : Pos} (h : Ts g c t ρ H (fun v ρ₁ H₁ => if v = true then Ev g c a ρ₁ H₁ k x else Ev g c b ρ₁ H₁ k x) x) :
    Ev g c (.IfExp t a b pos) ρ H k x := fun s X Q E R q e =>
  wpAny_IfExp (h s X _ _ R (fun v b s₁ ρ₁ H₁ st₁ R₁ hv h₁ => by
    subst hv
    split at h₁ <;> rename_i hb
    · rw [if_pos hb]; exact h₁ s₁ X _ _ R₁ (q.step st₁) (e.step st₁)
    · rw [if_neg hb]; exact h₁ s₁ X _ _ R₁ (q.step st₁) (e.step st₁)) e)
/-- and | or, value by value -/
noncomputable def EvB {KF : Params → Frag} (g : Gd KF) (c : Cx) (op : BoolOp) : List Expr → Loc → AH → (AV → Loc → AH → Prop) → (AV → Loc → AH → Prop) → Prop
  | [], _, _, _, _ => False
  | [e], ρ, H, k, x => Ev g c e ρ H k x
  | e :: e' :: es, ρ, H, k, x => Ev g c e ρ H (fun u ρ₁ H₁ => Op1 g c BR truthy u ρ₁ H₁ (fun t ρ₂ H₂ => if t = (op == .Or) then k u ρ₂ H₂ else EvB g c op (e' :: es) ρ₂ H₂ k x) x) x
theorem Ev.boolop {op : BoolOp} {es : List Expr} {pos : Pos} : ∀ {ρ : Loc} {H : AH}, EvB g c op es ρ H k x → Ev g c (.BoolOp op es pos) ρ H k x := by
  intro ρ H h
  have key : ∀ (es : List Expr) (ρ : Loc) (H : AH), EvB g c op es ρ H k x → Tri g c VR (boolOp pos op (evalEach es c.env)) ρ H k x := by
    intro es
    induction es with
    | nil => intro _ _ h; exact h.elim
    | cons a es ih =>
      cases es with
      | nil => intro ρ H h; exact h
      | cons b es =>
        intro ρ H h s X Q E R q e
        refine wpAny_bind (h s X _ _ R (fun v u s₁ ρ₁ H₁ st₁ R₁ hv h₁ => ?_) e)
        refine wpAny_bind (wpAny_standAt (wpAny_bind (wpAny_holding (h₁ s₁ X _ _ v R₁ hv (fun t t' s₂ ρ₂ H₂ st₂ R₂ ht h₂ => ?_) (e.step st₁)))))
        (first | obtain ⟨_, rfl⟩ := ht.strI | obtain ⟨_, rfl⟩ := ht.intI | obtain rfl := ht.boolI | obtain rfl := ht.noneI | cases ht)
        have fin : t = (op == .Or) → wpAny (model g.prog g.w) c.A (pure v) Q E s₂ := fun e' => by
          rw [if_pos e'] at h₂
          exact wpAny_pure (q _ _ _ _ _ (st₁.trans st₂) R₂ (hv.mono st₂.tup) h₂)
        have go : t ≠ (op == .Or) → wpAny (model g.prog g.w) c.A (boolOp pos op (evalEach (b :: es) c.env)) Q E s₂ := fun e' => by
          rw [if_neg e'] at h₂
          exact ih _ _ h₂ s₂ X _ _ R₂ (q.step (st₁.trans st₂)) (e.step (st₁.trans st₂))
        cases op <;> cases t
        · exact fin rfl
        · exact go (by decide)
        · exact go (by decide)
        · exact fin rfl
  exact key es ρ H h

theorem Ts.value {e : Expr} (h : Ev g c e ρ H (fun u ρ₁ H₁ => Op1 g c BR truthy u ρ₁ H₁ kb x) x)
    (he : ∀ whole, isTrue e c.env whole = (do let v ← whole; standAt e.pos; holding [v] (truthy v)) := by intro _; rfl) : Ts g c e ρ H kb x := fun s X Q E R q er =>
  wpAny_isTrue_value (h s X _ _ R (fun v u s₁ ρ₁ H₁ st₁ R₁ hv h₁ => h₁ s₁ X _ _ v R₁ hv (q.step st₁) (er.step st₁)) er) (he _)
theorem Ts.compare1 {l r : Expr} {op : CmpOp} {pos : Pos} (h : Ev g c l ρ H (fun a ρ₁ H₁ => Ev g c r ρ₁ H₁ (fun b ρ₂ H₂ => Op2 g c VR (compareOp op) a b ρ₂ H₂ (fun u ρ₃ H₃ => Op1 g c BR truthy u ρ₃ H₃ kb x) x) x) x)
    (hm : behindInMarks op r = false := by kernel_rfl) :
    Ts g c (.Compare l [op] [r] pos) ρ H kb x := fun s X Q E R q e =>
  wpAny_isTrue_Compare1 (h s X _ _ R (fun a a' s₁ ρ₁ H₁ st₁ R₁ va h₁ => h₁ s₁ X _ _ R₁ (fun b b' s₂ ρ₂ H₂ st₂ R₂ vb h₂ =>
    h₂ s₂ X _ _ a b R₂ (va.mono st₂.tup) vb (fun u u' s₃ ρ₃ H₃ st₃ R₃ vu h₃ => h₃ s₃ X _ _ u R₃ vu (q.step ((st₁.trans st₂).trans st₃)) (e.step ((st₁.trans st₂).trans st₃))) (e.step (st₁.trans st₂))) (e.step st₁)) e) hm
theorem Ts.not {y : Expr} {pos : Pos} (h : Ts g c y ρ H (fun b ρ₁ H₁ => kb (!b) ρ₁ H₁) x) : Ts g c (.UnaryOp .Not y pos) ρ H kb x := fun s X Q E R q e =>
  wpAny_isTrue_Not (h s X _ _ R (fun v b s₁ ρ₁ H₁ st₁ R₁ hv h₁ => by (first | obtain ⟨_, rfl⟩ := hv.strI | obtain ⟨_, rfl⟩ := hv.intI | obtain rfl := hv.boolI | obtain rfl := hv.noneI | cases hv); exact q _ _ _ _ _ st₁ R₁ rfl h₁) e)

noncomputable def TsA {KF : Params → Frag} (g : Gd KF) (c : Cx) (op : BoolOp) : List Expr → Loc → AH → (Bool → Loc → AH → Prop) → (AV → Loc → AH → Prop) → Prop
  | [], ρ, H, kb, _ => kb (op == .And) ρ H
  | e :: es, ρ, H, kb, x => Ts g c e ρ H (fun b ρ₁ H₁ => if b = (op == .Or) then kb b ρ₁ H₁ else TsA g c op es ρ₁ H₁ kb x) x
theorem Ts.boolop {op : BoolOp} {es : List Expr} {pos : Pos} (h : TsA g c op es ρ H kb x) : Ts g c (.BoolOp op es pos) ρ H kb x := by
  have key : ∀ (es : List Expr) (ρ : Loc) (H : AH), TsA g c op es ρ H kb x → Tri g c BR (allTrue op es c.env) ρ H kb x := by
    intro es
    induction es with
    | nil =>
      intro ρ H h s X Q E R q e
      exact wpAny_pure (q _ _ _ _ _ (Step.refl s) R rfl h)
    | cons a es ih =>
      intro ρ H h s X Q E R q e
      cases op with
      | And =>
        refine wpAny_allTrue_And_cons (h s X _ _ R (fun v b s₁ ρ₁ H₁ st₁ R₁ hv h₁ => ?_) e)
        (first | obtain ⟨_, rfl⟩ := hv.strI | obtain ⟨_, rfl⟩ := hv.intI | obtain rfl := hv.boolI | obtain rfl := hv.noneI | cases hv)
        cases v
        · exact q _ _ _ _ _ st₁ R₁ rfl h₁
        · exact ih _ _ h₁ s₁ X _ _ R₁ (q.step st₁) (e.step st₁)
      | Or =>
        refine wpAny_allTrue_Or_cons (h s X _ _ R (fun v b s₁ ρ₁ H₁ st₁ R₁ hv h₁ => ?_) e)
        (first | obtain ⟨_, rfl⟩ := hv.strI | obtain ⟨_, rfl⟩ := hv.intI | obtain rfl := hv.boolI | obtain rfl := hv.noneI | cases hv)
        cases v
        · exact ih _ _ h₁ s₁ X _ _ R₁ (q.step st₁) (e.step st₁)
        · exact q _ _ _ _ _ st₁ R₁ rfl h₁
  exact fun s X Q E R q e => wpAny_isTrue_BoolOp (key es ρ H h s X Q E R q e)

theorem EvB.one {op : BoolOp} {e : Expr} (h : Ev g c e ρ H k x) : EvB g c op [e] ρ H k x := h
theorem EvB.and {e e' : Expr} {es : List Expr} (h : Ev g c e ρ H (fun u ρ₁ H₁ => Op1 g c BR truthy u ρ₁ H₁ (fun t ρ₂ H₂ => if t = true then EvB g c .And (e' :: es) ρ₂ H₂ k x else k u ρ₂ H₂) x) x) : EvB g c .And (e :: e' :: es) ρ H k x := by
  unfold EvB
  refine Tri.mono h (fun u ρ₁ H₁ h₁ => fun s X Q E v R hv q er => h₁ s X Q E v R hv (fun t t' s' ρ' H' st R' ht hk => q t t' s' ρ' H' st R' ht ?_) er) fun _ _ _ h => h
  cases t' with
  | true => exact hk
  | false => exact hk
theorem EvB.or {e e' : Expr} {es : List Expr} (h : Ev g c e ρ H (fun u ρ₁ H₁ => Op1 g c BR truthy u ρ₁ H₁ (fun t ρ₂ H₂ => if t = true then k u ρ₂ H₂ else EvB g c .Or (e' :: es) ρ₂ H₂ k x) x) x) : EvB g c .Or (e :: e' :: es) ρ H k x := by
  unfold EvB
  refine Tri.mono h (fun u ρ₁ H₁ h₁ => fun s X Q E v R hv q er => h₁ s X Q E v R hv (fun t t' s' ρ' H' st R' ht hk => q t t' s' ρ' H' st R' ht ?_) er) fun _ _ _ h => h
  cases t' with
  | true => exact hk
  | false => exact hk
theorem TsA.nilA (h : kb true ρ H) : TsA g c .And [] ρ H kb x := h
theorem TsA.nilO (h : kb false ρ H) : TsA g c .Or [] ρ H kb x := h
theorem TsA.and {e : Expr} {es : List Expr} (h : Ts g c e ρ H (fun b ρ₁ H₁ => if b = true then TsA g c .And es ρ₁ H₁ kb x else kb false ρ₁ H₁) x) : TsA g c .And (e :: es) ρ H kb x := by
  unfold TsA
  refine Tri.mono h (fun b ρ₁ H₁ h₁ => ?_) fun _ _ _ h => h
  cases b with
  | true => exact h₁
  | false => exact h₁
theorem TsA.or {e : Expr} {es : List Expr} (h : Ts g c e ρ H (fun b ρ₁ H₁ => if b = true then kb true ρ₁ H₁ else TsA g c .Or es ρ₁ H₁ kb x) x) : TsA g c .Or (e :: es) ρ H kb x := by
  unfold TsA
  refine Tri.mono h (fun b ρ₁ H₁ h₁ => ?_) fun _ _ _ h => h
  cases b with
  | true => exact h₁
  | false => exact h₁

/-- operations upon plain values -/
theorem Op1.truthy_bool {b : Bool} (h : kb b ρ H) : Op1 g c BR truthy (.bool b) ρ H kb x := fun s X Q E va R hv q e => by
  (first | obtain ⟨_, rfl⟩ := hv.strI | obtain ⟨_, rfl⟩ := hv.intI | obtain rfl := hv.boolI | obtain rfl := hv.noneI | cases hv)
  exact wpAny_truthy_bool (q _ _ _ _ _ (Step.refl s) R rfl h)
end
end Mine
end

section
open PySem PySem.W PyProof.Rows
set_option Elab.async false
set_option genSizeOf false
set_option linter.unusedVariables false
namespace Mine
section
variable {KF : Params → Frag} {g : Gd KF} {c : Cx} {ρ : Loc} {H : AH} {X : XH} {k : AV → Loc → AH → Prop} {kb : Bool → Loc → AH → Prop} {x : AV → Loc → AH → Prop}

theorem Rep.fr {env : Env} {h : Heap} (R : Rep g env h ρ H X) : ∃ m, Fr g.hb env.locals h m ∧ LocR h m env.cells ρ :=
  let ⟨m, hn, hl⟩ := R.f.ns
  ⟨m, ⟨hn, R.o.keep, R.f.nL.1⟩, hl⟩
theorem Rep.K {env : Env} {h : Heap} (R : Rep g env h ρ H X) : (KF g.w.params).In h := g.X.keeps R.o.keep

theorem Ev.local {y : Str} {pos : Pos} {v : AV} (hv : ρ y = some v) (h : k v ρ H) (hc : c.env.cells.lookup y = none := by kernel_rfl)
    (hk : c.env.scope.kind = .function := by kernel_rfl) (hx : c.env.kindOf y = some .local := by kernel_rfl) (hd : (y == ("__debug__" : Str)) = false := by kernel_rfl) : Ev g c (.Name y pos) ρ H k x := fun s X Q E R q e => by
  obtain ⟨m, hn, hl⟩ := R.f.ns
  have z := hl y v hv
  rw [hc] at z
  obtain ⟨cv, hm, hr⟩ := z
  exact wpAny_Name (wpAny_loadName_local hk hx hn hm (q _ _ _ _ _ (Step.refl s) R hr h)) hd
theorem Ev.cell {y : Str} {pos : Pos} {v : AV} {a : Addr} (hv : ρ y = some v) (h : k v ρ H) (hc : c.env.cells.lookup y = some a := by kernel_rfl)
    (hk : c.env.scope.kind = .function := by kernel_rfl) (hx : c.env.kindOf y = some .cell := by kernel_rfl) (hd : (y == ("__debug__" : Str)) = false := by kernel_rfl) : Ev g c (.Name y pos) ρ H k x := fun s X Q E R q e => by
  obtain ⟨m, hn, hl⟩ := R.f.ns
  have z := hl y v hv
  rw [hc] at z
  obtain ⟨cv, hm, hr⟩ := z
  exact wpAny_Name (wpAny_loadName_cell hk hx hc hm (q _ _ _ _ _ (Step.refl s) R hr h)) hd
/-- a value of the ground -/
noncomputable def GV {KF : Params → Frag} (g : Gd KF) (v : Value) (d : AV) : Prop := ∀ h : Heap, (∀ b o, g.hb.get? b = some o → h.get? b = some o) → VR h v d
theorem Ev.global {y : Str} {pos : Pos} {v : Value} {d : AV} (e : nsIn (KF g.w.params) mainGlobals y = some (some v)) (hv : GV g v d) (h : k d ρ H)
    (hg : c.env.globals = mainGlobals := by kernel_rfl) (hk : c.env.scope.kind = .function := by kernel_rfl) (hx : c.env.kindOf y = some .globalImplicit := by kernel_rfl) (hd : (y == ("__debug__" : Str)) = false := by kernel_rfl) :
    Ev g c (.Name y pos) ρ H k x := fun s X Q E R q er => by
  obtain ⟨m, F, hl⟩ := R.fr
  exact nameG_K F g.X (topRead_of g.T) e (q _ _ _ _ _ (Step.refl s) R (hv _ R.o.keep) h) hg hk hx hd
theorem Ev.builtin {y : Str} {pos : Pos} {v : Value} {d : AV} (e : nsIn (KF g.w.params) mainGlobals y = some none) (hb : bootBuiltins y = some v) (hv : ∀ h, VR h v d) (h : k d ρ H) (hn : (y == ("__name__" : Str)) = false := by kernel_rfl)
    (hg : c.env.globals = mainGlobals := by kernel_rfl) (hbu : c.env.builtins = builtinsNs := by kernel_rfl) (hk : c.env.scope.kind = .function := by kernel_rfl) (hx : c.env.kindOf y = some .globalImplicit := by kernel_rfl) (hd : (y == ("__debug__" : Str)) = false := by kernel_rfl) :
    Ev g c (.Name y pos) ρ H k x := fun s X Q E R q er =>
  Calls.Name_function_global hk hx (Calls.loadGlobal_builtin (env := c.env) (by rw [hg]; exact g.T.g.keeps R.o.keep) (mg_none_of g.X g.T.g e) (by rw [hbu]; exact g.T.b.keeps R.o.keep) ((g.T.builtins y (beq_eq_false_iff_ne.mp hn)).trans hb)
    (q _ _ _ _ _ (Step.refl s) R (hv _) h)) hd


noncomputable def insOf : AObj → Option (Addr × Addr)
  | .inst C d _ => some (C, d)
  | _ => none
noncomputable def ownOf : AObj → Option Addr
  | .own a => some a
  | _ => none
theorem own_of {o : AObj} {a : Addr} (h : ownOf o = some a) : o = .own a := by
  cases o <;> first | cases h; rfl | cases h
theorem inst_of {o : AObj} {C d : Addr} (h : insOf o = some (C, d)) : ∃ fs, o = .inst C d fs := by
  cases o <;> first | cases h; exact ⟨_, rfl⟩ | cases h

theorem DictOfH.keeps {h h' : Heap} {a : Addr} {ys : List (List Int × Addr × Value)} (z : h.DictOfH (tupleKind (intKind g.prog g.w)) a ys) (kp : TupKeep h h') (ka : ∀ o, h.get? a = some o → h'.get? a = some o) :
    h'.DictOfH (tupleKind (intKind g.prog g.w)) a ys := by
  obtain ⟨o, es, ep, h1, h2, h3, h4, h5, h6⟩ := z
  refine ⟨o, es, ep, ka _ h1, h2, h3, h4, fun y hy => ?_, h6⟩
  obtain ⟨o', its, n, q1, q2, q3, q4⟩ := h5 y hy
  exact ⟨o', its, n, kp _ _ _ _ q1 q2 q3, q2, q3, q4⟩
theorem DictOf.keeps {K : Type} [DecidableEq K] {knd : KeyKind g.prog g.w K} {h h' : Heap} {a : Addr} {f : List (K × Value)} (z : h.DictOf knd a f) (ka : ∀ o, h.get? a = some o → h'.get? a = some o) : h'.DictOf knd a f :=
  let ⟨o, es, ep, h1, r⟩ := z
  ⟨o, es, ep, ka _ h1, r⟩

theorem OK.keep {h h' : Heap} {a : Addr} {o : AObj} (z : OK g h H a o) (kp : TupKeep h h') (ka : ∀ b ob, (b = a ∨ H b = some (.own a)) → ownOf o = Option.none → h.get? b = some ob → h'.get? b = some ob) : OK g h' H a o := by
  cases o with
  | inst C d fs =>
    obtain ⟨h1, ⟨es, n, h2, h3⟩, h4⟩ := z
    exact ⟨ka _ _ (.inl rfl) rfl h1, ⟨es, n, ka _ _ (.inr h4) rfl h2, h3.mono kp⟩, h4⟩
  | own b => exact z
  | list vs =>
    obtain ⟨its, n, h1, h2⟩ := z
    exact ⟨its, n, ka _ _ (.inl rfl) rfl h1, h2.mono kp⟩
  | dictS f =>
    obtain ⟨cf, h1, h2⟩ := z
    exact ⟨cf, DictOf.keeps h1 fun o => ka _ _ (.inl rfl) rfl, h2.mono kp⟩
  | dictI f =>
    obtain ⟨cf, h1, h2⟩ := z
    exact ⟨cf, DictOf.keeps h1 fun o => ka _ _ (.inl rfl) rfl, h2.mono kp⟩
  | dictT xs =>
    obtain ⟨ys, h1, h2⟩ := z
    exact ⟨ys, DictOfH.keeps h1 kp fun o => ka _ _ (.inl rfl) rfl, h2.mono kp⟩

theorem OK.upd {h : Heap} {a b : Addr} {o o₀ o' : AObj} (z : OK g h H b o) (hH : H a = some o₀) (hi : insOf o' = insOf o₀) (ho : ownOf o' = ownOf o₀) : OK g h (upd H a o') b o := by
  cases o with
  | inst C d fs =>
    obtain ⟨h1, h2, h4⟩ := z
    refine ⟨h1, h2, ?_⟩
    by_cases q : d = a
    · rw [q, hH] at h4
      rw [q, upd_same]
      exact congrArg some (own_of (ho.trans (congrArg ownOf (Option.some.inj h4))))
    · rw [upd_ne q]; exact h4
  | own b' =>
    obtain ⟨C, fs, h1⟩ := z
    by_cases q : b' = a
    · rw [q, hH] at h1
      obtain ⟨fs', e⟩ := inst_of (hi.trans (congrArg insOf (Option.some.inj h1)))
      exact ⟨C, fs', by rw [q, upd_same, e]⟩
    · exact ⟨C, fs, (upd_ne q).trans h1⟩
  | list vs => exact z
  | dictS f => exact z
  | dictI f => exact z
  | dictT xs => exact z
theorem OK.new {h : Heap} {a b : Addr} {o o' : AObj} (z : OK g h H b o) (hH : H a = Option.none) : OK g h (Mine.upd H a o') b o := by
  cases o with
  | inst C d fs =>
    obtain ⟨h1, h2, h4⟩ := z
    exact ⟨h1, h2, (upd_ne fun q => by rw [q, hH] at h4; cases h4).trans h4⟩
  | own b' =>
    obtain ⟨C, fs, h1⟩ := z
    exact ⟨C, fs, (upd_ne fun q => by rw [q, hH] at h1; cases h1).trans h1⟩
  | list vs => exact z
  | dictS f => exact z
  | dictI f => exact z
  | dictT xs => exact z

theorem OK.there {h : Heap} {a : Addr} {o : AObj} (z : OK g h H a o) (ho : ownOf o = Option.none) : ∃ ob, h.get? a = some ob ∧ ob.cls ≠ .type "tuple" := by
  cases o with
  | inst C d fs => exact ⟨_, z.1, by intro h; cases h⟩
  | own b => cases ho
  | list vs => obtain ⟨its, n, h1, _⟩ := z; exact ⟨_, h1, by simp⟩
  | dictS f => obtain ⟨cf, ⟨o, es, ep, h1, h2, _⟩, _⟩ := z; exact ⟨o, h1, by rw [h2.1]; simp⟩
  | dictI f => obtain ⟨cf, ⟨o, es, ep, h1, h2, _⟩, _⟩ := z; exact ⟨o, h1, by rw [h2.1]; simp⟩
  | dictT xs => obtain ⟨ys, ⟨o, es, ep, h1, h2, _⟩, _⟩ := z; exact ⟨o, h1, by rw [h2.1]; simp⟩
theorem Rep0.there {h : Heap} (R : Rep0 g h H X) {a : Addr} {o : AObj} (e : H a = some o) : ∃ ob, h.get? a = some ob ∧ ob.cls ≠ .type "tuple" := by
  have z := (R.obj a o e).2
  cases o with
  | own b =>
    obtain ⟨C, fs, h1⟩ := z
    obtain ⟨_, ⟨es, n, h2, _⟩, _⟩ := (R.obj b _ h1).2
    exact ⟨_, h2, by simp⟩
  | _ => exact z.there rfl
theorem Rep0.lt {h : Heap} (R : Rep0 g h H X) {a : Addr} {o : AObj} (e : H a = some o) : a < h.objs.size :=
  let ⟨_, h1, _⟩ := R.there e
  Heap.lt_size h1
theorem Rep0.fresh {h : Heap} (R : Rep0 g h H X) : H h.objs.size = Option.none := by
  cases q : H h.objs.size with
  | none => rfl
  | some o => exact absurd (R.lt q) (Nat.lt_irrefl _)

theorem LocR.mono {h h' : Heap} {m : Str → Option Value} {cl : List (Str × Addr)} (z : LocR h m cl ρ) (kp : TupKeep h h') (kc : ∀ y a v, cl.lookup y = some a → h.IsCell a v → h'.IsCell a v) : LocR h' m cl ρ := fun y d e => by
  have q := z y d e
  cases hc : cl.lookup y with
  | none => rw [hc] at q; obtain ⟨v, q1, q2⟩ := q; exact ⟨v, q1, q2.mono kp⟩
  | some a => rw [hc] at q; obtain ⟨v, q1, q2⟩ := q; exact ⟨v, kc y a _ hc q1, q2.mono kp⟩
theorem IsCell.at {h h' : Heap} {a : Addr} {v : Option Value} (z : h.IsCell a v) (k : ∀ o, h.get? a = some o → h'.get? a = some o) : h'.IsCell a v := let ⟨o, h1, h2⟩ := z; ⟨o, k _ h1, h2⟩

/-- one tracked thing is turned: its own address, or its dict's -/
theorem Rep.change {env : Env} {h h' : Heap} (R : Rep g env h ρ H X) {a d : Addr} {o₀ o' : AObj} (hH : H a = some o₀) (hd : d = a ∨ H d = some (.own a)) (hn : ownOf o₀ = Option.none) (hs : Heap.ExtBut d h h') (hz : h.objs.size ≤ h'.objs.size)
    (hi : insOf o' = insOf o₀) (ho : ownOf o' = ownOf o₀) (z : TupKeep h h' → OK g h' (Mine.upd H a o') a o') : Rep g env h' ρ (Mine.upd H a o') X ∧ TupKeep h h' := by
  have hHd : ∃ od, H d = some od := hd.elim (fun q => ⟨_, q ▸ hH⟩) fun q => ⟨_, q⟩
  obtain ⟨od, hHd⟩ := hHd
  obtain ⟨obd, hod, hcd⟩ := R.o.there hHd
  have kp : TupKeep h h' := .extBut hs hod (.of_cls hcd)
  have ld := (R.o.obj d od hHd).1
  have nd : ∀ b, H b = Option.none → b ≠ d := fun b e q => by rw [q, hHd] at e; cases e
  have na : ∀ b, H b = Option.none → Mine.upd H a o' b = Option.none := fun b e => (upd_ne fun q => by rw [q, hH] at e; cases e).trans e
  refine ⟨⟨⟨fun b ob e => hs b ob (fun q => ?_) (R.o.keep b ob e), Nat.le_trans R.o.size hz, fun b o e => ?_, fun b ob e => ?_⟩, ⟨?_, ⟨R.f.nL.1, na _ R.f.nL.2.1, R.f.nL.2.2⟩, fun y c e => ?_, R.f.inj⟩⟩, kp⟩
  · subst q; exact absurd (Heap.lt_size e) (Nat.not_lt.mpr ld)
  · by_cases q : b = a
    · subst q
      rw [upd_same] at e
      cases e
      exact ⟨(R.o.obj _ _ hH).1, z kp⟩
    · rw [upd_ne q] at e
      have w := R.o.obj b o e
      refine ⟨w.1, OK.upd (w.2.keep kp fun b' ob hb hn' e' => hs b' ob (fun q' => ?_) e') hH hi ho⟩
      subst q'
      rcases hb with rfl | hb
      · rcases hd with hd | hd
        · exact q hd
        · rw [hd] at e; cases e; cases hn'
      · rcases hd with hd | hd
        · rw [hd, hH] at hb; cases hb; cases hn
        · rw [hd] at hb; cases hb; exact q rfl
  · have w := R.o.ext b ob e
    exact ⟨hs b ob (nd b w.2.1) w.1, na b w.2.1, w.2.2⟩
  · obtain ⟨m, h1, h2⟩ := R.f.ns
    refine ⟨m, h1.extBut hs (nd _ R.f.nL.2.1), h2.mono kp fun y c v e q => ?_⟩
    exact IsCell.at q fun o => hs c o (nd c (R.f.cl y c e).2.1)
  · obtain ⟨h1, h2, h3, h4, v, h5⟩ := R.f.cl y c e
    exact ⟨h1, na c h2, h3, h4, v, IsCell.at h5 fun o => hs c o (nd c h2)⟩

/-- the heap grows -/
theorem Rep.grow {env : Env} {h h' : Heap} (R : Rep g env h ρ H X) (hk : ∀ b o, h.get? b = some o → h'.get? b = some o) (hz : h.objs.size ≤ h'.objs.size) : Rep g env h' ρ H X := by
  have kp : TupKeep h h' := .of_keep hk
  refine ⟨⟨fun b o e => hk b o (R.o.keep b o e), Nat.le_trans R.o.size hz, fun b o e => ⟨(R.o.obj b o e).1, (R.o.obj b o e).2.keep kp fun b' ob _ _ => hk b' ob⟩, fun b o e => ⟨hk b o (R.o.ext b o e).1, (R.o.ext b o e).2⟩⟩, ⟨?_, R.f.nL, fun y c e => ?_, R.f.inj⟩⟩
  · obtain ⟨m, h1, h2⟩ := R.f.ns
    exact ⟨m, h1.keeps hk, h2.mono kp fun y c v _ q => IsCell.at q (hk c)⟩
  · obtain ⟨h1, h2, h3, h4, v, h5⟩ := R.f.cl y c e
    exact ⟨h1, h2, h3, h4, v, IsCell.at h5 (hk c)⟩
theorem Rep.push {env : Env} {h : Heap} (R : Rep g env h ρ H X) (ob : Obj) : Rep g env (h.push ob) ρ H X :=
  R.grow (fun _ _ e => Heap.get?_push_of_some _ e) (by rw [Heap.size_push]; exact Nat.le_succ _)
/-- a fresh address is tracked from now on -/
theorem Rep.track {env : Env} {h : Heap} (R : Rep g env h ρ H X) {a : Addr} {o' : AObj} (hH : H a = Option.none) (hX : X a = Option.none) (hL : env.locals ≠ a) (hc : ∀ y c, env.cells.lookup y = some c → c ≠ a) (hb : g.hb.objs.size ≤ a) (z : OK g h (Mine.upd H a o') a o') :
    Rep g env h ρ (Mine.upd H a o') X := by
  refine ⟨⟨R.o.keep, R.o.size, fun b o e => ?_, fun b ob e => ⟨(R.o.ext b ob e).1, (upd_ne fun q => by rw [q, hX] at e; cases e).trans (R.o.ext b ob e).2.1, (R.o.ext b ob e).2.2⟩⟩,
    ⟨R.f.ns, ⟨R.f.nL.1, (upd_ne hL).trans R.f.nL.2.1, R.f.nL.2.2⟩, fun y c e => ?_, R.f.inj⟩⟩
  · by_cases q : b = a
    · subst q; rw [upd_same] at e; cases e; exact ⟨hb, z⟩
    · rw [upd_ne q] at e
      exact ⟨(R.o.obj b o e).1, (R.o.obj b o e).2.new hH⟩
  · obtain ⟨h1, h2, r⟩ := R.f.cl y c e
    exact ⟨h1, (upd_ne (hc y c e)).trans h2, r⟩
theorem Rep.freshX {env : Env} {h : Heap} (R : Rep g env h ρ H X) : X h.objs.size = Option.none := by
  cases q : X h.objs.size with
  | none => rfl
  | some o => exact absurd (Heap.lt_size (R.o.ext _ o q).1) (Nat.lt_irrefl _)
theorem Rep.freshL {env : Env} {h : Heap} (R : Rep g env h ρ H X) : env.locals < h.objs.size := let ⟨_, h1, _⟩ := R.f.ns; h1.lt
theorem Rep.freshC {env : Env} {h : Heap} (R : Rep g env h ρ H X) {y : Str} {a : Addr} (e : env.cells.lookup y = some a) : a < h.objs.size :=
  let ⟨_, _, _, _, _, _, h5, _⟩ := R.f.cl y a e
  Heap.lt_size h5
theorem Rep.alloc {env : Env} {h : Heap} (R : Rep g env h ρ H X) {ob : Obj} {o' : AObj} (z : OK g (h.push ob) (Mine.upd H h.objs.size o') h.objs.size o') : Rep g env (h.push ob) ρ (Mine.upd H h.objs.size o') X :=
  (R.push ob).track R.o.fresh R.freshX (Nat.ne_of_lt R.freshL) (fun y c e => Nat.ne_of_lt (R.freshC e)) R.o.size z

/-- a local name is stored -/
theorem Rep.store {env : Env} {h h' : Heap} {m : Str → Option Value} {y : Str} {v : Value} {d : AV} (R : Rep g env h ρ H X) (hm : h.Ns env.locals m) (hl : LocR h m env.cells ρ) (hc : env.cells.lookup y = Option.none)
    (hn : h'.Ns env.locals (fun z => if z = y then some v else m z)) (hs : Heap.SameBut env.locals h h') (hv : VR h v d) : Rep g env h' (setL ρ y d) H X ∧ TupKeep h h' := by
  obtain ⟨oL, es, ep, hL, hLd, _⟩ := hm
  have kp : TupKeep h h' := .extBut hs.extBut hL (.of_dict hLd)
  have nd : ∀ b o, H b = some o → b ≠ env.locals := fun b o e q => by rw [q, R.f.nL.2.1] at e; cases e
  have hz : h.objs.size ≤ h'.objs.size := Nat.le_of_eq hs.1.symm
  refine ⟨⟨⟨fun b ob e => hs.extBut b ob (fun q => ?_) (R.o.keep b ob e), Nat.le_trans R.o.size hz, fun b o e => ?_, fun b ob e => ?_⟩, ⟨⟨_, hn, fun z u e => ?_⟩, R.f.nL, fun z c e => ?_, R.f.inj⟩⟩, kp⟩
  · subst q; exact absurd (Heap.lt_size e) (Nat.not_lt.mpr R.f.nL.1)
  · have w := R.o.obj b o e
    refine ⟨w.1, w.2.keep kp fun b' ob hb hn' e' => hs.extBut b' ob ?_ e'⟩
    rcases hb with rfl | hb
    · exact nd _ _ e
    · exact nd _ _ hb
  · have w := R.o.ext b ob e
    exact ⟨hs.extBut b ob (fun q => by rw [q, R.f.nL.2.2] at e; cases e) w.1, w.2⟩
  · by_cases q : z = y
    · subst q
      rw [setL_same] at e
      cases e
      rw [hc]
      exact ⟨v, if_pos rfl, hv.mono kp⟩
    · rw [setL_ne q] at e
      have w := hl z u e
      cases hz' : env.cells.lookup z with
      | none =>
        rw [hz'] at w
        obtain ⟨v', w1, w2⟩ := w
        exact ⟨v', (if_neg q).trans w1, w2.mono kp⟩
      | some a =>
        rw [hz'] at w
        obtain ⟨v', w1, w2⟩ := w
        exact ⟨v', IsCell.at w1 fun o => hs.extBut a o (R.f.cl z a hz').2.2.2.1, w2.mono kp⟩
  · obtain ⟨h1, h2, h3, h4, v', h5⟩ := R.f.cl z c e
    exact ⟨h1, h2, h3, h4, v', IsCell.at h5 fun o => hs.extBut c o h4⟩
/-- a name of a cell is stored -/
theorem Rep.storeC {env : Env} {h h' : Heap} {y : Str} {v : Value} {d : AV} {a : Addr} (R : Rep g env h ρ H X) (hf : env.func ≠ Option.none) (hc : env.cells.lookup y = some a)
    (hn : h'.IsCell a (some v)) (hs : Heap.SameBut a h h') (hv : VR h v d) : Rep g env h' (setL ρ y d) H X ∧ TupKeep h h' := by
  obtain ⟨c1, c2, c3, c4, v₀, oc, hoc, hdc⟩ := R.f.cl y a hc
  have kp : TupKeep h h' := .extBut hs.extBut hoc (.of_cell hdc)
  have nd : ∀ b o, H b = some o → b ≠ a := fun b o e q => by rw [q, c2] at e; cases e
  have hz : h.objs.size ≤ h'.objs.size := Nat.le_of_eq hs.1.symm
  obtain ⟨m, hm, hl⟩ := R.f.ns
  refine ⟨⟨⟨fun b ob e => hs.extBut b ob (fun q => ?_) (R.o.keep b ob e), Nat.le_trans R.o.size hz, fun b o e => ?_, fun b ob e => ?_⟩, ⟨⟨m, hm.extBut hs.extBut (Ne.symm c4), fun z u e => ?_⟩, R.f.nL, fun z c e => ?_, R.f.inj⟩⟩, kp⟩
  · subst q; exact absurd (Heap.lt_size e) (Nat.not_lt.mpr c1)
  · have w := R.o.obj b o e
    refine ⟨w.1, w.2.keep kp fun b' ob hb hn' e' => hs.extBut b' ob ?_ e'⟩
    rcases hb with rfl | hb
    · exact nd _ _ e
    · exact nd _ _ hb
  · have w := R.o.ext b ob e
    exact ⟨hs.extBut b ob (fun q => by rw [q, c3 hf] at e; cases e) w.1, w.2⟩
  · by_cases q : z = y
    · subst q
      rw [setL_same] at e
      cases e
      rw [hc]
      exact ⟨v, hn, hv.mono kp⟩
    · rw [setL_ne q] at e
      have w := hl z u e
      cases hz' : env.cells.lookup z with
      | none =>
        rw [hz'] at w
        obtain ⟨v', w1, w2⟩ := w
        exact ⟨v', w1, w2.mono kp⟩
      | some b =>
        rw [hz'] at w
        obtain ⟨v', w1, w2⟩ := w
        exact ⟨v', IsCell.at w1 fun o => hs.extBut b o fun q' => q (R.f.inj z y a (q' ▸ hz') hc), w2.mono kp⟩
  · obtain ⟨h1, h2, h3, h4, v', h5⟩ := R.f.cl z c e
    by_cases q : c = a
    · subst q; exact ⟨h1, h2, h3, h4, _, hn⟩
    · exact ⟨h1, h2, h3, h4, v', IsCell.at h5 fun o => hs.extBut c o q⟩

/-- storing a value in a name -/
theorem storeL {s : Shared} {Q : Unit → Shared → Prop} {E : Value → Shared → Prop} {y : Str} {v : Value} {d : AV} (R : Rep g c.env s.heap ρ H X) (hv : VR s.heap v d)
    (h : ∀ s', Step s s' → Rep g c.env s'.heap (setL ρ y d) H X → Q () s') (hc : c.env.cells.lookup y = Option.none) (hx : c.env.kindOf y = some .local) (hk : c.env.scope.kind = .function) : wpAny (model g.prog g.w) c.A (storeName c.env y v) Q E s := by
  obtain ⟨m, hm, hl⟩ := R.f.ns
  refine wpAny_storeName_local hx hm (fun h' hn hs => ?_) (by rw [hk]; rfl)
  obtain ⟨R', kp⟩ := R.store hm hl hc hn hs hv
  exact h _ (Step.heap s kp (Nat.le_of_eq hs.1.symm)) R'
theorem storeC {s : Shared} {Q : Unit → Shared → Prop} {E : Value → Shared → Prop} {y : Str} {v : Value} {d : AV} {a : Addr} (R : Rep g c.env s.heap ρ H X) (hv : VR s.heap v d)
    (h : ∀ s', Step s s' → Rep g c.env s'.heap (setL ρ y d) H X → Q () s') (hc : c.env.cells.lookup y = some a) (hx : c.env.kindOf y = some .cell) (hf : c.env.func ≠ Option.none) (hk : c.env.scope.kind = .function) : wpAny (model g.prog g.w) c.A (storeName c.env y v) Q E s := by
  obtain ⟨_, _, _, _, v₀, hcell⟩ := R.f.cl y a hc
  refine wpAny_storeName_cell hk hx hc hcell (fun h' hn hs => ?_)
  obtain ⟨R', kp⟩ := R.storeC hf hc hn hs hv
  exact h _ (Step.heap s kp (Nat.le_of_eq hs.1.symm)) R'
/-- a name that may be stored in this frame -/
noncomputable def Stores (c : Cx) (y : Str) : Prop := c.env.scope.kind = .function ∧ ((c.env.cells.lookup y = Option.none ∧ c.env.kindOf y = some .local) ∨ ∃ a, c.env.cells.lookup y = some a ∧ c.env.kindOf y = some .cell ∧ c.env.func ≠ Option.none)
theorem storeA {s : Shared} {Q : Unit → Shared → Prop} {E : Value → Shared → Prop} {y : Str} {v : Value} {d : AV} (hS : Stores c y) (R : Rep g c.env s.heap ρ H X) (hv : VR s.heap v d)
    (h : ∀ s', Step s s' → Rep g c.env s'.heap (setL ρ y d) H X → Q () s') : wpAny (model g.prog g.w) c.A (storeName c.env y v) Q E s := by
  obtain ⟨hk, ⟨h1, h2⟩ | ⟨a, h1, h2, hf⟩⟩ := hS
  · exact storeL R hv h h1 h2 hk
  · exact storeC R hv h h1 h2 hf hk
end
end Mine
end

section
open PySem PySem.W PyProof.Rows
set_option Elab.async false
set_option genSizeOf false
set_option linter.unusedVariables false
namespace Mine
section
variable {KF : Params → Frag} {g : Gd KF} {c : Cx} {ρ : Loc} {H : AH} {X : XH} {k : AF → Loc → AH → Prop} {x : AV → Loc → AH → Prop}

theorem Exs.nil (h : k .next ρ H) : Exs g c [] ρ H k x := fun s X Q E R q e => wpAny_execs_nil (q _ _ _ _ _ (Step.refl s) R .next h)
/-- what comes behind a statement -/
noncomputable def Then {KF : Params → Frag} (g : Gd KF) (c : Cx) (rest : List Stmt) (k : AF → Loc → AH → Prop) (x : AV → Loc → AH → Prop) (f : AF) (ρ : Loc) (H : AH) : Prop := match f with
  | .next => Exs g c rest ρ H k x
  | f => k f ρ H
theorem Exs.cons {st : Stmt} {rest : List Stmt} (h : Ex g c st ρ H (Then g c rest k x) x) : Exs g c (st :: rest) ρ H k x := fun s X Q E R q e => by
  refine wpAny_execs_cons (h s X _ _ R (fun f f' s₁ ρ₁ H₁ st₁ R₁ hf h₁ => ?_) e)
  cases hf with
  | next => exact h₁ s₁ X _ _ R₁ (q.step st₁) (e.step st₁)
  | brk => exact q _ _ _ _ _ st₁ R₁ .brk h₁
  | cont => exact q _ _ _ _ _ st₁ R₁ .cont h₁
  | ret hv => exact q _ _ _ _ _ st₁ R₁ (.ret hv) h₁

theorem Ex.expr {e : Expr} {pos : Pos} (h : Ev g c e ρ H (fun _ => k .next) x) (hi : interactive c.env = false := by kernel_rfl) (hs : swapsWith e none pos.line c.env = pure false := by rfl) :
    Ex g c (.Expr e pos) ρ H k x := fun s X Q E R q er => by
  rw [exec_Expr c.env e pos hi hs]
  exact wpAny_bind (wpAny_standAt (wpAny_bind (h s X _ _ R (fun v b s₁ ρ₁ H₁ st₁ R₁ hv h₁ => wpAny_dropValue (q _ _ _ _ _ st₁ R₁ .next h₁)) er)))
theorem Ex.ret {e : Expr} {pos : Pos} (h : Ev g c e ρ H (fun v => k (.ret v)) x) : Ex g c (.Return (some e) pos) ρ H k x := fun s X Q E R q er =>
  wpAny_Return_some (h s X _ _ R (fun v b s₁ ρ₁ H₁ st₁ R₁ hv h₁ => q _ _ _ _ _ st₁ R₁ (.ret hv) h₁) er)
theorem Ex.ret0 {pos : Pos} (h : k (.ret .none) ρ H) : Ex g c (.Return none pos) ρ H k x := fun s X Q E R q er =>
  wpAny_Return_none (q _ _ _ _ _ (Step.refl s) R (.ret .none) h)
theorem Ex.ife {t : Expr} {a b : List Stmt} {pos : Pos} (h : Ts g c t ρ H (fun v ρ₁ H₁ => if v = true then Exs g c a ρ₁ H₁ k x else Exs g c b ρ₁ H₁ k x) x) :
    Ex g c (.If t a b pos) ρ H k x := fun s X Q E R q e =>
  wpAny_If (h s X _ _ R (fun v b s₁ ρ₁ H₁ st₁ R₁ hv h₁ => by
    subst hv
    split at h₁ <;> rename_i hb
    · rw [if_pos hb]; exact h₁ s₁ X _ _ R₁ (q.step st₁) (e.step st₁)
    · rw [if_neg hb]; exact h₁ s₁ X _ _ R₁ (q.step st₁) (e.step st₁)) e)

theorem Ex.assign {y : Str} {pos' pos : Pos} {e : Expr} (h : Ev g c e ρ H (fun v ρ₁ H₁ => k .next (setL ρ₁ y v) H₁) x) (hS : Stores c y)
    (hs : swapsWith e (some (.Name y pos')) pos.line c.env = pure false := by kernel_rfl) : Ex g c (.Assign [.Name y pos'] e pos) ρ H k x := fun s X Q E R q er =>
  wpAny_Assign_Name (h s X _ _ R (fun v b s₁ ρ₁ H₁ st₁ R₁ hv h₁ => storeA hS R₁ hv fun s₂ st₂ R₂ => q _ _ _ _ _ (st₁.trans st₂) R₂ .next h₁) er) hs
theorem Ex.aug {y : Str} {pos' pos : Pos} {op : Operator} {e : Expr} {v₀ : AV} (hv₀ : ρ y = some v₀)
    (h : Ev g c e ρ H (fun v ρ₁ H₁ => Op2 g c VR (inplaceOp op) v₀ v ρ₁ H₁ (fun r ρ₂ H₂ => k .next (setL ρ₂ y r) H₂) x) x) (hS : Stores c y) :
    Ex g c (.AugAssign (.Name y pos') op e pos) ρ H k x := fun s X Q E R q er => by
  have ld : ∀ (Q' : Value → Shared → Prop), (∀ v, VR s.heap v v₀ → Q' v s) → wpAny (model g.prog g.w) c.A (loadName c.env y) Q' E s := by
    intro Q' hQ
    obtain ⟨m, hn, hl⟩ := R.f.ns
    have z := hl y v₀ hv₀
    obtain ⟨hk, ⟨h1, h2⟩ | ⟨a, h1, h2, hf⟩⟩ := hS
    · rw [h1] at z
      obtain ⟨cv, z1, z2⟩ := z
      exact wpAny_loadName_local hk h2 hn z1 (hQ _ z2)
    · rw [h1] at z
      obtain ⟨cv, z1, z2⟩ := z
      exact wpAny_loadName_cell hk h2 h1 z1 (hQ _ z2)
  exact wpAny_AugAssign_Name (ld _ fun old hold => h s X _ _ R (fun v b s₁ ρ₁ H₁ st₁ R₁ hv h₁ => h₁ s₁ X _ _ old v R₁ (hold.mono st₁.tup) hv (fun r r' s₂ ρ₂ H₂ st₂ R₂ hr h₂ =>
    storeA hS R₂ hr fun s₃ st₃ R₃ => q _ _ _ _ _ ((st₁.trans st₂).trans st₃) R₃ .next h₂) (er.step st₁)) er)

/-- a store through an attribute -/
theorem Ex.assignAttr {o e : Expr} {attr : Str} {pos' pos : Pos} (h : Ev g c e ρ H (fun v ρ₁ H₁ => Ev g c o ρ₁ H₁ (fun ov ρ₂ H₂ => Op2 g c (fun _ (_ : Unit) (_ : Unit) => True) (fun a b => setAttr a attr b) ov v ρ₂ H₂ (fun _ => k .next) x) x) x)
    (hs : swapsWith e (some (.Attribute o attr pos')) pos.line c.env = pure false := by kernel_rfl) : Ex g c (.Assign [.Attribute o attr pos'] e pos) ρ H k x := fun s X Q E R q er =>
  plainObj_wpAny_Assign_Attribute (h s X _ _ R (fun v b s₁ ρ₁ H₁ st₁ R₁ hv h₁ => h₁ s₁ X _ _ R₁ (fun ov ob s₂ ρ₂ H₂ st₂ R₂ ho h₂ =>
    h₂ s₂ X _ _ ov v R₂ ho (hv.mono st₂.tup) (fun _ _ s₃ ρ₃ H₃ st₃ R₃ _ h₃ => q _ _ _ _ _ ((st₁.trans st₂).trans st₃) R₃ .next h₃) (er.step (st₁.trans st₂))) (er.step st₁)) er) hs

/-- a while, from its test on -/
noncomputable def Lp {KF : Params → Frag} (g : Gd KF) (c : Cx) (t : Expr) (b : List Stmt) (ρ : Loc) (H : AH) (k : AF → Loc → AH → Prop) (x : AV → Loc → AH → Prop) : Prop :=
  ∀ (s : Shared) (X : XH) (R : Result → Shared → Prop), Rep g c.env s.heap ρ H X → Qs g c FlR X s k (fun f s' => R (.ok f) s') →
    codeAny (model g.prog g.w) c.A (.whileLoop t b [] c.env) R s
theorem Ex.whil {t : Expr} {b : List Stmt} {pos : Pos} (h : Lp g c t b ρ H k x) : Ex g c (.While t b [] pos) ρ H k x := fun s X Q E R q er =>
  wpAny_While (h s X _ R q)
noncomputable def Turn {KF : Params → Frag} (g : Gd KF) (c : Cx) (t : Expr) (b : List Stmt) (k : AF → Loc → AH → Prop) (x : AV → Loc → AH → Prop) (f : AF) (ρ : Loc) (H : AH) : Prop := match f with
  | .next => Lp g c t b ρ H k x
  | .cont => Lp g c t b ρ H k x
  | .brk => k .next ρ H
  | .ret v => k (.ret v) ρ H
theorem Lp.step {t : Expr} {b : List Stmt} (h : Ts g c t ρ H (fun v ρ₁ H₁ => if v = true then Exs g c b ρ₁ H₁ (Turn g c t b k x) (fun _ _ _ => False) else k .next ρ₁ H₁) (fun _ _ _ => False)) : Lp g c t b ρ H k x := by
  intro s X R' R q
  refine codeAny_of_tree ?_
  show wpAny _ c.A ((whileTurn t b [] c.env).onRaise (fun x => do noteFrame x c.env; theTreesLotGoes x)) _ _ s
  refine wpAny_noted ?_
  simp only [whileTurn]
  refine wpAny_bind (h s X _ _ R (fun v v' s₁ ρ₁ H₁ st₁ R₁ hv h₁ => ?_) fun _ _ _ _ _ _ _ _ h => h.elim)
  cases hv
  cases v with
  | false =>
    simp only [Bool.false_eq_true, if_false] at h₁ ⊢
    exact wpAny_bind (wpAny_execs_nil (wpAny_pure (q _ _ _ _ _ st₁ R₁ .next h₁)))
  | true =>
    simp only [if_true] at h₁ ⊢
    refine wpAny_bind (h₁ s₁ X _ _ R₁ (fun f f' s₂ ρ₂ H₂ st₂ R₂ hf h₂ => ?_) fun _ _ _ _ _ _ _ _ h => h.elim)
    cases hf with
    | next => exact wpAny_pure ⟨rfl, h₂ s₂ X _ R₂ (Qs.step q (st₁.trans st₂))⟩
    | cont => exact wpAny_pure ⟨rfl, h₂ s₂ X _ R₂ (Qs.step q (st₁.trans st₂))⟩
    | brk => exact wpAny_pure (q _ _ _ _ _ (st₁.trans st₂) R₂ .next h₂)
    | ret hv => exact wpAny_pure (q _ _ _ _ _ (st₁.trans st₂) R₂ (.ret hv) h₂)
end
end Mine
end

section
open PySem PySem.W PyProof.Rows PySem.Calls
set_option Elab.async false
set_option genSizeOf false
set_option linter.unusedVariables false
namespace Mine

noncomputable def lookF : List (Str × AV) → Str → Option AV
  | [], _ => none
  | (y, v) :: r, x => if y = x then some v else lookF r x
noncomputable def putF : List (Str × AV) → Str → AV → List (Str × AV)
  | [], x, v => [(x, v)]
  | (y, w) :: r, x, v => if y = x then (y, v) :: r else (y, w) :: putF r x v
noncomputable def notBi : AV → Bool
  | .builtin _ => false
  | _ => true

/-- what is asked of a class of the text's own -/
structure ClsF (K : Frag) (C : Addr) : Prop where
  get : findIn K (.ref C) "__getattribute__" = some (some (.builtin "object.__getattribute__"))
  gattr : findIn K (.ref C) "__getattr__" = some none
  set : findIn K (.ref C) "__setattr__" = some (some (.builtin "object.__setattr__"))
  over : plainOver K C = true
  hd : hasDictIn K C = true

section
variable {KF : Params → Frag} {g : Gd KF} {c : Cx} {ρ : Loc} {H : AH} {X : XH} {k : AV → Loc → AH → Prop} {x : AV → Loc → AH → Prop}

theorem FR.no_ref {h : Heap} {es : List DictEntry} {fs : List (Str × AV)} (z : FR h es fs) : es.any (·.refKey) = false := FR.rec (motive := fun es _ _ => es.any (·.refKey) = false) rfl (fun _ _ r => by rw [List.any_cons, r]; rfl) z
theorem FR.look {h : Heap} {y : Str} : ∀ {es : List DictEntry} {fs : List (Str × AV)}, FR h es fs → ∃ v, getL y es = some v ∧ OVR h v (lookF fs y)
  | _, _, .nil => ⟨_, rfl, .none⟩
  | _, _, .cons (hs := hs) (x := z) (t := t) (v := w) (d := d) (es := es) (fs := fs) a r => by
    obtain ⟨v, h1, h2⟩ := FR.look (y := y) r
    have hk : (DictEntry.mk hs (.str z t) w).key.isStr y = (z == y) := rfl
    have hnr : ((DictEntry.mk hs (.str z t) w) :: es).any (·.refKey) = false := by rw [List.any_cons, FR.no_ref r]; rfl
    by_cases q : z = y
    · refine ⟨some w, ?_, ?_⟩
      · unfold getL
        rw [List.find?_cons, hk, beq_iff_eq.mpr q]
      · rw [lookF, if_pos q]; exact .some a
    · refine ⟨v, ?_, ?_⟩
      · have e1 : getL y ((DictEntry.mk hs (.str z t) w) :: es) = getL y es := by
          unfold getL
          rw [List.find?_cons, hk, beq_eq_false_iff_ne.mpr q, hnr, FR.no_ref r]
        rw [e1]; exact h1
      · rw [lookF, if_neg q]; exact h2
theorem FR.put {h : Heap} {y : Str} {hsh : Int} {tk : Tok} {v : Value} {d : AV} (hv : VR h v d) : ∀ {es : List DictEntry} {fs : List (Str × AV)}, FR h es fs → FR h (putL y hsh (.str y tk) v es) (putF fs y d)
  | _, _, .nil => .cons hv .nil
  | _, _, .cons (hs := hs) (x := z) (t := t) (v := w) (d := d') (es := es) (fs := fs) a r => by
    have hk : (DictEntry.mk hs (.str z t) w).key.isStr y = (z == y) := rfl
    unfold putL putF
    by_cases q : z = y
    · rw [hk, beq_iff_eq.mpr q, if_pos rfl, if_pos q]; exact .cons hv r
    · rw [hk, beq_eq_false_iff_ne.mpr q, if_neg (by decide), if_neg q]; exact .cons a (FR.put hv r)
theorem putL_length (y : Str) (hsh : Int) (ky v : Value) : ∀ es : List DictEntry, (putL y hsh ky v es).length ≤ es.length + 1
  | [] => Nat.le_refl _
  | e :: r => by
    unfold putL
    split
    · simp
    · simp only [List.length_cons]; have := putL_length y hsh ky v r; lia

theorem Rep.inst {env : Env} {h : Heap} {t C d : Addr} {fs : List (Str × AV)} (R : Rep g env h ρ H X) (hH : H t = some (.inst C d fs)) : ∃ es n, InstAt h t (instObj C d) C (some (dictOf es n)) ∧ FR h es fs ∧ h.get? d = some (dictOf es n) := by
  obtain ⟨h1, ⟨es, n, h2, h3⟩, _⟩ := (R.o.obj t _ hH).2
  exact ⟨es, n, ⟨h1, rfl, rfl, h2⟩, h3, h2⟩
theorem VR.handed {h : Heap} {v : Value} {d : AV} (z : VR h v d) (hb : notBi d = true) : handedIn v = true := by
  cases z <;> first | rfl | cases hb

/-- reading a field -/
theorem Op1.field {t C d : Addr} {fs : List (Str × AV)} {attr : Str} {v : AV} {at? : Option Value} (hH : H t = some (.inst C d fs)) (hc : ClsF (KF g.w.params) C) (ha : findIn (KF g.w.params) (.ref C) attr = some at?) (hn : noGet (KF g.w.params) at? = true) (hl : lookF fs attr = some v) (hb : notBi v = true)
    (h : k v ρ H) : Op1 g c VR (fun o => getAttr o attr true) (.ref t) ρ H k x := fun s X Q E va R hv q e => by
  cases hv
  obtain ⟨es, n, I, hF, _⟩ := R.inst hH
  obtain ⟨w, h1, h2⟩ := hF.look (y := attr)
  rw [hl] at h2
  cases h2 with
  | some h2 => exact get_value R.K I hc.get (findObj_own hc.hd ha hn h1) (h2.handed hb) (q _ _ _ _ _ (Step.tok s _) R h2 h)

theorem Ev.attr {o : Expr} {a : Str} {pos : Pos} (h : Ev g c o ρ H (fun ov ρ₁ H₁ => Op1 g c VR (fun o => getAttr o a true) ov ρ₁ H₁ k x) x)
    (he : eval (.Attribute o a pos) c.env = (do
      let o' ← eval o c.env
      standAt pos.atName
      let r ← holding [o'] (getAttr o' a true)
      letTemporaryGo o o' r
      pure r) := by kernel_rfl) : Ev g c (.Attribute o a pos) ρ H k x := fun s X Q E R q e =>
  Attribute_any_ (h s X _ _ R (fun v b s₁ ρ₁ H₁ st₁ R₁ hv h₁ => h₁ s₁ X _ _ v R₁ hv (q.step st₁) (e.step st₁)) e) he

/-- storing a field, heap by heap -/
theorem set_at {K : Frag} {prog : Program} {w : World} {A : Around} {s : Shared} {t C d : Addr} {es : List DictEntry} {n : Nat} {name : Str} {v : Value} {Q : Unit → Shared → Prop} {E : Value → Shared → Prop} (X : K.In s.heap)
    (I : InstAt s.heap t (instObj C d) C (some (dictOf es n))) (hd : s.heap.get? d = some (dictOf es n)) (hc : ClsF K C) (ha : findIn K (.ref C) name = some none) (hr : es.any (·.refKey) = false) (hl : (getL name es).isSome = true) (hz : es.length ≤ 900)
    (h : Q () { s with heap := s.heap.update d (Obj.putName name (PyData.keyHash w.params name) (.str name (s.toks + 1)) v), toks := s.toks + 2 }) : wpAny (model prog w) A (setAttr (.ref t) name v) Q E s := by
  refine set_plain X I hc.set ?_
  have ht : takerIn K C name = some none := by unfold takerIn; rw [ha]; rfl
  refine osa_open (s := { s with toks := s.toks + 1 }) X I hc.over ht fun b => ?_
  obtain ⟨cd, hcd, hdd⟩ := any_some hc.hd
  have go : (s.heap.update d (Obj.putName name (PyData.keyHash w.params name) (.str name (s.toks + 1)) v)).get? d = some (dictOf (putL name (PyData.keyHash w.params name) (.str name (s.toks + 1)) v es) (putN name es n)) := by
    have e1 := putName_dict name (PyData.keyHash w.params name) (.str name (s.toks + 1)) v es n
    rw [← e1]
    exact Heap.get?_update_self _ hd (by rw [e1]; rfl)
  refine wpAny_bind (wpAny_pure (wpAny_bind (wpAny_bind (wpAny_loadPart I.at_ (wpAny_bind ((looks_clsIn X hcd).at ?_))))))
  rw [hdd]
  refine wpAny_pure (a := some d) (wpAny_bind (wpAny_pure (wpAny_bind ?_)))
  unfold nsSet
  refine wpAny_bind (wpAny_bind (wpAny_askSetting (wpAny_pure (wpAny_bind (wpAny_mkText (wpAny_bind (wpAny_loadPart hd ?_)))))))
  dsimp only
  have c0 : (!es.toArray.any (·.key.isStr name) && es.toArray.any (·.refKey)) = false := by
    rw [List.any_toArray, List.any_toArray, hr, Bool.and_false]
  rw [aRefKeyMayBeTheName_at, c0]
  refine wpAny_updatePart hd ?_
  refine wpAny_bind (wpAny_lookBehind go (pastItsLine_dict (by rw [List.size_toArray, sizeLine_eq]; have := putL_length name (PyData.keyHash w.params name) (.str name (s.toks + 1)) v es; lia)) ?_)
  exact wpAny_pure h

theorem Op2.setField {t C d : Addr} {fs : List (Str × AV)} {attr : Str} {v : AV} {k : Unit → Loc → AH → Prop} (hH : H t = some (.inst C d fs)) (hc : ClsF (KF g.w.params) C) (ha : findIn (KF g.w.params) (.ref C) attr = some none) (hz : fs.length ≤ 900)
    (h : k () ρ (upd H t (.inst C d (putF fs attr v)))) : Op2 g c (fun _ (_ : Unit) (_ : Unit) => True) (fun a b => setAttr a attr b) (.ref t) v ρ H k x := fun s X Q E va vb R hva hvb q e => by
  cases hva
  obtain ⟨es, n, I, hF, hd⟩ := R.inst hH
  obtain ⟨w', h1, _⟩ := hF.look (y := attr)
  have hown := (R.o.obj t _ hH).2.2.2
  refine set_at R.K I hd hc ha hF.no_ref (by rw [h1]; rfl) (by rw [hF.length]; exact hz) ?_
  have hs := Heap.SameBut.update s.heap d (Obj.putName attr (PyData.keyHash g.w.params attr) (.str attr (s.toks + 1)) vb)
  have ntd : t ≠ d := fun q => by rw [q, hown] at hH; cases hH
  obtain ⟨R', kp⟩ := R.change (o' := .inst C d (putF fs attr v)) hH (.inr hown) rfl hs.extBut (Nat.le_of_eq hs.1.symm) rfl rfl (fun kp => by
    refine ⟨(hs.2 t ntd).trans I.at_, ⟨_, putN attr es n, ?_, (FR.put (hsh := PyData.keyHash g.w.params attr) (tk := s.toks + 1) hvb hF).mono kp⟩, (upd_ne (Ne.symm ntd)).trans hown⟩
    have e1 := putName_dict attr (PyData.keyHash g.w.params attr) (.str attr (s.toks + 1)) vb es n
    rw [← e1]
    exact Heap.get?_update_self _ hd (by rw [e1]; rfl))
  exact q () () _ _ _ (Step.heap s kp (Nat.le_of_eq hs.1.symm)) R' trivial h
end
end Mine
end

section
open PySem PySem.W PyProof.Rows PySem.Calls
set_option Elab.async false
set_option genSizeOf false
set_option linter.unusedVariables false
namespace Mine

/-- room for n calls, one in another; b: a loop over a list may stand in them -/
structure Ok (n : Nat) (b : Bool) (A : Around) : Prop where
  depth : A.depth + 10 * n ≤ 900
  units : A.units + 40 * n ≤ 9000
  hand : b = true → A.handled = none
theorem Ok.le {n m : Nat} {b b' : Bool} {A : Around} (h : Ok n b A) (hn : m ≤ n) (hb : b' = true → b = true) : Ok m b' A :=
  ⟨by have := h.depth; lia, by have := h.units; lia, fun q => h.hand (hb q)⟩

theorem Ok.leB {n m : Nat} {b b' : Bool} {A : Around} (h : Ok n b A) (hn : (Nat.ble m n && (!b' || b)) = true) : Ok m b' A :=
  h.le (Nat.le_of_ble_eq_true (Bool.and_eq_true_iff.mp hn).1) (fun q => by have h2 := (Bool.and_eq_true_iff.mp hn).2; rw [q] at h2; exact h2)
noncomputable def Cal {KF : Params → Frag} (g : Gd KF) (n : Nat) (b : Bool) (f : Addr) (as : List AV) (H : AH) (k : AV → AH → Prop) (x : AV → AH → Prop) : Prop :=
  ∀ (A : Around) (s : Shared) (X : XH) (R : Result → Shared → Prop) (vs : List Value), Ok n b A → VRs s.heap vs as → Rep0 g s.heap H X →
    (∀ v d s' H', Step s s' → Rep0 g s'.heap H' X → VR s'.heap v d → k d H' → R (.ok (.ret v)) s') →
    (∀ e d s' H', Step s s' → Rep0 g s'.heap H' X → VR s'.heap e d → x d H' → R (.error e) s') →
    codeAny (model g.prog g.w) A (.call (.ref f) ⟨vs, []⟩) R s
theorem Cal.mono {KF : Params → Frag} {g : Gd KF} {n m : Nat} {b b' : Bool} {f : Addr} {as : List AV} {H : AH} {k k' x x' : AV → AH → Prop} (h : Cal g n b f as H k x) (hk : ∀ d H', k d H' → k' d H') (hx : ∀ d H', x d H' → x' d H') (hn : n ≤ m) (hb : b = true → b' = true) : Cal g m b' f as H k' x' :=
  fun A s X R vs ok hv R0 q e => h A s X R vs (ok.le hn hb) hv R0 (fun v d s' H' st R' hv kk => q v d s' H' st R' hv (hk _ _ kk)) fun v d s' H' st R' hv kk => e v d s' H' st R' hv (hx _ _ kk)

noncomputable def noL : Loc := fun _ => none
noncomputable def locOf : List Str → List AV → Loc
  | x :: xs, v :: vs => setL (locOf xs vs) x v
  | _, _ => noL
noncomputable def retOf : AF → AV
  | .ret v => v
  | _ => .none

theorem locOf_zip {h : Heap} {xs : List Str} : ∀ {ws : List Value} {as : List AV}, VRs h ws as → ∀ {y : Str} {d : AV}, locOf xs as y = some d → ∃ v, (xs.zip ws).lookup y = some v ∧ VR h v d := by
  induction xs with
  | nil => intro ws as z y d e; cases e
  | cons x xs ih =>
    intro ws as z y d e
    cases as with
    | nil => cases e
    | cons a as =>
      obtain ⟨v, vs, rfl, a, r⟩ := z.lc
      have e : (if y = x then some _ else locOf xs as y) = some d := e
      by_cases q : y = x
      · rw [if_pos q] at e
        rw [q, ← Option.some.inj e]
        exact ⟨v, by rw [List.zip_cons_cons, List.lookup_cons, beq_self_eq_true], a⟩
      · rw [if_neg q] at e
        obtain ⟨w, h1, h2⟩ := ih r e
        exact ⟨w, by rw [List.zip_cons_cons, List.lookup_cons, beq_eq_false_iff_ne.mpr q]; exact h1, h2⟩
theorem lookup_reverse {xs : List (Str × Value)} (hn : (xs.map (·.1)).Nodup) (y : Str) : xs.reverse.lookup y = xs.lookup y := by
  induction xs with
  | nil => rfl
  | cons p xs ih =>
    obtain ⟨z, v⟩ := p
    rw [List.map_cons, List.nodup_cons] at hn
    rw [List.reverse_cons, List.lookup_append, ih hn.2]
    by_cases q : y = z
    · subst q
      have : xs.lookup y = none := by
        rw [List.lookup_eq_none_iff]
        intro p hp
        exact bne_iff_ne.mpr fun e => hn.1 (show y ∈ _ from e ▸ List.mem_map.mpr ⟨p, hp, rfl⟩)
      rw [this, List.lookup_cons, List.lookup_cons, beq_self_eq_true]
      rfl
    · have hb : (y == z) = false := beq_eq_false_iff_ne.mpr q
      simp only [List.lookup_cons, List.lookup_nil, hb]
      cases xs.lookup y <;> rfl
theorem zip_keys_nodup {xs : List Str} (hn : xs.Nodup) (ws : List Value) : ((xs.zip ws).map (·.1)).Nodup := by
  have : ((xs.zip ws).map (·.1)) = xs.take ws.length := by
    induction xs generalizing ws with
    | nil => simp
    | cons x xs ih =>
      cases ws with
      | nil => simp
      | cons w ws => simp [ih (List.nodup_cons.mp hn).2 ws]
  rw [this]
  exact hn.sublist (List.take_sublist _ _)

/-- a function of the text's own -/
structure FnF {KF : Params → Frag} (g : Gd KF) (f : Addr) (fd : FuncData) : Prop where
  ex : ∃ oc od osl, (KF g.w.params).lookup f = some ⟨oc, od, .func fd, osl⟩
  cd : codeIn (KF g.w.params) fd.code fd.qualname = true

noncomputable abbrev noX : AV → Loc → AH → Prop := fun _ _ _ => False

theorem Cal.enter0 {KF : Params → Frag} {g : Gd KF} {n : Nat} {b : Bool} {f : Addr} {as as' : List AV} {H : AH} {k : AV → AH → Prop} {x : AV → AH → Prop} {name qual : Str} {params : Arguments} {body : List Stmt} {scope : Scope} {dV kV doc pm cdv ct : Value} {an : Option Addr} (xs : List Str)
    (F : FnF g f (fnOf name qual params body scope dV kV doc pm an cdv ct))
    (hbind : ∀ (s : Shared) (vs : List Value), VRs s.heap vs as → (KF g.w.params).In s.heap → ∃ ws, VRs s.heap ws as' ∧ BindsTo s (fnOf name qual params body scope dV kV doc pm an cdv ct) ⟨vs, []⟩ (xs.zip ws))
    (hn : xs.Nodup) (hloc : ∀ y ∈ xs, scope.names.lookup y = some .local) (hcell : ∀ y ∈ scope.names, y.2 ≠ .cell)
    (h : ∀ (A : Around) (L : Addr), Ok n b A → Exs g ⟨A, envOf qual scope L f cdv⟩ body (locOf xs as') H (fun fl _ H' => k (retOf fl) H') noX)
    (hco : scope.isCoroutine = false := by kernel_rfl) (hgen : scope.isGenerator = false := by rfl) (hk : scope.kind = .function := by rfl) : Cal g (n + 1) b f as H k x := by
  intro A s X R vs ok hv R0 q e
  obtain ⟨oc, od, osl, ho⟩ := F.ex
  have K := g.X.keeps R0.keep
  obtain ⟨ws, hws, hb⟩ := hbind s vs hv K
  refine codeAny_call_def (fd := fnOf name qual params body scope dV kV doc pm an cdv ct) (body := body) (by have := ok.depth; show A.depth < 1000; lia) (K _ _ ho) rfl (g.T.nolimit.keeps R0.keep) (codeRec_of K F.cd) rfl hb hcell (fun y hy => ?_) (fun h₁ hns hk₁ => ?_) hco hgen hk
  · exact hloc y.1 (List.of_mem_zip (a := y.1) (b := y.2) hy).1
  · have kp : TupKeep s.heap h₁ := .of_keep hk₁
    have zN := zip_keys_nodup hn ws
    have zL : s.heap.objs.size < h₁.objs.size := hns.lt
    have R1 : Rep g (envOf qual scope s.heap.objs.size f cdv) h₁ (locOf xs as') H X := by
      refine ⟨⟨fun b o e => hk₁ b o (R0.keep b o e), Nat.le_trans R0.size (Nat.le_of_lt zL), fun b o e => ⟨(R0.obj b o e).1, (R0.obj b o e).2.keep kp fun b' ob _ _ => hk₁ b' ob⟩, fun b o e => ⟨hk₁ b o (R0.ext b o e).1, (R0.ext b o e).2⟩⟩,
        ⟨⟨_, hns, fun y d e => ?_⟩, ⟨R0.size, R0.fresh, ?_⟩, fun y c e => (nomatch e), fun y y' c e => (nomatch e)⟩⟩
      · show ∃ v, _ ∧ _
        obtain ⟨v, h1, h2⟩ := locOf_zip hws e
        exact ⟨v, (lookup_reverse zN y).trans h1, h2.mono kp⟩
      · show X s.heap.objs.size = none
        cases q' : X s.heap.objs.size with
        | none => rfl
        | some o => exact absurd (Heap.lt_size (R0.ext _ o q').1) (Nat.lt_irrefl _)
    have ok' : Ok n b (A.deeper (envOf qual scope s.heap.objs.size f cdv)) := ⟨by show A.depth + 1 + 10 * n ≤ 900; have := ok.depth; lia, by show A.units + 3 + 40 * n ≤ 9000; have := ok.units; lia, ok.hand⟩
    have st₁ : Step s { s with heap := h₁, toks := s.toks + (xs.zip ws).length } := Step.heap s kp (Nat.le_of_lt zL)
    refine h (A.deeper (envOf qual scope s.heap.objs.size f cdv)) s.heap.objs.size ok' _ X _ _ R1 (fun fl fl' s' ρ' H' st R' hf hk' => ?_) fun _ _ _ _ _ _ _ _ h => h.elim
    refine q _ _ _ _ (st₁.trans st) R'.o ?_ hk'
    cases hf <;> first | exact .none | assumption

open Classical in
/-- a frame's own things are kept as they are -/
noncomputable def frz (env : Env) (h : Heap) (X : XH) : XH := fun b => if (b = env.locals ∨ ∃ y, env.cells.lookup y = some b) then h.get? b else X b
/-- a function's scope is a plain one, and its parameters stand in it -/
noncomputable def okScope (xs : List Str) (sc : Scope) : Bool := !sc.isCoroutine && (!sc.isGenerator && (decide (sc.kind = .function) && (decide xs.Nodup && (decide (∀ y ∈ xs, sc.names.lookup y = some .local) && decide (∀ y ∈ sc.names, y.2 ≠ .cell)))))
theorem Cal.enter {KF : Params → Frag} {g : Gd KF} {n : Nat} {b : Bool} {f : Addr} {as as' : List AV} {H : AH} {k : AV → AH → Prop} {x : AV → AH → Prop} {name qual : Str} {params : Arguments} {body : List Stmt} {scope : Scope} {dV kV doc pm cdv ct : Value} {an : Option Addr} (xs : List Str)
    (F : FnF g f (fnOf name qual params body scope dV kV doc pm an cdv ct))
    (hbind : ∀ (s : Shared) (vs : List Value), VRs s.heap vs as → (KF g.w.params).In s.heap → ∃ ws, VRs s.heap ws as' ∧ BindsTo s (fnOf name qual params body scope dV kV doc pm an cdv ct) ⟨vs, []⟩ (xs.zip ws))
    (hok : okScope xs scope = true)
    (h : ∀ (A : Around) (L : Addr), Ok n b A → Exs g ⟨A, envOf qual scope L f cdv⟩ body (locOf xs as') H (fun fl _ H' => k (retOf fl) H') noX) : Cal g (n + 1) b f as H k x := by
  unfold okScope at hok
  rw [Bool.and_eq_true, Bool.and_eq_true, Bool.and_eq_true, Bool.and_eq_true, Bool.and_eq_true, Bool.not_eq_true', Bool.not_eq_true', decide_eq_true_eq, decide_eq_true_eq, decide_eq_true_eq, decide_eq_true_eq] at hok
  exact Cal.enter0 xs F hbind hok.2.2.2.1 hok.2.2.2.2.1 hok.2.2.2.2.2 h hok.1 hok.2.1 hok.2.2.1

theorem frz_some {env : Env} {h : Heap} {X : XH} {b : Addr} {o : Obj} (e : frz env h X b = some o) : (h.get? b = some o ∧ (b = env.locals ∨ ∃ y, env.cells.lookup y = some b)) ∨ X b = some o := by
  unfold frz at e
  split at e
  · exact .inl ⟨e, by assumption⟩
  · exact .inr e
theorem frz_in {env : Env} {h : Heap} {X : XH} {b : Addr} (p : b = env.locals ∨ ∃ y, env.cells.lookup y = some b) : frz env h X b = h.get? b := if_pos p
theorem frz_out {env : Env} {h : Heap} {X : XH} {b : Addr} (p : ¬ (b = env.locals ∨ ∃ y, env.cells.lookup y = some b)) : frz env h X b = X b := if_neg p
theorem Rep.freeze {KF : Params → Frag} {g : Gd KF} {env : Env} {h : Heap} {ρ : Loc} {H : AH} {X : XH} (R : Rep g env h ρ H X) : Rep0 g h H (frz env h X) := by
  refine ⟨R.o.keep, R.o.size, R.o.obj, fun b o e => ?_⟩
  rcases frz_some e with ⟨e, q⟩ | e
  · refine ⟨e, ?_⟩
    rcases q with rfl | ⟨y, q⟩
    · exact ⟨R.f.nL.2.1, R.f.nL.1⟩
    · exact ⟨(R.f.cl y b q).2.1, (R.f.cl y b q).1⟩
  · exact R.o.ext b o e
/-- the frame is taken up again -/
theorem Rep.thaw {KF : Params → Frag} {g : Gd KF} {env : Env} {h h' : Heap} {ρ : Loc} {H H' : AH} {X : XH} (R : Rep g env h ρ H X) (kp : TupKeep h h') (R' : Rep0 g h' H' (frz env h X)) : Rep g env h' ρ H' X := by
  have back : ∀ b, (b = env.locals ∨ ∃ y, env.cells.lookup y = some b) → ∀ o, h.get? b = some o → h'.get? b = some o ∧ H' b = none := fun b q o e => by
    have z := R'.ext b o ((frz_in q).trans e)
    exact ⟨z.1, z.2.1⟩
  obtain ⟨m, hm, hl⟩ := R.f.ns
  obtain ⟨oL, es, ep, hL, hr⟩ := hm
  have bL := back env.locals (.inl rfl) oL hL
  refine ⟨⟨R'.keep, R'.size, R'.obj, fun b o e => ?_⟩, ⟨⟨m, ⟨oL, es, ep, bL.1, hr⟩, hl.mono kp fun y c v hc z => ?_⟩, ⟨R.f.nL.1, bL.2, R.f.nL.2.2⟩, fun y c hc => ?_, R.f.inj⟩⟩
  · by_cases nP : b = env.locals ∨ ∃ y, env.cells.lookup y = some b
    · exact R'.ext b o ((frz_in nP).trans (R.o.ext b o e).1)
    · exact R'.ext b o ((frz_out nP).trans e)
  · obtain ⟨o, z1, z2⟩ := z
    exact ⟨o, (back c (.inr ⟨y, hc⟩) o z1).1, z2⟩
  · obtain ⟨h1, h2, h3, h4, v, o, h5, h6⟩ := R.f.cl y c hc
    have z := back c (.inr ⟨y, hc⟩) o h5
    exact ⟨h1, z.2, h3, h4, v, o, z.1, h6⟩

section
variable {KF : Params → Frag} {g : Gd KF} {c : Cx} {ρ : Loc} {H : AH} {X : XH} {k : AV → Loc → AH → Prop} {x : AV → Loc → AH → Prop}

/-- a call, out of a frame -/
theorem Cal.at {n : Nat} {b : Bool} {f : Addr} {as : List AV} (h : Cal g n b f as H (fun v H' => k v ρ H') (fun v H' => x v ρ H')) (ok : Ok n b c.A) : OpL g c VR (fun vs => call (.ref f) vs) as ρ H k x := fun s X Q E vs R hv q e => by
  refine wpAny_call (h c.A s _ _ vs ok hv R.freeze (fun v d s' H' st R' hv' hk => ?_) fun v d s' H' st R' hv' hk => ?_)
  · exact q _ _ _ _ _ st (R.thaw st.tup R') hv' hk
  · exact e _ _ _ _ _ st (R.thaw st.tup R') hv' hk

noncomputable abbrev EvL {KF : Params → Frag} (g : Gd KF) (c : Cx) (pos : Pos) (es : List Expr) := Tri g c VRs (spliced (backTo pos (starEach es c.env)))
theorem EvL.nil {pos : Pos} {k : List AV → Loc → AH → Prop} (h : k [] ρ H) : EvL g c pos [] ρ H k x := fun s X Q E R q e => wpAny_items_nil (q _ _ _ _ _ (Step.refl s) R .nil h)
noncomputable def notStar : Expr → Bool
  | .Starred .. => false
  | _ => true
theorem each_of {e : Expr} {es : List Expr} {env : Env} (h : notStar e = true) : starEach (e :: es) env = (false, eval e env) :: starEach es env := by
  cases e <;> first | rfl | cases h
theorem EvL.cons {pos : Pos} {e : Expr} {es : List Expr} {k : List AV → Loc → AH → Prop} (h : Ev g c e ρ H (fun v ρ₁ H₁ => EvL g c pos es ρ₁ H₁ (fun vs ρ₂ H₂ => k (v :: vs) ρ₂ H₂) x) x)
    (he : notStar e = true := by rfl) : EvL g c pos (e :: es) ρ H k x := fun s X Q E R q er =>
  wpAny_items_cons (h s X _ _ R (fun v d s₁ ρ₁ H₁ st₁ R₁ hv h₁ => h₁ s₁ X _ _ R₁ (fun vs ds s₂ ρ₂ H₂ st₂ R₂ hvs h₂ => q _ _ _ _ _ (st₁.trans st₂) R₂ (.cons (hv.mono st₂.tup) hvs) h₂) (er.step st₁)) er) (each_of he)

/-- what is called, with its first arguments -/
noncomputable def CW {KF : Params → Frag} (g : Gd KF) (c : Cx) (pos : Pos) (f : AV) (first : List AV) (es : List Expr) (ρ : Loc) (H : AH) (k : AV → Loc → AH → Prop) (x : AV → Loc → AH → Prop) : Prop :=
  ∀ (s : Shared) (X : XH) (Q : Value → Shared → Prop) (E : Value → Shared → Prop) (fv : Value) (fs : List Value), Rep g c.env s.heap ρ H X → VR s.heap fv f → VRs s.heap fs first → Qs g c VR X s k Q → Es g c X s x E →
    wpAny (model g.prog g.w) c.A (callWith pos fv fs (backTo pos (starEach es c.env)) []) Q E s

theorem Ev.call {func : Expr} {args : List Expr} {pos : Pos} (h : Ev g c func ρ H (fun f ρ₁ H₁ => CW g c pos f [] args ρ₁ H₁ k x) x)
    (he : eval (.Call func args [] pos) c.env = (do callWith pos (← eval func c.env) [] (backTo pos (starEach args c.env)) (backToKw pos (keywordEach [] c.env))) := by kernel_rfl) : Ev g c (.Call func args [] pos) ρ H k x := fun s X Q E R q e =>
  Call_ (h s X _ _ R (fun f d s₁ ρ₁ H₁ st₁ R₁ hv h₁ => h₁ s₁ X _ _ f [] R₁ hv .nil (q.step st₁) (e.step st₁)) e) he

theorem VR.refInv {h : Heap} {v : Value} {a : Addr} (z : VR h v (.ref a)) : v = .ref a := by cases z; rfl

theorem evalArgs_list {M : Model} {A : Around} {E : Value → Shared → Prop} {s : Shared} {f : Value} {l : List (Bool × Sem Value)} {Q : Args → Shared → Prop} (hp : l.any (·.1) = false)
    (h : wpAny M A (spliced l) (fun vs s₁ => Q ⟨vs, []⟩ s₁) E s) : wpAny M A (evalArgs f true l []) Q E s := by
  cases l with
  | nil =>
    unfold evalArgs
    show wpAny M A (spliced [] >>= _) _ E s
    refine wpAny_bind (wpAny_mono h (fun vs s₁ h₁ => wpAny_bind (wpAny_pure (wpAny_holding ?_))) fun _ _ x => x)
    exact wpAny_bind (wpAny_pure (wpAny_bind (wpAny_pure (wpAny_pure h₁))))
  | cons p l =>
    obtain ⟨b, t⟩ := p
    rw [List.any_cons, Bool.or_eq_false_iff] at hp
    obtain ⟨hb, _⟩ := hp
    dsimp only at hb
    subst hb
    exact evalArgs_plain h
/-- a call of a function or a class of the text's own: its arguments first -/
theorem CW.own {pos : Pos} {f : Addr} {first : List AV} {es : List Expr} (hk : keepIn (KF g.w.params) (.ref f) = true) (hplain : (backTo pos (starEach es c.env)).any (·.1) = false)
    (h : EvL g c pos es ρ H (fun vs ρ₁ H₁ => OpL g c VR (fun vs => PySem.call (.ref f) vs) (first ++ vs) ρ₁ H₁ k x) x) : CW g c pos (.ref f) first es ρ H k x := fun s X Q E fv fs R hf hfs q e => by
  cases hf.refInv
  have key : wpAny (model g.prog g.w) c.A (spliced (backTo pos (starEach es c.env))) (fun vs s₁ => (KF g.w.params).In s₁.heap ∧ wpAny (model g.prog g.w) c.A (PySem.call (.ref f) (fs ++ vs)) Q E s₁) E s :=
    h s X _ _ R (fun vs ds s₁ ρ₁ H₁ st₁ R₁ hvs h₁ => ⟨R₁.K, h₁ s₁ X _ _ (fs ++ vs) R₁ (.append (hfs.mono st₁.tup) hvs) (q.step st₁) (e.step st₁)⟩) e
  refine callWith_of (by rw [hplain]; rfl) (keeps_K hk) ?_
  exact evalArgs_list hplain key
end
end Mine
end

section
open PySem PySem.W PyProof.Rows PySem.Calls
set_option Elab.async false
set_option genSizeOf false
set_option linter.unusedVariables false
namespace Mine
section
variable {KF : Params → Frag} {g : Gd KF} {c : Cx} {ρ : Loc} {H : AH} {X : XH} {k : AV → Loc → AH → Prop} {x : AV → Loc → AH → Prop}

/-- a method is looked up and called -/
noncomputable def Meth {KF : Params → Frag} (g : Gd KF) (c : Cx) (pos : Pos) (name : Str) (es : List Expr) (ov : AV) (ρ : Loc) (H : AH) (k : AV → Loc → AH → Prop) (x : AV → Loc → AH → Prop) : Prop :=
  ∀ (s : Shared) (X : XH) (Q : Value → Shared → Prop) (E : Value → Shared → Prop) (v : Value) (pl : Sem Bool), Rep g c.env s.heap ρ H X → VR s.heap v ov → Qs g c VR X s k Q → Es g c X s x E →
    wpAny (model g.prog g.w) c.A (getMethod v name pl) (fun r s' => wpAny (model g.prog g.w) c.A (callWith pos r.1 r.2 (backTo pos (starEach es c.env)) []) Q E s') E s

theorem Ev.method {o : Expr} {name : Str} {apos pos : Pos} {args : List Expr} (h : Ev g c o ρ H (fun ov ρ₁ H₁ => Meth g c pos name args ov ρ₁ H₁ k x) x)
    (hbase : attributeBase o name c.env (eval o c.env) = eval o c.env := by kernel_rfl)
    (hfew : methodCallForm (args.length + ([] : List Keyword).length) (backTo pos (starEach args c.env)) (backToKw pos (keywordEach [] c.env)) = true := by kernel_rfl)
    (hline : (apos.endLine == pos.line) = true := by kernel_rfl) : Ev g c (.Call (.Attribute o name apos) args [] pos) ρ H k x := by
  intro s X Q E R q e
  rw [arm_eval_Call, hbase]
  refine wpAny_bind (h s X _ _ R (fun ov d s₁ ρ₁ H₁ st₁ R₁ hv h₁ => ?_) e)
  refine wpAny_bind (wpAny_standAt ?_)
  have hpos : methodCallPos true o c.env apos pos = pure pos := by unfold methodCallPos; simp [hline]
  unfold methodCall
  rw [hfew]
  refine wpAny_bind (wpAny_holding (wpAny_mono (h₁ s₁ X _ _ ov _ R₁ hv (q.step st₁) (e.step st₁)) (fun r s₂ h₂ => ?_) fun _ _ z => z))
  exact wpAny_bind (wpAny_of_eq hpos h₂)

theorem Meth.own {pos : Pos} {name : Str} {es : List Expr} {t C d f : Addr} {fs : List (Str × AV)} (hH : H t = some (.inst C d fs)) (hc : ClsF (KF g.w.params) C) (hf : findIn (KF g.w.params) (.ref C) name = some (some (.ref f))) (ht : typeIn (KF g.w.params) (.ref f) = some (.type "function")) (hl : lookF fs name = none)
    (h : CW g c pos (.ref f) [.ref t] es ρ H k x) : Meth g c pos name es (.ref t) ρ H k x := by
  intro s X Q E v pl R hv q e
  (first | obtain ⟨_, rfl⟩ := hv.strI | obtain ⟨_, rfl⟩ := hv.intI | obtain rfl := hv.boolI | obtain rfl := hv.noneI | cases hv)
  obtain ⟨es', n, I, hF, _⟩ := R.inst hH
  obtain ⟨w, h1, h2⟩ := hF.look (y := name)
  rw [hl] at h2
  (first | obtain ⟨_, rfl⟩ := h2.strI | obtain ⟨_, rfl⟩ := h2.intI | obtain rfl := h2.boolI | obtain rfl := h2.noneI | cases h2)
  refine method_fn R.K I hc.get hc.gattr hf ht ?_ (h s X Q E _ _ R (.ref f) (.cons (.ref t) .nil) q e)
  show (lookIn name (dictOf es' n)).map _ = _
  rw [lookIn_dict, h1]; rfl

/-- a class of the text's own is called -/
structure MkF (K : Frag) (C fI : Addr) : Prop where
  made : makesIn K C = true
  ini : findIn K (.ref C) "__init__" = some (some (.ref fI))
  fn : typeIn K (.ref fI) = some (.type "function")

theorem Rep0.make {h : Heap} {C : Addr} (R : Rep0 g h H X) : Rep0 g ((h.push emptyDict).push (instObj C h.objs.size)) (upd (upd H h.objs.size (.own (h.objs.size + 1))) (h.objs.size + 1) (.inst C h.objs.size [])) X := by
  have hk : ∀ b o, h.get? b = some o → ((h.push emptyDict).push (instObj C h.objs.size)).get? b = some o := fun b o e => Heap.get?_push_of_some _ (Heap.get?_push_of_some _ e)
  have kp : TupKeep h _ := .of_keep hk
  have f0 := R.fresh
  have f1 : H (h.objs.size + 1) = none := by
    cases q : H (h.objs.size + 1) with
    | none => rfl
    | some o => exact absurd (R.lt q) (Nat.not_lt.mpr (Nat.le_succ _))
  have g1 : ((h.push emptyDict).push (instObj C h.objs.size)).get? h.objs.size = some emptyDict := Heap.get?_push_of_some _ (Heap.get?_push_size _ rfl)
  have g2 : ((h.push emptyDict).push (instObj C h.objs.size)).get? (h.objs.size + 1) = some (instObj C h.objs.size) := by
    have := Heap.get?_push_size (h.push emptyDict) (o := instObj C h.objs.size) rfl
    rwa [Heap.size_push] at this
  have ne : h.objs.size ≠ h.objs.size + 1 := Nat.ne_of_lt (Nat.lt_succ_self _)
  refine ⟨fun b o e => hk b o (R.keep b o e), by rw [Heap.size_push, Heap.size_push]; have := R.size; lia, fun b o e => ?_, fun b o e => ?_⟩
  · by_cases q2 : b = h.objs.size + 1
    · subst q2
      rw [upd_same] at e
      cases e
      exact ⟨by have := R.size; lia, g2, ⟨[], 0, g1, .nil⟩, (upd_ne ne).trans (upd_same _ _ _)⟩
    · rw [upd_ne q2] at e
      by_cases q1 : b = h.objs.size
      · subst q1
        rw [upd_same] at e
        cases e
        exact ⟨R.size, C, [], upd_same _ _ _⟩
      · rw [upd_ne q1] at e
        have z := R.obj b o e
        have w := (z.2.keep kp fun b' ob _ _ => hk b' ob).new (o' := .own (h.objs.size + 1)) f0
        exact ⟨z.1, w.new ((upd_ne (Ne.symm ne)).trans f1)⟩
  · have z := R.ext b o e
    have hb := Heap.lt_size z.1
    exact ⟨hk b o z.1, (upd_ne (Nat.ne_of_lt (Nat.lt_succ_of_lt hb))).trans ((upd_ne (Nat.ne_of_lt hb)).trans z.2.1), z.2.2⟩

/-- k': what holds of the made object once __init__ is through -/
theorem Cal.make {n : Nat} {b : Bool} {C fI : Addr} {as : List AV} {k x : AV → AH → Prop} (M : MkF (KF g.w.params) C fI)
    (h : ∀ a d, H a = none → H d = none → a ≠ d → Cal g n b fI (.ref a :: as) (upd (upd H d (.own a)) a (.inst C d [])) (fun v H' => v = .none ∧ k (.ref a) H') x) : Cal g (n + 1) b C as H k x := by
  intro A s X R vs ok hv R0 q e
  obtain ⟨hh, gn, dr, tk, os⟩ := s
  have f1 : H (hh.objs.size + 1) = none := by
    cases q : H (hh.objs.size + 1) with
    | none => rfl
    | some o => exact absurd (R0.lt q) (Nat.not_lt.mpr (Nat.le_succ _))
  have kp : TupKeep hh ((hh.push emptyDict).push (instObj C hh.objs.size)) := .of_keep fun b o e => Heap.get?_push_of_some _ (Heap.get?_push_of_some _ e)
  have st : Step ⟨hh, gn, dr, tk, os⟩ ⟨(hh.push emptyDict).push (instObj C hh.objs.size), gn, dr, tk, os⟩ := ⟨rfl, kp⟩
  have K := g.X.keeps R0.keep
  refine make_core (makes_of K M.made) (looks_findIn K M.ini) (fun self => bind_fn K self M.fn) (.inl rfl) ?_
  refine h (hh.objs.size + 1) hh.objs.size f1 R0.fresh (Nat.succ_ne_self _) _ _ X _ (.ref (hh.objs.size + 1) :: vs) ⟨?_, ?_, ok.hand⟩ (.cons (.ref _) (hv.mono kp)) R0.make (fun v d s' H' st' R' hv' hk => ?_) fun v d s' H' st' R' hv' hk => ?_
  · rw [depth_under_kw]; have := ok.depth; lia
  · show A.units + 1 + 40 * n ≤ 9000; have := ok.units; lia
  · obtain ⟨rfl, hk⟩ := hk
    (first | obtain ⟨_, rfl⟩ := hv'.strI | obtain ⟨_, rfl⟩ := hv'.intI | obtain rfl := hv'.boolI | obtain rfl := hv'.noneI | cases hv')
    exact ⟨rfl, q _ _ _ _ (st.trans st') R' (.ref _) hk⟩
  · exact e _ _ _ _ (st.trans st') R' hv' hk
end
end Mine
end

section
open PySem PySem.W PyProof.Rows PySem.Calls
set_option Elab.async false
set_option genSizeOf false
set_option linter.unusedVariables false
namespace Mine
section
variable {KF : Params → Frag} {g : Gd KF} {c : Cx} {ρ : Loc} {H : AH} {X : XH} {k : AV → Loc → AH → Prop} {kb : Bool → Loc → AH → Prop} {x : AV → Loc → AH → Prop}

/-- a built-in, or one of its types, is called: its arguments first -/
noncomputable def plainF : AV → Bool
  | .builtin _ => true
  | .type _ => true
  | _ => false
noncomputable def CallV (f : AV) (vs : List Value) : Sem Value := match f with
  | .builtin n => PySem.call (.builtin n) vs
  | .type n => PySem.call (.type n) vs
  | .ref a => PySem.call (.ref a) vs
  | _ => PySem.call .none vs
theorem plain_keeps {M : Model} {h : Heap} {f : AV} {fv : Value} (hf : plainF f = true) (hfv : VR h fv f) : (∀ h' : Heap, ∃ kp, (kp = Keeper.frame ∨ kp = Keeper.machine ∨ kp = Keeper.boundFrame) ∧ Looks M h' (keeperOf fv) kp) ∧ ∀ vs, CallV f vs = PySem.call fv vs := by
  cases f <;> first | ((first | obtain ⟨_, rfl⟩ := hf.strI | obtain ⟨_, rfl⟩ := hf.intI | obtain rfl := hf.boolI | obtain rfl := hf.noneI | cases hf); done) | ((first | obtain ⟨_, rfl⟩ := hfv.strI | obtain ⟨_, rfl⟩ := hfv.intI | obtain rfl := hfv.boolI | obtain rfl := hfv.noneI | cases hfv); exact ⟨fun h' => ⟨.machine, .inr (.inl rfl), Looks.of_pure rfl⟩, fun _ => rfl⟩)
theorem CW.plain {pos : Pos} {f : AV} {first : List AV} {es : List Expr} (hf : plainF f = true) (hplain : (backTo pos (starEach es c.env)).any (·.1) = false)
    (h : EvL g c pos es ρ H (fun vs ρ₁ H₁ => OpL g c VR (CallV f) (first ++ vs) ρ₁ H₁ k x) x) : CW g c pos f first es ρ H k x := fun s X Q E fv fs R hfv hfs q e => by
  have hv := plain_keeps (M := model g.prog g.w) hf hfv
  refine callWith_of (P := fun _ => True) (by rw [hplain]; rfl) (fun h' _ => hv.1 h') (evalArgs_list hplain ?_)
  exact h s X _ _ R (fun vs ds s₁ ρ₁ H₁ st₁ R₁ hvs h₁ => ⟨trivial, by
    have := h₁ s₁ X Q E (fs ++ vs) R₁ (.append (hfs.mono st₁.tup) hvs) (q.step st₁) (e.step st₁)
    rwa [hv.2] at this⟩) e

/-! operations upon ints -/
theorem Op2.of {α β : Type} {V : Heap → α → β → Prop} {f : Value → Value → Sem α} {a b : AV} {k : β → Loc → AH → Prop} {d : β}
    (h : ∀ (s : Shared) (va vb : Value) (Q : α → Shared → Prop) (E : Value → Shared → Prop), VR s.heap va a → VR s.heap vb b → (∀ v tk, V s.heap v d → Q v { s with toks := tk }) → wpAny (model g.prog g.w) c.A (f va vb) Q E s) (hk : k d ρ H) : Op2 g c V f a b ρ H k x :=
  fun s X Q E va vb R ha hb q e => h s va vb Q E ha hb fun v tk hv => q _ _ _ _ _ (Step.tok s tk) R hv hk
theorem Op1.of {α β : Type} {V : Heap → α → β → Prop} {f : Value → Sem α} {a : AV} {k : β → Loc → AH → Prop} {d : β}
    (h : ∀ (s : Shared) (va : Value) (Q : α → Shared → Prop) (E : Value → Shared → Prop), VR s.heap va a → (∀ v tk, V s.heap v d → Q v { s with toks := tk }) → wpAny (model g.prog g.w) c.A (f va) Q E s) (hk : k d ρ H) : Op1 g c V f a ρ H k x :=
  fun s X Q E va R ha q e => h s va Q E ha fun v tk hv => q _ _ _ _ _ (Step.tok s tk) R hv hk

variable {a b : Int} {u v : Str}
theorem Op2.add (h : k (.int (a + b)) ρ H) : Op2 g c VR (binaryOp .Add) (.int a) (.int b) ρ H k x := .of (fun s va vb Q E ha hb q => by obtain ⟨_, rfl⟩ := ha.intI; obtain ⟨_, rfl⟩ := hb.intI; exact add_int (q _ _ (.int _ _))) h
theorem Op2.mod (hb : b ≠ 0) (h : k (.int (a.fmod b)) ρ H) : Op2 g c VR (binaryOp .Mod) (.int a) (.int b) ρ H k x := .of (fun s va vb Q E ha hb' q => by obtain ⟨_, rfl⟩ := ha.intI; obtain ⟨_, rfl⟩ := hb'.intI; exact mod_int' hb (q _ _ (.int _ _))) h
theorem Op2.fdiv (hb : b ≠ 0) (hp : Builtin.divisionGoesByPylong a b = false) (h : k (.int (a.fdiv b)) ρ H) : Op2 g c VR (binaryOp .FloorDiv) (.int a) (.int b) ρ H k x := .of (fun s va vb Q E ha hb' q => by obtain ⟨_, rfl⟩ := ha.intI; obtain ⟨_, rfl⟩ := hb'.intI; exact floordiv_int hb (q _ _ (.int _ _)) (.inl hp)) h
theorem Op1.neg (h : k (.int (-a)) ρ H) : Op1 g c VR (unaryOp .USub) (.int a) ρ H k x := .of (fun s va Q E ha q => by obtain ⟨_, rfl⟩ := ha.intI; exact neg_int (q _ _ (.int _ _))) h
theorem Op2.lt (h : k (.bool (decide (a < b))) ρ H) : Op2 g c VR (compareOp .Lt) (.int a) (.int b) ρ H k x := .of (fun s va vb Q E ha hb q => by obtain ⟨_, rfl⟩ := ha.intI; obtain ⟨_, rfl⟩ := hb.intI; exact lt_int (q _ s.toks (.bool _))) h
theorem Op2.le (h : k (.bool (decide (a ≤ b))) ρ H) : Op2 g c VR (compareOp .LtE) (.int a) (.int b) ρ H k x := .of (fun s va vb Q E ha hb q => by obtain ⟨_, rfl⟩ := ha.intI; obtain ⟨_, rfl⟩ := hb.intI; exact le_int (q _ s.toks (.bool _))) h
theorem Op2.gt (h : k (.bool (decide (b < a))) ρ H) : Op2 g c VR (compareOp .Gt) (.int a) (.int b) ρ H k x := .of (fun s va vb Q E ha hb q => by obtain ⟨_, rfl⟩ := ha.intI; obtain ⟨_, rfl⟩ := hb.intI; exact gt_int (q _ s.toks (.bool _))) h
theorem Op2.ge (h : k (.bool (decide (b ≤ a))) ρ H) : Op2 g c VR (compareOp .GtE) (.int a) (.int b) ρ H k x := .of (fun s va vb Q E ha hb q => by obtain ⟨_, rfl⟩ := ha.intI; obtain ⟨_, rfl⟩ := hb.intI; exact ge_int (q _ s.toks (.bool _))) h
theorem Op2.eq (h : k (.bool (decide (a = b))) ρ H) : Op2 g c VR (compareOp .Eq) (.int a) (.int b) ρ H k x := .of (fun s va vb Q E ha hb q => by obtain ⟨_, rfl⟩ := ha.intI; obtain ⟨_, rfl⟩ := hb.intI; exact eq_int (q _ s.toks (.bool _))) h
theorem Op2.ne (h : k (.bool (!decide (a = b))) ρ H) : Op2 g c VR (compareOp .NotEq) (.int a) (.int b) ρ H k x := .of (fun s va vb Q E ha hb q => by obtain ⟨_, rfl⟩ := ha.intI; obtain ⟨_, rfl⟩ := hb.intI; exact ne_int (q _ s.toks (.bool _))) h
theorem Op2.eqS (h : k (.bool (decide (u = v))) ρ H) : Op2 g c VR (compareOp .Eq) (.str u) (.str v) ρ H k x := .of (fun s va vb Q E ha hb q => by obtain ⟨_, rfl⟩ := ha.strI; obtain ⟨_, rfl⟩ := hb.strI; exact eq_str (q _ s.toks (.bool _))) h
theorem Op2.neS (h : k (.bool (!decide (u = v))) ρ H) : Op2 g c VR (compareOp .NotEq) (.str u) (.str v) ρ H k x := .of (fun s va vb Q E ha hb q => by obtain ⟨_, rfl⟩ := ha.strI; obtain ⟨_, rfl⟩ := hb.strI; exact ne_str (q _ s.toks (.bool _))) h
theorem Op2.inS (h : k (.bool (!(Builtin.Str.occurrences v u 0 v.length 1).isEmpty)) ρ H) : Op2 g c VR (compareOp .In) (.str u) (.str v) ρ H k x := .of (fun s va vb Q E ha hb q => by obtain ⟨_, rfl⟩ := ha.strI; obtain ⟨_, rfl⟩ := hb.strI; exact in_str (q _ s.toks (.bool _))) h
theorem Op2.addS (hz : u.length + v.length ≤ sizeLine) (h : k (.str (u ++ v)) ρ H) : Op2 g c VR (binaryOp .Add) (.str u) (.str v) ρ H k x := .of (fun s va vb Q E ha hb q => by obtain ⟨_, rfl⟩ := ha.strI; obtain ⟨_, rfl⟩ := hb.strI; exact add_str (fun _ _ => q _ _ (.str _ _)) hz) h

noncomputable def isNone : AV → Bool
  | .none => true
  | _ => false
theorem VR.isNone {h : Heap} {v : Value} {d : AV} (z : VR h v d) : (v == Value.none) = Mine.isNone d := by (first | obtain ⟨_, rfl⟩ := z.strI | obtain ⟨_, rfl⟩ := z.intI | obtain rfl := z.boolI | obtain rfl := z.noneI | cases z) <;> rfl
theorem Op2.isN {d : AV} (h : k (.bool (isNone d)) ρ H) : Op2 g c VR (compareOp .Is) d .none ρ H k x := .of (fun s va vb Q E ha hb q => by (first | obtain ⟨_, rfl⟩ := hb.strI | obtain ⟨_, rfl⟩ := hb.intI | obtain rfl := hb.boolI | obtain rfl := hb.noneI | cases hb); exact is_none (q _ s.toks (by rw [ha.isNone]; exact .bool _))) h
theorem OpL.of {α β : Type} {V : Heap → α → β → Prop} {f : List Value → Sem α} {as : List AV} {k : β → Loc → AH → Prop} {d : β}
    (h : ∀ (s : Shared) (vs : List Value) (Q : α → Shared → Prop) (E : Value → Shared → Prop), VRs s.heap vs as → (∀ v tk, V s.heap v d → Q v { s with toks := tk }) → wpAny (model g.prog g.w) c.A (f vs) Q E s) (hk : k d ρ H) : OpL g c V f as ρ H k x :=
  fun s X Q E vs R ha q e => h s vs Q E ha fun v tk hv => q _ _ _ _ _ (Step.tok s tk) R hv hk
theorem OpL.chr (h0 : 0 ≤ a) (h1 : a ≤ 1114111) (h : k (.str ⟨#[a.toNat]⟩) ρ H) : OpL g c VR (CallV (.builtin "chr")) [.int a] ρ H k x := .of (fun s vs Q E ha q => by
  cases ha with
  | cons z r => (first | obtain ⟨_, rfl⟩ := z.strI | obtain ⟨_, rfl⟩ := z.intI | obtain rfl := z.boolI | obtain rfl := z.noneI | cases z); cases r; exact chr_of_range h0 h1 (q _ _ (.str _ _))) h
theorem OpL.ord {n : Nat} (h : k (.int n) ρ H) : OpL g c VR (CallV (.builtin "ord")) [.str ⟨#[n]⟩] ρ H k x := .of (fun s vs Q E ha q => by
  cases ha with
  | cons z r => (first | obtain ⟨_, rfl⟩ := z.strI | obtain ⟨_, rfl⟩ := z.intI | obtain rfl := z.boolI | obtain rfl := z.noneI | cases z); cases r; exact P.ord_of_char (q _ _ (.int _ _))) h

/-! lists and tuples -/
theorem Rep.list {env : Env} {h : Heap} {t : Addr} {vs : List AV} (R : Rep g env h ρ H X) (hH : H t = some (.list vs)) : ∃ its n, h.get? t = some (listOf its.toArray n) ∧ VRs h its vs := (R.o.obj t _ hH).2
theorem isList_of {h : Heap} {t : Addr} {its : List Value} {n : Nat} (e : h.get? t = some (listOf its.toArray n)) : h.IsList t its.toArray := ⟨_, e, rfl, n, rfl⟩


theorem OpL.lenL {t : Addr} {vs : List AV} (hH : H t = some (.list vs)) (hz : vs.length < 2 ^ 60) (h : k (.int vs.length) ρ H) : OpL g c VR (CallV (.builtin "len")) [.ref t] ρ H k x := fun s X Q E ws R ha q e => by
  cases ha with
  | cons z r =>
    cases z.refInv
    cases r
    obtain ⟨its, n, h1, h2⟩ := R.list hH
    refine len_list (isList_of h1) (by rw [List.size_toArray, h2.length]; lia) (q _ _ _ _ _ (Step.tok s _) R ?_ h)
    rw [List.size_toArray, h2.length]
    exact .int _ _
theorem VRs.isTup {h : Heap} {v : Value} {ds : List AV} (z : VR h v (.tup ds)) : ∃ a vs, v = .ref a ∧ IsTup h a vs.toArray ∧ VRs h vs ds := by
  cases z with
  | tup e r => exact ⟨_, _, rfl, ⟨_, e, rfl, _, rfl⟩, r⟩
/-- an item -/
theorem Ev.sub {value slice : Expr} {pos : Pos} (h : Ev g c value ρ H (fun o ρ₁ H₁ => Ev g c slice ρ₁ H₁ (fun i ρ₂ H₂ => Op2 g c VR (subscriptTail value slice) o i ρ₂ H₂ k x) x) x) : Ev g c (.Subscript value slice pos) ρ H k x := fun s X Q E R q e =>
  Subscript_ (h s X _ _ R (fun a a' s₁ ρ₁ H₁ st₁ R₁ va h₁ => h₁ s₁ X _ _ R₁ (fun b b' s₂ ρ₂ H₂ st₂ R₂ vb h₂ =>
    h₂ s₂ X _ _ a b R₂ (va.mono st₂.tup) vb (q.step (st₁.trans st₂)) (e.step (st₁.trans st₂))) (e.step st₁)) e)
/-- the slice is no slice -/
noncomputable def PlainSub (slice : Expr) : Prop := ∀ o i, subscripted slice false o i = operate [o, i] (getItem o i)
theorem Op2.itemL {value slice : Expr} {t : Addr} {vs : List AV} {i : Int} {d : AV} (hH : H t = some (.list vs)) (h0 : 0 ≤ i) (hz : i < 2 ^ 63) (hd : vs[i.toNat]? = some d) (h : k d ρ H) (hs : PlainSub slice := by intro _ _; with_unfolding_all rfl) :
    Op2 g c VR (subscriptTail value slice) (.ref t) (.int i) ρ H k x := fun s X Q E va vb R ha hb q e => by
  cases ha.refInv
  (first | obtain ⟨_, rfl⟩ := hb.strI | obtain ⟨_, rfl⟩ := hb.intI | obtain rfl := hb.boolI | obtain rfl := hb.noneI | cases hb)
  obtain ⟨its, n, h1, h2⟩ := R.list hH
  obtain ⟨v, h3, h4⟩ := h2.get hd
  have hl := isList_of h1
  exact tail_any hl.typeIs slot_list_getitem.lookup (wpAny_getItem_list hl h0 hz (by simpa using h3) (q _ _ _ _ _ (Step.refl s) R h4 h)) (hs _ _)
theorem Op2.itemLneg {value slice : Expr} {t : Addr} {vs : List AV} {i : Int} {d : AV} (hH : H t = some (.list vs)) (h0 : i < 0) (hz : -(2 ^ 63) ≤ i) (hn : -(vs.length : Int) ≤ i) (hd : vs[(i + vs.length).toNat]? = some d) (h : k d ρ H) (hs : PlainSub slice := by intro _ _; with_unfolding_all rfl) :
    Op2 g c VR (subscriptTail value slice) (.ref t) (.int i) ρ H k x := fun s X Q E va vb R ha hb q e => by
  cases ha.refInv
  (first | obtain ⟨_, rfl⟩ := hb.strI | obtain ⟨_, rfl⟩ := hb.intI | obtain rfl := hb.boolI | obtain rfl := hb.noneI | cases hb)
  obtain ⟨its, n, h1, h2⟩ := R.list hH
  obtain ⟨v, h3, h4⟩ := h2.get hd
  have hl := isList_of h1
  have hlen := h2.length
  exact tail_any hl.typeIs slot_list_getitem.lookup (wpAny_getItem_list_neg hl h0 (by rw [List.size_toArray, hlen]; exact hn) hz (by rw [List.size_toArray, hlen]; simpa using h3) (q _ _ _ _ _ (Step.refl s) R h4 h)) (hs _ _)
theorem Op2.itemT {value slice : Expr} {ds : List AV} {i : Int} {d : AV} (h0 : 0 ≤ i) (hz : i < 2 ^ 63) (hd : ds[i.toNat]? = some d) (h : k d ρ H) (hs : PlainSub slice := by intro _ _; with_unfolding_all rfl) :
    Op2 g c VR (subscriptTail value slice) (.tup ds) (.int i) ρ H k x := fun s X Q E va vb R ha hb q e => by
  obtain ⟨a, vs, rfl, h1, h2⟩ := VRs.isTup ha
  (first | obtain ⟨_, rfl⟩ := hb.strI | obtain ⟨_, rfl⟩ := hb.intI | obtain rfl := hb.boolI | obtain rfl := hb.noneI | cases hb)
  obtain ⟨v, h3, h4⟩ := h2.get hd
  have hlt : i.toNat < ds.length := (List.getElem?_eq_some_iff.mp hd).1
  have hlen := h2.length
  refine tail_any h1.typeIs slot_tuple_getitem.lookup (getItem_tuple h1 (by lia) hz (j := i.toNat) ?_ (by simpa using h3) (q _ _ _ _ _ (Step.refl s) R h4 h)) (hs _ _)
  unfold seqIndex?
  simp only [if_neg (show ¬ i < 0 by lia)]
  rw [if_pos]
  rw [Bool.and_eq_true, decide_eq_true_eq, decide_eq_true_eq, List.size_toArray, hlen]
  lia

/-- a tuple is made -/
theorem Ev.tuple {es : List Expr} {n : Nat} {pos : Pos} (h : EvL g c pos es ρ H (fun vs ρ₁ H₁ => vs.length ≤ 1000000 ∧ k (.tup vs) ρ₁ H₁) x) : Ev g c (.Tuple es n pos) ρ H k x := fun s X Q E R q e =>
  wpAny_Tuple (h s X _ _ R (fun vs ds s₁ ρ₁ H₁ st₁ R₁ hvs h₁ => ⟨by rw [sizeLine_eq, hvs.length]; lia, by
    have hk : ∀ b o, s₁.heap.get? b = some o → (s₁.heap.push { cls := .type "tuple", data := .seq vs.toArray }).get? b = some o := fun b o e => Heap.get?_push_of_some _ e
    refine q _ _ _ _ _ (st₁.trans (s₃ := { s₁ with heap := s₁.heap.push { cls := .type "tuple", data := .seq vs.toArray } }) ⟨rfl, .of_keep hk⟩) (R₁.push _) ?_ h₁.2
    exact .tup (n := 0) (Heap.get?_push_size _ rfl) (hvs.mono (.of_keep hk))⟩) e)
/-- a list is made -/
theorem Ev.list {es : List Expr} {pos : Pos} (h : EvL g c pos es ρ H (fun vs ρ₁ H₁ => vs.length ≤ 1000000 ∧ ∀ a, H₁ a = none → k (.ref a) ρ₁ (upd H₁ a (.list vs))) x) : Ev g c (.List es pos) ρ H k x := fun s X Q E R q e =>
  wpAny_List (h s X _ _ R (fun vs ds s₁ ρ₁ H₁ st₁ R₁ hvs h₁ => ⟨by rw [sizeLine_eq, hvs.length]; lia, by
    have hk : ∀ b o, s₁.heap.get? b = some o → (s₁.heap.push { cls := .type "list", data := .seq vs.toArray }).get? b = some o := fun b o e => Heap.get?_push_of_some _ e
    refine q _ _ _ _ _ (st₁.trans (s₃ := { s₁ with heap := s₁.heap.push { cls := .type "list", data := .seq vs.toArray } }) ⟨rfl, .of_keep hk⟩) (R₁.alloc ?_) (.ref _) (h₁.2 _ R₁.o.fresh)
    exact ⟨vs, 0, Heap.get?_push_size _ rfl, hvs.mono (.of_keep hk)⟩⟩) e)
end
end Mine
end

section
open PySem PySem.W PyProof.Rows PySem.Calls
set_option Elab.async false
set_option genSizeOf false
set_option linter.unusedVariables false
namespace Mine
theorem ifT {p : Prop} [Decidable p] {A B : Prop} (h : p) (a : A) : if p then A else B := by rw [if_pos h]; exact a
theorem ifF {p : Prop} [Decidable p] {A B : Prop} (h : ¬ p) (b : B) : if p then A else B := by rw [if_neg h]; exact b
theorem ifDT {p : Prop} [Decidable p] {A B : Prop} (h : p) (a : A) : if decide p = true then A else B := ifT (decide_eq_true h) a
theorem ifDF {p : Prop} [Decidable p] {A B : Prop} (h : ¬ p) (b : B) : if decide p = true then A else B := ifF (by rw [decide_eq_false h]; decide) b
theorem ifDS {p : Prop} [Decidable p] {A B : Prop} (a : p → A) (b : ¬ p → B) : if decide p = true then A else B := by
  by_cases h : p
  · exact ifDT h (a h)
  · exact ifDF h (b h)
theorem ifNT {p : Prop} [Decidable p] {A B : Prop} (h : ¬ p) (a : A) : if (!decide p) = true then A else B := ifT (by rw [decide_eq_false h]; rfl) a
theorem ifNF {p : Prop} [Decidable p] {A B : Prop} (h : p) (b : B) : if (!decide p) = true then A else B := ifF (by rw [decide_eq_true h]; decide) b
theorem ifNS {p : Prop} [Decidable p] {A B : Prop} (a : ¬ p → A) (b : p → B) : if (!decide p) = true then A else B := by
  by_cases h : p
  · exact ifNF h (b h)
  · exact ifNT h (a h)
theorem ifBS {b : Bool} {A B : Prop} (x : b = true → A) (y : b = false → B) : if b = true then A else B := by
  cases b
  · exact ifF (by decide) (y rfl)
  · exact ifT rfl (x rfl)
theorem then_next {KF : Params → Frag} {g : Gd KF} {c : Cx} {rest : List Stmt} {k : AF → Loc → AH → Prop} {x : AV → Loc → AH → Prop} {ρ : Loc} {H : AH} (h : Exs g c rest ρ H k x) : Then g c rest k x .next ρ H := h
theorem then_ret {KF : Params → Frag} {g : Gd KF} {c : Cx} {rest : List Stmt} {k : AF → Loc → AH → Prop} {x : AV → Loc → AH → Prop} {ρ : Loc} {H : AH} {v : AV} (h : k (.ret v) ρ H) : Then g c rest k x (.ret v) ρ H := h
theorem turn_next {KF : Params → Frag} {g : Gd KF} {c : Cx} {t : Expr} {b : List Stmt} {k : AF → Loc → AH → Prop} {x : AV → Loc → AH → Prop} {ρ : Loc} {H : AH} (h : Lp g c t b ρ H k x) : Turn g c t b k x .next ρ H := h
theorem turn_ret {KF : Params → Frag} {g : Gd KF} {c : Cx} {t : Expr} {b : List Stmt} {k : AF → Loc → AH → Prop} {x : AV → Loc → AH → Prop} {ρ : Loc} {H : AH} {v : AV} (h : k (.ret v) ρ H) : Turn g c t b k x (.ret v) ρ H := h
theorem GV.ref {KF : Params → Frag} {g : Gd KF} {a : Addr} : GV g (.ref a) (.ref a) := fun _ _ => .ref _
theorem GV.int {KF : Params → Frag} {g : Gd KF} {i : Int} {t : Tok} : GV g (.int i t) (.int i) := fun _ _ => .int _ _
theorem GV.str {KF : Params → Frag} {g : Gd KF} {i : Str} {t : Tok} : GV g (.str i t) (.str i) := fun _ _ => .str _ _
theorem lookF_same {r : List (Str × AV)} {y : Str} {v : AV} : lookF ((y, v) :: r) y = some v := if_pos rfl
theorem lookF_next {r : List (Str × AV)} {y z : Str} {v : AV} {w : Option AV} (h : (y == z) = false) (e : lookF r z = w) : lookF ((y, v) :: r) z = w := (if_neg (beq_eq_false_iff_ne.mp h)).trans e
theorem putF_same {r : List (Str × AV)} {y : Str} {v w : AV} : putF ((y, w) :: r) y v = (y, v) :: r := if_pos rfl
theorem putF_next {r r' : List (Str × AV)} {y z : Str} {v w : AV} (h : (y == z) = false) (e : putF r z v = r') : putF ((y, w) :: r) z v = (y, w) :: r' := (if_neg (beq_eq_false_iff_ne.mp h)).trans (by rw [e])
theorem upd_other {H : AH} {a b : Addr} {o : AObj} {o' : Option AObj} (h : b ≠ a) (e : H b = o') : upd H a o b = o' := (upd_ne h).trans e
theorem setL_other {ρ : Loc} {x y : Str} {v : AV} {o : Option AV} (h : (y == x) = false) (e : ρ y = o) : setL ρ x v y = o := (setL_ne (beq_eq_false_iff_ne.mp h)).trans e
/-- a field stored, its new list told -/
theorem Op2.setF {KF : Params → Frag} {g : Gd KF} {c : Cx} {ρ : Loc} {H : AH} {x : AV → Loc → AH → Prop} {t C d : Addr} {fs fs' : List (Str × AV)} {attr : Str} {v : AV} {k : Unit → Loc → AH → Prop} (hH : H t = some (.inst C d fs)) (hc : ClsF (KF g.w.params) C) (ha : findIn (KF g.w.params) (.ref C) attr = some none) (hf : putF fs attr v = fs') (hz : fs.length ≤ 900)
    (h : k () ρ (upd H t (.inst C d fs'))) : Op2 g c (fun _ (_ : Unit) (_ : Unit) => True) (fun a b => setAttr a attr b) (.ref t) v ρ H k x := .setField hH hc ha hz (by rw [hf]; exact h)
/-- a field read -/
theorem Op1.getF {KF : Params → Frag} {g : Gd KF} {c : Cx} {ρ : Loc} {H : AH} {k : AV → Loc → AH → Prop} {x : AV → Loc → AH → Prop} {t C d : Addr} {fs : List (Str × AV)} {attr : Str} {v : AV} (hH : H t = some (.inst C d fs)) (hc : ClsF (KF g.w.params) C) (ha : findIn (KF g.w.params) (.ref C) attr = some none) (hl : lookF fs attr = some v) (hb : notBi v = true)
    (h : k v ρ H) : Op1 g c VR (fun o => getAttr o attr true) (.ref t) ρ H k x := .field hH hc ha rfl hl hb h
end Mine
end

section
open PySem PySem.W PyProof.Rows PySem.Calls
set_option Elab.async false
set_option genSizeOf false
set_option linter.unusedVariables false
namespace Mine
/-! iterators: their own objects stand over the outside -/
noncomputable def ovr (X XI : XH) : XH := fun a => match XI a with
  | some o => some o
  | none => X a
theorem ovr_none {X XI : XH} {a : Addr} (e : XI a = none) : ovr X XI a = X a := by unfold ovr; rw [e]
theorem ovr_some {X XI : XH} {a : Addr} {o : Obj} (e : XI a = some o) : ovr X XI a = some o := by unfold ovr; rw [e]
theorem ovr_isnone {X XI : XH} {a : Addr} (e : ovr X XI a = none) : XI a = none ∧ X a = none := by
  cases q : XI a with
  | some o => rw [ovr_some q] at e; cases e
  | none => rw [ovr_none q] at e; exact ⟨rfl, e⟩
noncomputable def one (I : Addr) (o : Obj) : XH := fun a => if a = I then some o else none
theorem one_same (I : Addr) (o : Obj) : one I o I = some o := if_pos rfl
theorem one_some {I a : Addr} {o o' : Obj} (e : one I o a = some o') : a = I ∧ o = o' := by
  unfold one at e
  split at e
  · rename_i q; exact ⟨q, Option.some.inj e⟩
  · cases e
noncomputable def ExtOff (XI : XH) (h h' : Heap) : Prop := ∀ b o, XI b = none → h.get? b = some o → h'.get? b = some o
theorem ExtOff.one {I : Addr} {o : Obj} {h h' : Heap} (e : Heap.ExtBut I h h') : ExtOff (Mine.one I o) h h' := fun b ob q eb => e b ob (fun e' => by subst e'; rw [one_same] at q; cases q) eb

section
variable {KF : Params → Frag} {g : Gd KF} {c : Cx} {ρ : Loc} {H : AH} {X : XH} {x : AV → Loc → AH → Prop}

/-- things outside are turned -/
theorem Rep.master {env : Env} {h h' : Heap} (R : Rep g env h ρ H X) (S : Addr → Prop) (ext : ∀ b o, ¬ S b → h.get? b = some o → h'.get? b = some o) (kp : TupKeep h h')
    (hS : ∀ b, S b → H b = none ∧ X b = none ∧ b ≠ env.locals ∧ g.hb.objs.size ≤ b ∧ ∀ y, env.cells.lookup y ≠ some b) : Rep g env h' ρ H X := by
  obtain ⟨m, h1, h2⟩ := R.f.ns
  have nl : ¬ S env.locals := fun q => (hS _ q).2.2.1 rfl
  have hns : h'.Ns env.locals m := by
    obtain ⟨oL, es, ep, hL, hr⟩ := h1
    exact ⟨oL, es, ep, ext _ _ nl hL, hr⟩
  refine ⟨⟨fun b o e => ext b o (fun q => ?_) (R.o.keep b o e), Nat.le_trans R.f.nL.1 (Nat.le_of_lt hns.lt), fun b o e => ?_, fun b o e => ?_⟩, ⟨⟨m, hns, h2.mono kp fun y c v hc q => IsCell.at q fun o => ext c o fun q' => (hS _ q').2.2.2.2 y hc⟩, R.f.nL, fun y c e => ?_, R.f.inj⟩⟩
  · exact absurd (Heap.lt_size e) (Nat.not_lt.mpr (hS b q).2.2.2.1)
  · have w := R.o.obj b o e
    refine ⟨w.1, w.2.keep kp fun b' ob hb _ e' => ext b' ob (fun q => ?_) e'⟩
    have := (hS b' q).1
    rcases hb with rfl | hb
    · rw [e] at this; cases this
    · rw [hb] at this; cases this
  · have w := R.o.ext b o e
    exact ⟨ext b o (fun q => by have := (hS b q).2.1; rw [e] at this; cases this) w.1, w.2⟩
  · obtain ⟨h1, h2, h3, h4, v, h5⟩ := R.f.cl y c e
    exact ⟨h1, h2, h3, h4, v, IsCell.at h5 fun o => ext c o fun q' => (hS _ q').2.2.2.2 y e⟩
theorem Rep.weaken {env : Env} {h : Heap} {XI : XH} (R : Rep g env h ρ H (ovr X XI)) (hd : ∀ a o, XI a = some o → X a = none) : Rep g env h ρ H X :=
  ⟨⟨R.o.keep, R.o.size, R.o.obj, fun b o e => R.o.ext b o (by
    cases q : XI b with
    | none => exact (ovr_none q).trans e
    | some o' => rw [hd b o' q] at e; cases e)⟩,
   ⟨R.f.ns, ⟨R.f.nL.1, R.f.nL.2.1, (ovr_isnone R.f.nL.2.2).2⟩, fun y c e => let ⟨h1, h2, h3, h4⟩ := R.f.cl y c e; ⟨h1, h2, fun hf => (ovr_isnone (h3 hf)).2, h4⟩, R.f.inj⟩⟩
theorem Rep.addX {env : Env} {h : Heap} {XI : XH} (R : Rep g env h ρ H X) (hi : ∀ b o, XI b = some o → h.get? b = some o ∧ H b = none ∧ g.hb.objs.size ≤ b ∧ b ≠ env.locals ∧ ∀ y, env.cells.lookup y ≠ some b) : Rep g env h ρ H (ovr X XI) := by
  have no : ∀ b, (∀ o, XI b = some o → False) → XI b = none := fun b q => by
    cases e : XI b with
    | none => rfl
    | some o => exact (q o e).elim
  refine ⟨⟨R.o.keep, R.o.size, R.o.obj, fun b o e => ?_⟩, ⟨R.f.ns, ⟨R.f.nL.1, R.f.nL.2.1, ?_⟩, fun y c e => ?_, R.f.inj⟩⟩
  · cases q : XI b with
    | none => rw [ovr_none q] at e; exact R.o.ext b o e
    | some o' => rw [ovr_some q] at e; cases e; obtain ⟨h1, h2, h3, _⟩ := hi b _ q; exact ⟨h1, h2, h3⟩
  · exact (ovr_none (no _ fun o e => (hi _ o e).2.2.2.1 rfl)).trans R.f.nL.2.2
  · obtain ⟨h1, h2, h3, h4⟩ := R.f.cl y c e
    exact ⟨h1, h2, fun hf => (ovr_none (no _ fun o e' => (hi _ o e').2.2.2.2 y e)).trans (h3 hf), h4⟩
/-- where an iterator's own things lie -/
structure Off (X : XH) (env : Env) (XI : XH) : Prop where
  x : ∀ a o, XI a = some o → X a = none
  c : ∀ a o, XI a = some o → ∀ y, env.cells.lookup y ≠ some a
theorem Off.dom {env : Env} {XI XI' : XH} (f : Off X env XI) (hd : ∀ a, (XI' a).isSome = (XI a).isSome) : Off X env XI' := by
  have key : ∀ a o, XI' a = some o → ∃ o', XI a = some o' := fun a o e => by have := hd a; rw [e] at this; exact Option.isSome_iff_exists.mp this.symm
  exact ⟨fun a o e => let ⟨o', e'⟩ := key a o e; f.x a o' e', fun a o e => let ⟨o', e'⟩ := key a o e; f.c a o' e'⟩
theorem Rep.offS {env : Env} {h : Heap} {XI : XH} (R : Rep g env h ρ H (ovr X XI)) (f : Off X env XI) (b : Addr) (o : Obj) (e : XI b = some o) : H b = none ∧ X b = none ∧ b ≠ env.locals ∧ g.hb.objs.size ≤ b ∧ ∀ y, env.cells.lookup y ≠ some b :=
  ⟨(R.o.ext b o (ovr_some e)).2.1, f.x b o e, (fun q => by have := (ovr_isnone R.f.nL.2.2).1; rw [← q, e] at this; cases this), (R.o.ext b o (ovr_some e)).2.2, f.c b o e⟩
theorem Rep.leave {env : Env} {h h' : Heap} {XI : XH} (R : Rep g env h ρ H (ovr X XI)) (f : Off X env XI) (ext : ExtOff XI h h') (kp : TupKeep h h') : Rep g env h' ρ H X :=
  (R.weaken f.x).master (fun b => XI b ≠ none) (fun b o q e => ext b o (by
    cases q' : XI b with
    | none => rfl
    | some o' => exact (q (by rw [q']; intro z; cases z)).elim) e) kp fun b q => by
    obtain ⟨o, e⟩ := Option.ne_none_iff_exists'.mp q
    exact R.offS f b o e
theorem Rep.turn {env : Env} {h h' : Heap} {XI XI' : XH} (R : Rep g env h ρ H (ovr X XI)) (f : Off X env XI) (ext : ExtOff XI h h') (kp : TupKeep h h') (hd : ∀ a, (XI' a).isSome = (XI a).isSome) (hi : ∀ a o, XI' a = some o → h'.get? a = some o) : Rep g env h' ρ H (ovr X XI') :=
  (R.leave f ext kp).addX fun b o e => by
    have := hd b; rw [e] at this
    obtain ⟨o', e'⟩ := Option.isSome_iff_exists.mp this.symm
    have z := R.offS f b o' e'
    exact ⟨hi b o e, z.1, z.2.2.2.1, z.2.2.1, z.2.2.2.2⟩

/-- an iterator gives these, one by one, as long as D holds -/
noncomputable def ItP {KF : Params → Frag} (g : Gd KF) (A : Around) (tg : Expr) (it : Value) (D : AH → Prop) : List AV → Heap → XH → Prop
  | [], h0, XI => ∀ (s : Shared) (H : AH) (X : XH) (Q : Option Value → Shared → Prop) (E : Value → Shared → Prop), Rep0 g s.heap H (ovr X XI) → TupKeep h0 s.heap → D H →
      (∀ h', ExtOff XI s.heap h' → TupKeep s.heap h' → Q none { s with heap := h' }) → wpAny (model g.prog g.w) A (pyNext it) Q E s
  | v :: vs, h0, XI => ∀ (s : Shared) (H : AH) (X : XH) (Q : Option Value → Shared → Prop) (E : Value → Shared → Prop), Rep0 g s.heap H (ovr X XI) → TupKeep h0 s.heap → D H →
      (∀ x h' tk XI', ExtOff XI s.heap h' → TupKeep s.heap h' → (∀ a, (XI' a).isSome = (XI a).isSome) → (∀ a o, XI' a = some o → h'.get? a = some o) → VR h' x v → ItP g A tg it D vs h' XI' →
        (∀ Q' E', Q' () { s with heap := h', toks := tk } → wpAny (model g.prog g.w) A (letOwnedTupleGo tg it x) Q' E' { s with heap := h', toks := tk }) → Q (some x) { s with heap := h', toks := tk }) → wpAny (model g.prog g.w) A (pyNext it) Q E s
noncomputable def ItI {KF : Params → Frag} (g : Gd KF) (A : Around) (it : Value) (XI : XH) : Prop :=
  ∀ (s : Shared) (Q : Value → Shared → Prop) (E : Value → Shared → Prop), (∀ a o, XI a = some o → s.heap.get? a = some o) → Q it s → wpAny (model g.prog g.w) A (pyIter it) Q E s

theorem letGo_plain {A : Around} {s : Shared} {tg : Expr} {I : Addr} {xv : Value} {o : Obj} {n : String} {Q : Unit → Shared → Prop} {E : Value → Shared → Prop} (ho : s.heap.get? I = some o) (hc : o.cls = .type n)
    (hn : (["enumerate", "zip", "dict_itemiterator", "dict_reverseitemiterator", "odict_iterator", "itertools.zip_longest", "itertools.pairwise"].contains n) = false) (h : Q () s) :
    wpAny (model g.prog g.w) A (letOwnedTupleGo tg (.ref I) xv) Q E s := by
  have key : ∀ a : Addr, wpAny (model g.prog g.w) A (do
      let o ← load I
      match o.cls, o.data with
      | .type n, .fields vs =>
        if ["enumerate", "zip", "dict_itemiterator", "dict_reverseitemiterator", "odict_iterator", "itertools.zip_longest", "itertools.pairwise"].contains n && vs[0]? == some (rawInt a) then
          rule "for.unpacks-the-owned-tuple"
          updateField I 0 .none
      | _, _ => pure ()) Q E s := fun a => by
    refine wpAny_bind (wpAny_load ho ?_)
    rw [hc]
    cases o.data <;> first
      | exact wpAny_pure h
      | (dsimp only
         rw [hn, Bool.false_and, if_neg Bool.false_ne_true]
         exact wpAny_pure h)
  cases tg <;> first
    | exact wpAny_pure h
    | (cases xv <;> first | exact wpAny_pure h | exact key _)

theorem drop_eq {α : Type} {all : List α} {i : Nat} {v : α} {vs : List α} (e : all.drop i = v :: vs) : all[i]? = some v ∧ all.drop (i + 1) = vs := by
  constructor
  · rw [← List.head?_drop, e]; rfl
  · rw [← List.tail_drop, e]; rfl
theorem drop_nil {α : Type} {all : List α} {i : Nat} (e : all.drop i = []) : all[i]? = none := by rw [← List.head?_drop, e]; rfl
theorem VRs.none {h : Heap} {vs : List Value} {ds : List AV} (z : VRs h vs ds) {i : Nat} (e : ds[i]? = Option.none) : vs[i]? = Option.none := by
  rw [List.getElem?_eq_none_iff] at e ⊢
  rw [z.length]; exact e
theorem one_dom {I : Addr} {o o' : Obj} (a : Addr) : (one I o' a).isSome = (one I o a).isSome := by unfold one; split <;> rfl

theorem ItP.list {A : Around} {tg : Expr} {I l : Addr} {all : List AV} (hh : A.handled = none) : ∀ (rest : List AV) (i : Nat) (h0 : Heap) (o : Obj), all.drop i = rest → o.cls = .type "list_iterator" → o.data = .fields #[.ref l, .int i 0] →
    ItP g A tg (.ref I) (fun H => H l = some (.list all)) rest h0 (one I o)
  | [], i, h0, o, hr, hc, hd => fun s H X Q E R kp hD q => by
    have ho := (R.ext I o (ovr_some (one_same I o))).1
    obtain ⟨its, n, h1, h2⟩ := (R.obj l _ hD).2
    refine wpAny_pyNext_list_end hh ⟨o, ho, hc, hd⟩ (isList_of h1) (by rw [List.getElem?_toArray]; exact h2.none (drop_nil hr)) fun h' e => q h' (.one e) (.extBut e ho (.of_cls (by rw [hc]; simp)))
  | v :: vs, i, h0, o, hr, hc, hd => fun s H X Q E R kp hD q => by
    have ho := (R.ext I o (ovr_some (one_same I o))).1
    obtain ⟨its, n, h1, h2⟩ := (R.obj l _ hD).2
    obtain ⟨hv, hr'⟩ := drop_eq hr
    obtain ⟨x, hx, hxv⟩ := h2.get hv
    refine wpAny_pyNext_list_item ⟨o, ho, hc, hd⟩ (isList_of h1) (by rw [List.getElem?_toArray]; exact hx) fun h' hit' hs' => ?_
    obtain ⟨o', ho', hc', hd'⟩ := hit'
    have kp' : TupKeep s.heap h' := .extBut hs'.extBut ho (.of_cls (by rw [hc]; simp))
    exact q x h' s.toks (one I o') (.one hs'.extBut) kp' one_dom (fun a ob e => by obtain ⟨rfl, rfl⟩ := one_some e; exact ho') (hxv.mono kp') (ItP.list hh vs (i + 1) h' o' hr' hc' hd') fun Q' E' hq => letGo_plain ho' hc' (by decide) hq
theorem ItP.tup {A : Around} {tg : Expr} {I t : Addr} {all : List AV} {its : List Value} {n : Nat} (hh : A.handled = none) : ∀ (rest : List AV) (i : Nat) (h0 : Heap) (o : Obj), all.drop i = rest → h0.get? t = some (tupObj its n) → VRs h0 its all → t ≠ I → o.cls = .type "tuple_iterator" → o.data = .fields #[.ref t, .int i 0] →
    ItP g A tg (.ref I) (fun _ => True) rest h0 (one I o)
  | [], i, h0, o, hr, ht, h2, hne, hc, hd => fun s H X Q E R kp hD q => by
    have ho := (R.ext I o (ovr_some (one_same I o))).1
    have ht' := kp _ _ _ _ ht rfl rfl
    refine wpAny_pyNext_tuple_end hh ⟨o, ho, hc, hd⟩ ⟨_, ht', rfl, _, rfl⟩ (by rw [List.getElem?_toArray]; exact h2.none (drop_nil hr)) fun h' e => q h' (.one e) (.extBut e ho (.of_cls (by rw [hc]; simp)))
  | v :: vs, i, h0, o, hr, ht, h2, hne, hc, hd => fun s H X Q E R kp hD q => by
    have ho := (R.ext I o (ovr_some (one_same I o))).1
    have ht' := kp _ _ _ _ ht rfl rfl
    obtain ⟨hv, hr'⟩ := drop_eq hr
    obtain ⟨x, hx, hxv⟩ := h2.get hv
    refine wpAny_pyNext_tuple_item ⟨o, ho, hc, hd⟩ ⟨_, ht', rfl, _, rfl⟩ (by rw [List.getElem?_toArray]; exact hx) fun h' hit' hs' => ?_
    obtain ⟨o', ho', hc', hd'⟩ := hit'
    have kp' : TupKeep s.heap h' := .extBut hs'.extBut ho (.of_cls (by rw [hc]; simp))
    exact q x h' s.toks (one I o') (.one hs'.extBut) kp' one_dom (fun a ob e => by obtain ⟨rfl, rfl⟩ := one_some e; exact ho') (hxv.mono (kp.trans kp'))
      (ItP.tup hh vs (i + 1) h' o' hr' (kp' _ _ _ _ ht' rfl rfl) (h2.mono (kp.trans kp')) hne hc' hd') fun Q' E' hq => letGo_plain ho' hc' (by decide) hq
noncomputable def rngObj (x left step : Int) : Obj := { cls := .type "range_iterator", dict := none, data := .fields #[rawInt x, rawInt left, rawInt step], slots := #[] }
noncomputable def rngFrom (a : Int) : Nat → List AV
  | 0 => []
  | n + 1 => .int a :: rngFrom (a + 1) n
theorem ItP.rng {A : Around} {tg : Expr} {I : Addr} (hh : A.handled = none) : ∀ (n : Nat) (a : Int) (h0 : Heap), ItP g A tg (.ref I) (fun _ => True) (rngFrom a n) h0 (one I (rngObj a n 1))
  | 0, a, h0 => fun s H X Q E R kp hD q => by
    have ho := (R.ext I _ (ovr_some (one_same I _))).1
    exact wpAny_pyNext_range_end hh ho (by decide) fun h' e => q h' (.one e) (.extBut e ho (.of_cls (by unfold rngObj; simp)))
  | n + 1, a, h0 => fun s H X Q E R kp hD q => by
    have ho := (R.ext I _ (ovr_some (one_same I _))).1
    refine wpAny_pyNext_range_item ho (by lia) fun h' hit' hs' => ?_
    have e1 : ((n + 1 : Nat) : Int) - 1 = n := by lia
    rw [e1] at hit'
    have kp' : TupKeep s.heap h' := .extBut hs'.extBut ho (.of_cls (by unfold rngObj; simp))
    exact q (.int a s.toks) h' (s.toks + 1) (one I (rngObj (a + 1) n 1)) (.one hs'.extBut) kp' one_dom (fun a' ob e => by obtain ⟨rfl, rfl⟩ := one_some e; exact hit') (.int _ _) (ItP.rng hh n (a + 1) h') fun Q' E' hq => letGo_plain (n := "range_iterator") hit' rfl (by decide) hq
noncomputable def chrs (x : Str) : List AV := x.cps.toList.map fun c => AV.str ⟨#[c]⟩
theorem ItP.str {A : Around} {tg : Expr} {I : Addr} {y : Str} {t : Tok} (hh : A.handled = none) : ∀ (rest : List AV) (i : Nat) (h0 : Heap) (o : Obj), (chrs y).drop i = rest → o.cls = .type "str_ascii_iterator" → o.data = .fields #[.str y t, .int i 0] → ItP g A tg (.ref I) (fun _ => True) rest h0 (one I o)
  | [], i, h0, o, hr, hc, hd => fun s H X Q E R kp hD q => by
    have ho := (R.ext I _ (ovr_some (one_same I _))).1
    have hx : y.cps[i]? = none := by
      have := drop_nil hr
      unfold chrs at this
      rw [List.getElem?_map] at this
      rw [← Array.getElem?_toList]
      cases e : y.cps.toList[i]? with
      | none => rfl
      | some z => rw [e] at this; cases this
    exact wpAny_pyNext_ascii_end hh ⟨o, ho, hc, hd⟩ hx fun h' e => q h' (.one e) (.extBut e ho (.of_cls (by rw [hc]; simp)))
  | v :: vs, i, h0, o, hr, hc, hd => fun s H X Q E R kp hD q => by
    have ho := (R.ext I _ (ovr_some (one_same I _))).1
    obtain ⟨hv, hr'⟩ := drop_eq hr
    obtain ⟨c, hx, rfl⟩ : ∃ c, y.cps[i]? = some c ∧ AV.str ⟨#[c]⟩ = v := by
      unfold chrs at hv
      rw [List.getElem?_map] at hv
      cases e : y.cps.toList[i]? with
      | none => rw [e] at hv; cases hv
      | some z => rw [e] at hv; exact ⟨z, by rw [← Array.getElem?_toList]; exact e, Option.some.inj hv⟩
    refine wpAny_pyNext_ascii_item ⟨o, ho, hc, hd⟩ hx fun h' hit' hs' => ?_
    obtain ⟨o', ho', hc', hd'⟩ := hit'
    have kp' : TupKeep s.heap h' := .extBut hs'.extBut ho (.of_cls (by rw [hc]; simp))
    exact q _ h' _ (one I o') (.one hs'.extBut) kp' one_dom (fun a' ob e => by obtain ⟨rfl, rfl⟩ := one_some e; exact ho') (.str _ _) (ItP.str hh vs (i + 1) h' o' hr' hc' hd') fun Q' E' hq => letGo_plain ho' hc' (by decide) hq
theorem ItP.rev {A : Around} {tg : Expr} {I l : Addr} {all : List AV} (hh : A.handled = none) : ∀ (i : Nat) (h0 : Heap) (o : Obj), i ≤ all.length → o.cls = .type "list_reverseiterator" → o.data = .fields #[.ref l, rawInt ((i : Int) - 1)] →
    ItP g A tg (.ref I) (fun H => H l = some (.list all)) (all.take i).reverse h0 (one I o)
  | 0, h0, o, hi, hc, hd => by
    rw [List.take_zero, List.reverse_nil]
    intro s H X Q E R kp hD q
    have ho := (R.ext I o (ovr_some (one_same I o))).1
    exact wpAny_pyNext_rev_end hh ⟨o, ho, hc, hd⟩ fun h' e => q h' (.one e) (.extBut e ho (.of_cls (by rw [hc]; simp)))
  | i + 1, h0, o, hi, hc, hd => by
    have e0 : (all.take (i + 1)).reverse = all[i] :: (all.take i).reverse := by
      rw [List.take_add_one, List.getElem?_eq_getElem (by lia), Option.toList_some, List.reverse_append]; rfl
    rw [e0]
    intro s H X Q E R kp hD q
    have ho := (R.ext I o (ovr_some (one_same I o))).1
    obtain ⟨its, n, h1, h2⟩ := (R.obj l _ hD).2
    obtain ⟨x, hx, hxv⟩ := h2.get (List.getElem?_eq_getElem (by lia : i < all.length))
    have e1 : ((i + 1 : Nat) : Int) - 1 = (i : Int) := by lia
    rw [e1] at hd
    refine wpAny_pyNext_rev_item (i := i) ⟨o, ho, hc, hd⟩ (isList_of h1) (by rw [List.getElem?_toArray]; exact hx) fun h' hit' hs' => ?_
    obtain ⟨o', ho', hc', hd'⟩ := hit'
    have kp' : TupKeep s.heap h' := .extBut hs'.extBut ho (.of_cls (by rw [hc]; simp))
    exact q x h' s.toks (one I o') (.one hs'.extBut) kp' one_dom (fun a ob e => by obtain ⟨rfl, rfl⟩ := one_some e; exact ho') (hxv.mono kp') (ItP.rev hh i h' o' (by lia) hc' hd') fun Q' E' hq => letGo_plain ho' hc' (by decide) hq
end
end Mine
end

section
open PySem PySem.W PyProof.Rows PySem.Calls
set_option Elab.async false
set_option genSizeOf false
set_option linter.unusedVariables false
namespace Mine
section
variable {KF : Params → Frag} {g : Gd KF} {c : Cx} {ρ : Loc} {H : AH} {X : XH} {x : AV → Loc → AH → Prop}

theorem Rep.ext1 {env : Env} {h h' : Heap} (R : Rep g env h ρ H X) (e : Heap.ExtBut h.objs.size h h') : Rep g env h' ρ H X ∧ TupKeep h h' := by
  have kp : TupKeep h h' := fun a o its n ho _ _ => e a o (Nat.ne_of_lt (Heap.lt_size ho)) ho
  refine ⟨R.master (fun b => b = h.objs.size) (fun b o q ho => e b o q ho) kp fun b q => ?_, kp⟩
  subst q
  exact ⟨R.o.fresh, R.freshX, (Nat.ne_of_lt R.freshL).symm, R.o.size, fun y hy => absurd (R.freshC hy) (Nat.lt_irrefl _)⟩

/-- a target takes a value -/
noncomputable abbrev As {KF : Params → Frag} (g : Gd KF) (c : Cx) (tg : Expr) (v : AV) (ρ : Loc) (H : AH) (k : Loc → AH → Prop) : Prop :=
  ∀ (s : Shared) (X : XH) (Q : Unit → Shared → Prop) (E : Value → Shared → Prop) (vv : Value), Rep g c.env s.heap ρ H X → VR s.heap vv v →
    (∀ s' ρ' H', Step s s' → Rep g c.env s'.heap ρ' H' X → k ρ' H' → Q () s') → wpAny (model g.prog g.w) c.A (assign tg c.env vv) Q E s
theorem As.name {y : Str} {pos : Pos} {v : AV} {k : Loc → AH → Prop} (h : k (setL ρ y v) H) (hS : Stores c y) : As g c (.Name y pos) v ρ H k := fun s X Q E vv R hv q =>
  wpAny_assign_Name (storeA hS R hv fun s' st R' => q s' _ _ st R' h)
noncomputable def AsL {KF : Params → Frag} (g : Gd KF) (c : Cx) : List Expr → List AV → Loc → AH → (Loc → AH → Prop) → Prop
  | [], [], ρ, H, k => k ρ H
  | e :: es, d :: ds, ρ, H, k => As g c e d ρ H (fun ρ₁ H₁ => AsL g c es ds ρ₁ H₁ k)
  | _, _, _, _, _ => False
theorem AsL.nil {k : Loc → AH → Prop} (h : k ρ H) : AsL g c [] [] ρ H k := h
theorem AsL.cons {e : Expr} {es : List Expr} {d : AV} {ds : List AV} {k : Loc → AH → Prop} (h : As g c e d ρ H (fun ρ₁ H₁ => AsL g c es ds ρ₁ H₁ k)) : AsL g c (e :: es) (d :: ds) ρ H k := h
theorem AsL.run : ∀ {es : List Expr} {ds : List AV} {vs : List Value} {ρ : Loc} {H : AH} {k : Loc → AH → Prop}, AsL g c es ds ρ H k → ∀ (s : Shared) (X : XH) (Q : Unit → Shared → Prop) (E : Value → Shared → Prop), Rep g c.env s.heap ρ H X → VRs s.heap vs ds →
    (∀ s' ρ' H', Step s s' → Rep g c.env s'.heap ρ' H' X → k ρ' H' → Q () s') → wpAny (model g.prog g.w) c.A (assignInOrder (es.map fun e => assign e c.env) vs) Q E s
  | [], [], vs, ρ, H, k, h, s, X, Q, E, R, hv, q => by
    cases hv
    exact wpAny_pure (q s _ _ (.refl s) R h)
  | e :: es, d :: ds, _, ρ, H, k, h, s, X, Q, E, R, .cons a r, q =>
    wpAny_bind (wpAny_holding (h s X _ E _ R a fun s₁ ρ₁ H₁ st₁ R₁ h₁ => AsL.run h₁ s₁ X Q E R₁ (r.mono st₁.tup) fun s₂ ρ₂ H₂ st₂ => q s₂ ρ₂ H₂ (st₁.trans st₂)))
  | [], _ :: _, _, _, _, _, h, _, _, _, _, _, _, _ => h.elim
theorem As.tup {elts : List Expr} {x1 : Nat} {pos : Pos} {ds : List AV} {k : Loc → AH → Prop} (hh : c.A.handled = none) (hl : elts.length = ds.length) (h : AsL g c elts ds ρ H k) (hm : assignEach elts c.env = elts.map (fun e => (false, assign e c.env)) := by rfl) :
    As g c (.Tuple elts x1 pos) (.tup ds) ρ H k := fun s X Q E vv R hv q => by
  obtain ⟨a, vs, rfl, h1, h2⟩ := VRs.isTup hv
  have hm2 : (assignEach elts c.env).map (·.2) = elts.map fun e => assign e c.env := by rw [hm, List.map_map]; rfl
  obtain ⟨o, ho, hc, n, hd⟩ := h1
  refine wpAny_assign_Tuple hh (items := vs.toArray) ⟨o, ho, hc, n, hd⟩ (by rw [hm, List.length_map, List.size_toArray, h2.length, hl]) (by
    rw [hm, List.findIdx?_map]
    exact List.findIdx?_eq_none_iff.mpr fun _ _ => rfl) fun h' e => ?_
  obtain ⟨R', kp⟩ := R.ext1 e
  rw [hm2]
  exact AsL.run h _ X Q E R' (h2.mono kp) fun s₂ ρ₂ H₂ st₂ => q s₂ ρ₂ H₂ ((Step.heap' s (h := h') (t := s.toks) kp).trans st₂)

/-! what a loop runs over -/
noncomputable def ItK {KF : Params → Frag} (g : Gd KF) (c : Cx) (tg : Expr) (s : Shared) (X : XH) (k : List AV → (AH → Prop) → Loc → AH → Prop) (Q : Value → Shared → Prop) : Prop :=
  ∀ it s' ρ' H' vs D XI, Step s s' → Rep g c.env s'.heap ρ' H' (ovr X XI) → Off X c.env XI → ItP g c.A tg it D vs s'.heap XI → ItI g c.A it XI → D H' → k vs D ρ' H' → Q it s'
theorem ItK.step {tg : Expr} {s s₁ : Shared} {k : List AV → (AH → Prop) → Loc → AH → Prop} {Q : Value → Shared → Prop} (q : ItK g c tg s X k Q) (st : Step s s₁) : ItK g c tg s₁ X k Q := fun it s' ρ' H' vs D XI st' => q it s' ρ' H' vs D XI (st.trans st')
noncomputable def EvIt {KF : Params → Frag} (g : Gd KF) (c : Cx) (tg iter : Expr) (ρ : Loc) (H : AH) (k : List AV → (AH → Prop) → Loc → AH → Prop) (x : AV → Loc → AH → Prop) : Prop :=
  ∀ (s : Shared) (X : XH) (Q : Value → Shared → Prop) (E : Value → Shared → Prop), Rep g c.env s.heap ρ H X → ItK g c tg s X k Q → Es g c X s x E →
    wpAny (model g.prog g.w) c.A (eval iter c.env) (fun v s' => wpAny (model g.prog g.w) c.A (pyIter v) Q E s') E s
noncomputable def It1 {KF : Params → Frag} (g : Gd KF) (c : Cx) (tg : Expr) (v : AV) (ρ : Loc) (H : AH) (k : List AV → (AH → Prop) → Loc → AH → Prop) : Prop :=
  ∀ (s : Shared) (X : XH) (Q : Value → Shared → Prop) (E : Value → Shared → Prop) (vv : Value), Rep g c.env s.heap ρ H X → VR s.heap vv v → ItK g c tg s X k Q → wpAny (model g.prog g.w) c.A (pyIter vv) Q E s
theorem EvIt.val {tg iter : Expr} {k : List AV → (AH → Prop) → Loc → AH → Prop} (h : Ev g c iter ρ H (fun v ρ₁ H₁ => It1 g c tg v ρ₁ H₁ k) x) : EvIt g c tg iter ρ H k x := fun s X Q E R q e =>
  h s X _ _ R (fun v d s₁ ρ₁ H₁ st₁ R₁ hv h₁ => h₁ s₁ X Q E v R₁ hv (q.step st₁)) e
theorem Rep.newIt {env : Env} {h : Heap} (R : Rep g env h ρ H X) (o : Obj) (hf : o.isFreed = false) : Rep g env (h.push o) ρ H (ovr X (one h.objs.size o)) ∧ Off X env (one h.objs.size o) := by
  refine ⟨(R.push o).addX fun b ob e => ?_, ⟨fun a ob e => ?_, fun a ob e y hy => ?_⟩⟩
  · obtain ⟨rfl, rfl⟩ := one_some e
    exact ⟨Heap.get?_push_size _ hf, R.o.fresh, R.o.size, (Nat.ne_of_lt R.freshL).symm, fun y hy => absurd (R.freshC hy) (Nat.lt_irrefl _)⟩
  · obtain ⟨rfl, rfl⟩ := one_some e; exact R.freshX
  · obtain ⟨rfl, rfl⟩ := one_some e; exact absurd (R.freshC hy) (Nat.lt_irrefl _)
theorem step_push (s : Shared) (o : Obj) (t : Nat) : Step s { s with heap := s.heap.push o, toks := t } := ⟨rfl, .of_keep fun _ _ e => Heap.get?_push_of_some _ e⟩
theorem It1.list {tg : Expr} {l : Addr} {vs : List AV} {k : List AV → (AH → Prop) → Loc → AH → Prop} (hh : c.A.handled = none) (hH : H l = some (.list vs)) (h : k vs (fun H => H l = some (.list vs)) ρ H) : It1 g c tg (.ref l) ρ H k := fun s X Q E vv R hv q => by
  cases hv.refInv
  obtain ⟨its, n, h1, h2⟩ := R.list hH
  refine wpAny_pyIter_list (isList_of h1) ?_
  obtain ⟨R', f⟩ := R.newIt { cls := .type "list_iterator", data := .fields #[.ref l, .int 0 0] } rfl
  exact q _ { s with heap := s.heap.push _ } _ _ vs _ _ (step_push s _ s.toks) R' f (ItP.list hh vs 0 _ _ rfl rfl rfl) (fun s' Q' E' hi hq => wpAny_pyIter_listiter ⟨_, hi _ _ (one_same _ _), rfl, rfl⟩ hq) hH h
theorem It1.tup {tg : Expr} {ds : List AV} {k : List AV → (AH → Prop) → Loc → AH → Prop} (hh : c.A.handled = none) (h : k ds (fun _ => True) ρ H) : It1 g c tg (.tup ds) ρ H k := fun s X Q E vv R hv q => by
  cases hv with
  | tup e r =>
    refine wpAny_pyIter_tuple ⟨_, e, rfl, _, rfl⟩ ?_
    rename_i a vs n
    obtain ⟨R', f⟩ := R.newIt { cls := .type "tuple_iterator", data := .fields #[.ref a, .int 0 0] } rfl
    have st := step_push s { cls := .type "tuple_iterator", data := .fields #[.ref a, .int 0 0] } s.toks
    exact q _ { s with heap := s.heap.push _ } _ _ ds _ _ st R' f (ItP.tup hh ds 0 _ _ rfl (st.tup _ _ _ _ e rfl rfl) (r.mono st.tup) (Nat.ne_of_lt (Heap.lt_size e)) rfl rfl) (fun s' Q' E' hi hq => wpAny_pyIter_tupleiter ⟨_, hi _ _ (one_same _ _), rfl, rfl⟩ hq) trivial h
theorem It1.str {tg : Expr} {y : Str} {k : List AV → (AH → Prop) → Loc → AH → Prop} (hh : c.A.handled = none) (ha : y.cps.all (· < 128) = true) (h : k (chrs y) (fun _ => True) ρ H) : It1 g c tg (.str y) ρ H k := fun s X Q E vv R hv q => by
  cases hv with
  | str _ t =>
    refine wpAny_pyIter_ascii ha ?_
    obtain ⟨R', f⟩ := R.newIt { cls := .type "str_ascii_iterator", data := .fields #[.str y t, .int 0 0] } rfl
    exact q _ { s with heap := s.heap.push _ } _ _ _ _ _ (step_push s _ s.toks) R' f (ItP.str hh _ 0 _ _ rfl rfl rfl) (fun s' Q' E' hi hq => wpAny_pyIter_striter_ascii ⟨_, hi _ _ (one_same _ _), rfl, rfl⟩ hq) trivial h
/-- range(..), reversed(..) in a loop's head -/
noncomputable def ItC {KF : Params → Frag} (g : Gd KF) (c : Cx) (tg : Expr) (f : AV) (as : List AV) (ρ : Loc) (H : AH) (k : List AV → (AH → Prop) → Loc → AH → Prop) : Prop :=
  ∀ (s : Shared) (X : XH) (Q : Value → Shared → Prop) (E : Value → Shared → Prop) (vs : List Value), Rep g c.env s.heap ρ H X → VRs s.heap vs as → ItK g c tg s X k Q →
    wpAny (model g.prog g.w) c.A (CallV f vs) (fun v s' => wpAny (model g.prog g.w) c.A (pyIter v) Q E s') E s
theorem EvIt.call {tg func : Expr} {args : List Expr} {pos : Pos} {k : List AV → (AH → Prop) → Loc → AH → Prop} (h : Ev g c func ρ H (fun f ρ₁ H₁ => plainF f = true ∧ EvL g c pos args ρ₁ H₁ (fun vs ρ₂ H₂ => ItC g c tg f vs ρ₂ H₂ k) x) x)
    (hplain : (backTo pos (starEach args c.env)).any (·.1) = false)
    (he : eval (.Call func args [] pos) c.env = (do callWith pos (← eval func c.env) [] (backTo pos (starEach args c.env)) (backToKw pos (keywordEach [] c.env))) := by kernel_rfl) : EvIt g c tg (.Call func args [] pos) ρ H k x := fun s X Q E R q e => by
  refine Call_ (h s X _ _ R (fun fv f s₁ ρ₁ H₁ st₁ R₁ hfv h₁ => ?_) e) he
  obtain ⟨hf, h₁⟩ := h₁
  have hv := plain_keeps (M := model g.prog g.w) hf hfv
  refine callWith_of (P := fun _ => True) (by rw [hplain]; rfl) (fun h' _ => hv.1 h') (evalArgs_list hplain ?_)
  exact h₁ s₁ X _ _ R₁ (fun vs ds s₂ ρ₂ H₂ st₂ R₂ hvs h₂ => ⟨trivial, by
    have := h₂ s₂ X Q E vs R₂ hvs (q.step (st₁.trans st₂))
    rwa [hv.2] at this⟩) (e.step st₁)
theorem rngFrom_range (n : Nat) : Builtin.Range.rangeSize 0 n 1 = n := by unfold Builtin.Range.rangeSize; simp <;> lia
theorem ItC.range {tg : Expr} {n : Nat} {k : List AV → (AH → Prop) → Loc → AH → Prop} (hh : c.A.handled = none) (hn : n < 2 ^ 40) (h : k (rngFrom 0 n) (fun _ => True) ρ H) : ItC g c tg (.type "range") [.int n] ρ H k := fun s X Q E vs R hvs q => by
  cases hvs with
  | cons z r =>
    cases r
    cases z with
    | int _ t =>
      refine call_range_1 (wpAny_pyIter_range (Heap.get?_push_size _ rfl) ?_ ?_)
      · unfold Builtin.Range.small Builtin.Range.rangeFitsLong
        rw [rngFrom_range]
        simp
        lia
      · rw [rngFrom_range]
        have R1 := R.push { cls := .type "range", data := .fields #[.int 0 s.toks, .int (n : Int) t, .int 1 (s.toks + 1)] }
        obtain ⟨R', f⟩ := R1.newIt (rngObj 0 n 1) rfl
        exact q _ { s with heap := (s.heap.push _).push (rngObj 0 n 1), toks := s.toks + 1 + 1 } _ _ _ _ _ ((step_push s _ (s.toks + 1 + 1)).trans (step_push _ _ _)) R' f (ItP.rng hh n 0 _) (fun s' Q' E' hi hq => wpAny_pyIter_rangeiter (hi _ _ (one_same _ _)) hq) trivial h
theorem ItC.reversed {tg : Expr} {l : Addr} {vs : List AV} {k : List AV → (AH → Prop) → Loc → AH → Prop} (hh : c.A.handled = none) (hH : H l = some (.list vs)) (h : k vs.reverse (fun H => H l = some (.list vs)) ρ H) : ItC g c tg (.type "reversed") [.ref l] ρ H k := fun s X Q E ws R hvs q => by
  cases hvs with
  | cons z r =>
    cases r
    cases z.refInv
    obtain ⟨its, n, h1, h2⟩ := R.list hH
    refine call_reversed_list (isList_of h1) ?_
    have el : its.toArray.size = vs.length := by rw [List.size_toArray, h2.length]
    rw [el]
    obtain ⟨R', f⟩ := R.newIt (revObj l ((vs.length : Int) - 1)) rfl
    refine wpAny_pyIter_revIter ⟨_, Heap.get?_push_size _ rfl, rfl, rfl⟩ ?_
    have hp := ItP.rev (g := g) (A := c.A) (tg := tg) (I := s.heap.objs.size) (l := l) (all := vs) hh vs.length (s.heap.push (revObj l ((vs.length : Int) - 1))) (revObj l ((vs.length : Int) - 1)) (Nat.le_refl _) rfl rfl
    rw [List.take_length] at hp
    exact q _ { s with heap := s.heap.push _ } _ _ _ _ _ (step_push s _ s.toks) R' f hp (fun s' Q' E' hi hq => wpAny_pyIter_revIter ⟨_, hi _ _ (one_same _ _), rfl, rfl⟩ hq) hH h

/-! a for -/
noncomputable def ForL {KF : Params → Frag} (g : Gd KF) (c : Cx) (tg : Expr) (body : List Stmt) (D : AH → Prop) (k : AF → Loc → AH → Prop) : List AV → Loc → AH → Prop
  | [], ρ, H => k .next ρ H
  | v :: vs, ρ, H => As g c tg v ρ H (fun ρ₁ H₁ => Exs g c body ρ₁ H₁ (fun f ρ₂ H₂ => match f with
      | .next => D H₂ ∧ ForL g c tg body D k vs ρ₂ H₂
      | .cont => D H₂ ∧ ForL g c tg body D k vs ρ₂ H₂
      | .brk => k .next ρ₂ H₂
      | .ret u => k (.ret u) ρ₂ H₂) (fun _ _ _ => False))
theorem ForL.run {tg : Expr} {body : List Stmt} {D : AH → Prop} {it : Value} {k : AF → Loc → AH → Prop} : ∀ {vs : List AV} {ρ : Loc} {H : AH} {h0 : Heap} {XI : XH}, ForL g c tg body D k vs ρ H → ItP g c.A tg it D vs h0 XI → D H → Off X c.env XI →
    ∀ (s : Shared) (R : Result → Shared → Prop), Rep g c.env s.heap ρ H (ovr X XI) → TupKeep h0 s.heap → Qs g c FlR X s k (fun f s' => R (.ok f) s') → codeAny (model g.prog g.w) c.A (.forLoop tg it body [] c.env) R s
  | [], ρ, H, h0, XI, h, hp, hD, f, s, R', R, kp0, q => by
    refine codeAny_of_tree ?_
    show wpAny _ c.A ((forTurn tg it body [] c.env).onRaise (fun x => do noteFrame x c.env; theTreesLotGoes x)) _ _ s
    refine wpAny_noted ?_
    simp only [forTurn]
    refine wpAny_bind (wpAny_standAt (wpAny_bind (wpAny_onRaise (hp s H X _ _ R.o kp0 hD fun h' ext kp => ?_))))
    exact wpAny_pure ⟨rfl, codeAny_block (wpAny_execs_nil (q _ _ _ _ _ (Step.heap' s (t := s.toks) kp) (R.leave f ext kp) .next h))⟩
  | v :: vs, ρ, H, h0, XI, h, hp, hD, f, s, R', R, kp0, q => by
    refine codeAny_of_tree ?_
    show wpAny _ c.A ((forTurn tg it body [] c.env).onRaise (fun x => do noteFrame x c.env; theTreesLotGoes x)) _ _ s
    refine wpAny_noted ?_
    simp only [forTurn]
    refine wpAny_bind (wpAny_standAt (wpAny_bind (wpAny_onRaise (hp s H X _ _ R.o kp0 hD fun x h' tk XI' ext kp hd hi hx hp' hgo => ?_))))
    have R1 := R.turn f ext kp hd hi
    have f1 := f.dom hd
    refine wpAny_bind (hgo _ _ (wpAny_bind (h { s with heap := h', toks := tk } _ _ _ x R1 hx fun s₂ ρ₂ H₂ st₂ R₂ h₂ => wpAny_bind (h₂ s₂ _ _ _ R₂ (fun fl fl' s₃ ρ₃ H₃ st₃ R₃ hf h₃ => ?_) fun _ _ _ _ _ _ _ _ h => h.elim))))
    have st : Step s s₃ := ((Step.heap' s (t := tk) kp).trans st₂).trans st₃
    have kp3 : TupKeep h' s₃.heap := st₂.tup.trans st₃.tup
    cases hf with
    | next => exact wpAny_pure ⟨rfl, ForL.run h₃.2 hp' h₃.1 f1 s₃ R' R₃ kp3 (Qs.step q st)⟩
    | cont => exact wpAny_pure ⟨rfl, ForL.run h₃.2 hp' h₃.1 f1 s₃ R' R₃ kp3 (Qs.step q st)⟩
    | brk => exact wpAny_pure (q _ _ _ _ _ st (R₃.weaken f1.x) .next h₃)
    | ret hv => exact wpAny_pure (q _ _ _ _ _ st (R₃.weaken f1.x) (.ret hv) h₃)
theorem Ex.for {tg iter : Expr} {body : List Stmt} {pos : Pos} {k : AF → Loc → AH → Prop} (h : EvIt g c tg iter ρ H (fun vs D ρ₁ H₁ => ForL g c tg body D k vs ρ₁ H₁) x) (hs : ∀ x, foldedSetIterable iter c.env x = pure x := by intro _; rfl) :
    Ex g c (.For tg iter body [] pos) ρ H k x := fun s X Q E R q e =>
  wpAny_For (h s X _ _ R (fun it s' ρ' H' vs D XI st R' f hp hi hD hk => ForL.run hk hp hD f s' _ R' (.refl _) (Qs.step q st)) e) hs
end
end Mine
end

section
open PySem PySem.W PyProof.Rows PySem.Calls
set_option Elab.async false
set_option genSizeOf false
set_option linter.unusedVariables false
namespace Mine
section
variable {KF : Params → Frag} {g : Gd KF} {c : Cx} {ρ : Loc} {H : AH} {X : XH} {x : AV → Loc → AH → Prop}

/-- a list is turned -/
theorem Rep.setList {env : Env} {h h' : Heap} {l : Addr} {us us' : List AV} {its' : List Value} {n' : Nat} (R : Rep g env h ρ H X) (hH : H l = some (.list us)) (hs : Heap.SameBut l h h') (ho : h'.get? l = some (listOf its'.toArray n')) (hv : VRs h its' us') :
    Rep g env h' ρ (upd H l (.list us')) X ∧ TupKeep h h' :=
  R.change (o' := .list us') hH (.inl rfl) rfl hs.extBut (Nat.le_of_eq hs.1.symm) rfl rfl fun kp => ⟨its', n', ho, hv.mono kp⟩
theorem appendL {A : Around} {l : Addr} {us : List AV} {u : AV} {v : Value} {env : Env} {s : Shared} {Q : Value → Shared → Prop} {E : Value → Shared → Prop} (R : Rep g env s.heap ρ H X) (hH : H l = some (.list us)) (hv : VR s.heap v u) (hz : us.length ≤ 1000000)
    (h : ∀ s', Step s s' → Rep g env s'.heap ρ (upd H l (.list (us ++ [u]))) X → Q .none s') : wpAny (model g.prog g.w) A (call (.builtin "list.append") [.ref l, v]) Q E s := by
  obtain ⟨its, n, h1, h2⟩ := R.list hH
  refine append_at (hsz := by rw [List.size_toArray, h2.length, sizeLine_eq]; lia) h1 fun h' hs ho => ?_
  rw [List.push_toArray] at ho
  obtain ⟨R', kp⟩ := R.setList hH hs ho (h2.append (.cons hv .nil))
  exact h _ (Step.heap' s (t := s.toks) kp) R'

noncomputable def TsL {KF : Params → Frag} (g : Gd KF) (c : Cx) : List Expr → Loc → AH → (Bool → Loc → AH → Prop) → Prop
  | [], ρ, H, k => k true ρ H
  | [t], ρ, H, k => Ts g c t ρ H k (fun _ _ _ => False)
  | _, _, _, _ => False
theorem TsL.nil {k : Bool → Loc → AH → Prop} (h : k true ρ H) : TsL g c [] ρ H k := h
theorem TsL.one {t : Expr} {k : Bool → Loc → AH → Prop} (h : Ts g c t ρ H k (fun _ _ _ => False)) : TsL g c [t] ρ H k := h
/-- a comprehension's turns; L: its list -/
noncomputable def CmpL {KF : Params → Frag} (g : Gd KF) (c : Cx) (tg elt : Expr) (ifs : List Expr) (D : AH → Prop) (L : Addr) (k : List AV → Loc → AH → Prop) : List AV → List AV → Loc → AH → Prop
  | [], us, ρ, H => D H ∧ k us ρ H
  | v :: vs, us, ρ, H => D H ∧ As g c tg v ρ H (fun ρ₁ H₁ => TsL g c ifs ρ₁ H₁ (fun b ρ₂ H₂ => if b = true then
      Ev g c elt ρ₂ H₂ (fun u ρ₃ H₃ => H₃ L = some (.list us) ∧ us.length ≤ 1000000 ∧ CmpL g c tg elt ifs D L k vs (us ++ [u]) ρ₃ (upd H₃ L (.list (us ++ [u])))) (fun _ _ _ => False)
    else CmpL g c tg elt ifs D L k vs us ρ₂ H₂))
theorem CmpL.run {tg elt iter : Expr} {ifs : List Expr} {D : AH → Prop} {it : Value} {L : Addr} {scope : Scope} {pos : Pos} {k : List AV → Loc → AH → Prop} : ∀ {vs us : List AV} {ρ : Loc} {H : AH} {h0 : Heap} {XI : XH}, CmpL g c tg elt ifs D L k vs us ρ H → ItP g c.A tg it D vs h0 XI → Off X c.env XI →
    ∀ (s : Shared) (R : Result → Shared → Prop), Rep g c.env s.heap ρ H (ovr X XI) → TupKeep h0 s.heap → (∀ us s' ρ' H', Step s s' → Rep g c.env s'.heap ρ' H' X → k us ρ' H' → R (.ok .next) s') →
    codeAny (model g.prog g.w) c.A (.compLoop (.ListComp elt [⟨tg, iter, ifs, 0⟩] scope pos) 0 it (.ref L) c.env) R s
  | [], us, ρ, H, h0, XI, h, hp, f, s, R', R, kp0, q => by
    refine codeAny_of_tree ?_
    show wpAny _ c.A ((compTurn (.ListComp elt [⟨tg, iter, ifs, 0⟩] scope pos) 0 it (.ref L) c.env).onRaise (fun x => do noteFrame x c.env; theTreesLotGoes x)) _ _ s
    refine wpAny_noted ?_
    rw [compTurn_list]
    refine wpAny_bind (wpAny_standAt (wpAny_bind (hp s H X _ _ R.o kp0 h.1 fun h' ext kp => ?_)))
    exact wpAny_pure (q us _ _ _ (Step.heap' s (t := s.toks) kp) (R.leave f ext kp) h.2)
  | v :: vs, us, ρ, H, h0, XI, h, hp, f, s, R', R, kp0, q => by
    refine codeAny_of_tree ?_
    show wpAny _ c.A ((compTurn (.ListComp elt [⟨tg, iter, ifs, 0⟩] scope pos) 0 it (.ref L) c.env).onRaise (fun x => do noteFrame x c.env; theTreesLotGoes x)) _ _ s
    refine wpAny_noted ?_
    rw [compTurn_list]
    refine wpAny_bind (wpAny_standAt (wpAny_bind (hp s H X _ _ R.o kp0 h.1 fun x h' tk XI' ext kp hd hi hx hp' hgo => ?_)))
    have R1 := R.turn f ext kp hd hi
    have f1 := f.dom hd
    refine wpAny_bind (hgo _ _ (wpAny_bind (h.2 { s with heap := h', toks := tk } _ _ _ x R1 hx fun s₂ ρ₂ H₂ st₂ R₂ h₂ => wpAny_bind ?_)))
    have fin : ∀ (ok : Bool) (s₃ : Shared) (ρ₃ : Loc) (H₃ : AH), Step s₂ s₃ → Rep g c.env s₃.heap ρ₃ H₃ (ovr X XI') → (if ok = true then
      Ev g c elt ρ₃ H₃ (fun u ρ₃ H₃ => H₃ L = some (.list us) ∧ us.length ≤ 1000000 ∧ CmpL g c tg elt ifs D L k vs (us ++ [u]) ρ₃ (upd H₃ L (.list (us ++ [u])))) (fun _ _ _ => False)
      else CmpL g c tg elt ifs D L k vs us ρ₃ H₃) → wpAny (model g.prog g.w) c.A (do
        if ok = true then
          (do let _ ← call (.builtin "list.append") [.ref L, ← eval elt c.env])
        again (.compLoop (.ListComp elt [⟨tg, iter, ifs, 0⟩] scope pos) 0 it (.ref L) c.env)) (fun fin s' => match fin with | .done f => R' (.ok f) s' | .again c' => c'.quiet = true ∧ codeAny (model g.prog g.w) c.A c' R' s') (notedBy (model g.prog g.w) c.A c.env fun e s' => R' (.error e) s') s₃ := by
      intro ok s₃ ρ₃ H₃ st₃ R₃ h₃
      have st : Step s s₃ := ((Step.heap' s (t := tk) kp).trans st₂).trans st₃
      cases ok with
      | false =>
        simp only [Bool.false_eq_true, if_false] at h₃ ⊢
        exact wpAny_pure ⟨rfl, CmpL.run h₃ hp' f1 s₃ R' R₃ (st₂.tup.trans st₃.tup) fun us s' ρ' H' st' => q us s' ρ' H' (st.trans st')⟩
      | true =>
        simp only [if_true] at h₃ ⊢
        refine wpAny_bind (wpAny_bind (h₃ s₃ _ _ _ R₃ (fun xv u s₄ ρ₄ H₄ st₄ R₄ hu h₄ => ?_) fun _ _ _ _ _ _ _ _ h => h.elim))
        refine wpAny_bind (appendL R₄ h₄.1 hu h₄.2.1 fun s₅ st₅ R₅ => ?_)
        exact wpAny_pure (wpAny_pure ⟨rfl, CmpL.run h₄.2.2 hp' f1 s₅ R' R₅ (((st₂.tup.trans st₃.tup).trans st₄.tup).trans st₅.tup) fun us s' ρ' H' st' => q us s' ρ' H' (((st.trans st₄).trans st₅).trans st')⟩)
    cases ifs with
    | nil => exact wpAny_tests_nil (fin true s₂ ρ₂ H₂ (.refl _) R₂ h₂)
    | cons t ts =>
      cases ts with
      | nil => exact wpAny_tests_one (h₂ s₂ _ _ _ R₂ (fun ok ok' s₃ ρ₃ H₃ st₃ R₃ hb h₃ => by cases hb; exact fin ok s₃ ρ₃ H₃ st₃ R₃ h₃) fun _ _ _ _ _ _ _ _ h => h.elim)
      | cons _ _ => exact h₂.elim

theorem frz_ovr {env : Env} {h : Heap} {XI : XH} (hX : ∀ b o, XI b = some o → b ≠ env.locals ∧ ∀ y, env.cells.lookup y ≠ some b) : frz env h (ovr X XI) = ovr (frz env h X) XI := by
  funext b
  cases q : XI b with
  | some o =>
    have z := hX b o q
    rw [ovr_some q, frz_out (fun p => p.elim z.1 fun ⟨y, e⟩ => z.2 y e), ovr_some q]
  | none =>
    rw [ovr_none q]
    by_cases p : b = env.locals ∨ ∃ y, env.cells.lookup y = some b
    · rw [frz_in p, frz_in p]
    · rw [frz_out p, frz_out p, ovr_none q]

noncomputable def compL (cl : List (Str × Addr)) (ρ : Loc) : Loc := fun y => if (cl.lookup y).isSome then ρ y else none
theorem compL_look {cl : List (Str × Addr)} {ρ : Loc} {y : Str} {v : Option AV} (h : (cl.lookup y).isSome = true) (e : ρ y = v) : compL cl ρ y = v := by unfold compL; rw [if_pos h]; exact e
theorem lookup_mem {cl : List (Str × Addr)} {y : Str} {a : Addr} (h : cl.lookup y = some a) : (y, a) ∈ cl := by
  induction cl with
  | nil => cases h
  | cons p cl ih =>
    obtain ⟨z, b⟩ := p
    rw [List.lookup_cons] at h
    by_cases q : y = z
    · subst q; rw [beq_self_eq_true] at h; cases h; exact .head _
    · rw [beq_eq_false_iff_ne.mpr q] at h; exact .tail _ (ih h)

/-- a comprehension, up to its own names' end -/
theorem Comp.run {elt tg iter : Expr} {ifs : List Expr} {scope : Scope} {pos : Pos} {cl : List (Str × Addr)} {RR : Addr → Addr → Result → Shared → Prop} {k : AV → Loc → AH → Prop} {s : Shared} {E : Value → Shared → Prop}
    (hkind : scope.kind = .function) (hcell : ∀ y ∈ scope.names, y.2 ≠ .cell) (hm : ∀ p ∈ cl, c.env.cells.lookup p.1 = some p.2) (R : Rep g c.env s.heap ρ H X)
    (h : EvIt g c tg iter ρ H (fun vs D ρ₁ H₁ => ∀ L C, H₁ L = none → CmpL g ⟨c.A, compEnvC scope cl C c.env⟩ tg elt ifs D L (fun _ _ H₂ => k (.ref L) ρ₁ H₂) vs [] (compL cl ρ₁) (upd H₁ L (.list []))) x) (e : Es g c X s x E)
    (fin : ∀ L C s' ρ₁ H₂ o m, Step s s' → Rep g c.env s'.heap ρ₁ H₂ (ovr X (one C o)) → Off X c.env (one C o) → s'.heap.get? C = some o → s'.heap.Ns C m → k (.ref L) ρ₁ H₂ → RR L C (.ok .next) s') :
    wpAny (model g.prog g.w) c.A (eval iter c.env) (fun x s₁ => wpAny (model g.prog g.w) c.A (pyIter x) (fun it s₂ => wpAny (model g.prog g.w) c.A (newList []) (fun acc s₃ =>
      wpAny (model g.prog g.w) c.A (newFunctionEnv scope c.env.globals cl [] c.env.qual none .none (some c.env)) (fun cenv s₄ =>
        codeAny (model g.prog g.w) c.A (.compStart (.ListComp elt [⟨tg, iter, ifs, 0⟩] scope pos) 0 it acc { cenv with scope := relabel scope c.env }) (fun r s' => ∃ L, acc = .ref L ∧ RR L cenv.locals r s') s₄) E s₃) E s₂) E s₁) E s := by
  refine h s X (fun it s₂ => wpAny (model g.prog g.w) c.A (newList []) _ E s₂) E R (fun it s₂ ρ₁ H₁ vs D XI st₂ R₂ f hp hi hD hk => ?_) e
  refine wpAny_newObj_type (hd := by size_fits) (wpAny_newFunctionEnv hcell (by intro y hy; simp at hy) (fun h₄ hns hsb => ?_) hkind)
  dsimp only at hns hsb ⊢
  have hL : Rep g c.env (s₂.heap.push { cls := .type "list", data := .seq ([] : List Value).toArray }) ρ₁ (upd H₁ s₂.heap.objs.size (.list [])) (ovr X XI) :=
    R₂.alloc ⟨[], 0, Heap.get?_push_size _ rfl, .nil⟩
  have hk := hk s₂.heap.objs.size (s₂.heap.push { cls := .type "list", data := .seq ([] : List Value).toArray }).objs.size R₂.o.fresh
  have kp3 : TupKeep s₂.heap (s₂.heap.push { cls := .type "list", data := .seq ([] : List Value).toArray }) := .of_keep fun _ _ e => Heap.get?_push_of_some _ e
  generalize s₂.heap.push { cls := .type "list", data := .seq ([] : List Value).toArray } = h₃ at hns hsb hL hk kp3 ⊢
  have hk₄ : ∀ b o, h₃.get? b = some o → h₄.get? b = some o := fun b o e => (hsb.2 b (Nat.ne_of_lt (Heap.lt_size e))).trans (Heap.get?_push_of_some _ e)
  have hX3 : ∀ b o, XI b = some o → b ≠ c.env.locals ∧ ∀ y, c.env.cells.lookup y ≠ some b := fun b o e => ⟨(hL.offS f b o e).2.2.1, f.c b o e⟩
  have R0 := hL.freeze
  rw [frz_ovr hX3] at R0
  have hW := hL.weaken f.x
  have hcl : ∀ y a, cl.lookup y = some a → c.env.cells.lookup y = some a := fun y a e => hm _ (lookup_mem e)
  have hnC : ∀ b o, ovr (frz c.env h₃ X) XI b = some o → b ≠ h₃.objs.size := fun b o e => Nat.ne_of_lt (Heap.lt_size (R0.ext b o e).1)
  have RC : Rep g (compEnvC scope cl h₃.objs.size c.env) h₄ (compL cl ρ₁) (upd H₁ s₂.heap.objs.size (.list [])) (ovr (frz c.env h₃ X) XI) := by
    refine ⟨⟨fun b o e => hk₄ b o (R0.keep b o e), Nat.le_trans R0.size (Nat.le_of_lt hns.lt), fun b o e => ⟨(R0.obj b o e).1, (R0.obj b o e).2.keep (.of_keep hk₄) fun b' ob _ _ => hk₄ b' ob⟩, fun b o e => ⟨hk₄ b o (R0.ext b o e).1, (R0.ext b o e).2⟩⟩,
      ⟨⟨_, hns, fun y d e => ?_⟩, ⟨R0.size, hL.o.fresh, ?_⟩, fun y a e => ?_, fun y y' a e e' => hL.f.inj y y' a (hcl y a e) (hcl y' a e')⟩⟩
    · show match cl.lookup y with | none => _ | some a => _
      unfold compL at e
      cases hc : cl.lookup y with
      | none => rw [hc] at e; cases e
      | some a =>
        rw [hc] at e
        obtain ⟨m, _, hl⟩ := hL.f.ns
        have z := hl y d e
        rw [hcl y a hc] at z
        obtain ⟨v, z1, z2⟩ := z
        exact ⟨v, IsCell.at z1 (hk₄ a), z2.mono (.of_keep hk₄)⟩
    · cases q : ovr (frz c.env h₃ X) XI h₃.objs.size with
      | none => exact q
      | some o => exact (hnC _ o q rfl).elim
    · obtain ⟨h1, h2, h3, h4, v, h5⟩ := hL.f.cl y a (hcl y a e)
      exact ⟨h1, h2, fun hf => (hf rfl).elim, Nat.ne_of_lt (hL.freshC (hcl y a e)), v, IsCell.at h5 (hk₄ a)⟩
  have fC : Off (frz c.env h₃ X) (compEnvC scope cl h₃.objs.size c.env) XI :=
    ⟨fun a o e => (frz_out fun p => p.elim (hX3 a o e).1 fun ⟨y, e'⟩ => (hX3 a o e).2 y e').trans (f.x a o e), fun a o e y e' => (hX3 a o e).2 y (hcl y a e')⟩
  have go : ∀ (R' : Result → Shared → Prop), (∀ s', RR s₂.heap.objs.size h₃.objs.size (.ok .next) s' → R' (.ok .next) s') → codeAny (model g.prog g.w) c.A (.compLoop (.ListComp elt [⟨tg, iter, ifs, 0⟩] scope pos) 0 it (.ref s₂.heap.objs.size) (compEnvC scope cl h₃.objs.size c.env)) R' { s₂ with heap := h₄, toks := s₂.toks + ([] : List (Str × Value)).length } := by
    intro R' hR'
    refine CmpL.run (c := ⟨c.A, compEnvC scope cl h₃.objs.size c.env⟩) (X := frz c.env h₃ X) hk hp fC { s₂ with heap := h₄, toks := s₂.toks + ([] : List (Str × Value)).length } R' RC (kp3.trans (.of_keep hk₄)) fun us s' ρ' H' st' R'' hk' => hR' s' ?_
    obtain ⟨m, ⟨oC, es, ep, hC, hr⟩, _⟩ := R''.f.ns
    have Rout : Rep g c.env s'.heap ρ₁ H' X := hW.thaw ((TupKeep.of_keep hk₄).trans st'.tup) R''.o
    refine fin _ _ s' ρ₁ H' oC m ((st₂.trans (Step.heap' s₂ (t := s₂.toks + ([] : List (Str × Value)).length) (kp3.trans (.of_keep hk₄)))).trans st') (Rout.addX fun b o e => ?_) ⟨fun a o e => ?_, fun a o e y e' => ?_⟩ hC ⟨oC, es, ep, hC, hr⟩ hk'
    · obtain ⟨rfl, rfl⟩ := one_some e
      exact ⟨hC, R''.f.nL.2.1, R''.f.nL.1, (Nat.ne_of_lt hW.freshL).symm, fun y hy => absurd (hW.freshC hy) (Nat.lt_irrefl _)⟩
    · obtain ⟨rfl, rfl⟩ := one_some e; exact hW.freshX
    · obtain ⟨rfl, rfl⟩ := one_some e; exact absurd (hW.freshC e') (Nat.lt_irrefl _)
  refine codeAny_compStart_list ?_ ?_
  · exact go _ fun s' hs' => ⟨_, rfl, hs'⟩
  · exact hi _ _ _ (fun a o e => (RC.o.ext a o (ovr_some e)).1) (go _ fun s' hs' => ⟨_, rfl, hs'⟩)

/-- a list comprehension as a value -/
theorem Ev.comp {elt tg iter : Expr} {ifs : List Expr} {scope : Scope} {pos : Pos} {k : AV → Loc → AH → Prop} (cl : List (Str × Addr))
    (h : EvIt g c tg iter ρ H (fun vs D ρ₁ H₁ => ∀ L C, H₁ L = none → CmpL g ⟨c.A, compEnvC scope cl C c.env⟩ tg elt ifs D L (fun _ _ H₂ => k (.ref L) ρ₁ H₂) vs [] (compL cl ρ₁) (upd H₁ L (.list []))) x)
    (hclos : closureFor scope c.env = pure cl) (hm : ∀ p ∈ cl, c.env.cells.lookup p.1 = some p.2) (hkind : scope.kind = .function) (hcell : ∀ y ∈ scope.names, y.2 ≠ .cell) (hnames : ∀ x ∈ scope.names, x.2 = .local → scope.names.lookup x.1 = some .local)
    (hs : ∀ x, foldedSetIterable iter c.env x = pure x := by intro _; rfl) : Ev g c (.ListComp elt [⟨tg, iter, ifs, 0⟩] scope pos) ρ H k x := fun s X Q E R q e => by
  rw [eval_ListComp]
  refine wpAny_comprehension_free rfl hs hclos hkind hnames (wpAny_mono (Comp.run (pos := pos) (RR := fun L C r s' => compPost (model g.prog g.w) c.A E none Q (.ref L) C r s') hkind hcell hm R h e fun L C s' ρ₁ H₂ o m st R' f hC hN hk => ⟨m, hN, fun h' hs' => ?_⟩) (fun v s₁ h₁ => wpAny_mono h₁ (fun it s₂ h₂ => wpAny_mono h₂ (fun acc s₃ h₃ => wpAny_mono h₃ (fun cenv s₄ h₄ => codeAny_mono h₄ fun r s' hr => ?_) fun _ _ z => z) fun _ _ z => z) fun _ _ z => z) fun _ _ z => z)
  · have hnt : NoTup o := by
      obtain ⟨o', es, ep, ho', hd', _⟩ := hN
      rw [hC] at ho'; cases ho'
      exact .of_dict hd'
    have kp : TupKeep s'.heap h' := .extBut hs'.extBut hC hnt
    exact q _ _ { s' with heap := h' } _ _ (st.trans (Step.heap' s' (t := s'.toks) kp)) (R'.leave f (.one hs'.extBut) kp) (.ref _) hk
  · obtain ⟨L, rfl, hr⟩ := hr
    exact hr
/-- a comprehension is stored -/
theorem Ex.assignComp {elt tg iter : Expr} {ifs : List Expr} {scope : Scope} {pos pos' pos'' : Pos} {y : Str} {k : AF → Loc → AH → Prop} (cl : List (Str × Addr))
    (h : EvIt g c tg iter ρ H (fun vs D ρ₁ H₁ => ∀ L C, H₁ L = none → CmpL g ⟨c.A, compEnvC scope cl C c.env⟩ tg elt ifs D L (fun _ _ H₂ => k .next (setL ρ₁ y (.ref L)) H₂) vs [] (compL cl ρ₁) (upd H₁ L (.list []))) x)
    (hsw : swapsWith (.ListComp elt [⟨tg, iter, ifs, 0⟩] scope pos) (some (.Name y pos')) pos''.line c.env = pure true) (hS : Stores c y)
    (hclos : closureFor scope c.env = pure cl) (hm : ∀ p ∈ cl, c.env.cells.lookup p.1 = some p.2) (hkind : scope.kind = .function) (hcell : ∀ y ∈ scope.names, y.2 ≠ .cell) (hnames : ∀ x ∈ scope.names, x.2 = .local → scope.names.lookup x.1 = some .local)
    (hs : ∀ x, foldedSetIterable iter c.env x = pure x := by intro _; rfl) : Ex g c (.Assign [.Name y pos'] (.ListComp elt [⟨tg, iter, ifs, 0⟩] scope pos) pos'') ρ H k x := fun s X Q E R q e => by
  rw [exec_Assign_Name_used y pos' _ pos'' hsw, arm_evalThenUse_ListComp]
  refine wpAny_bind (wpAny_standAt (wpAny_bind (wpAny_bind ?_)))
  let k' : AV → Loc → AH → Prop := fun v ρ H => k .next (setL ρ y v) H
  refine wpAny_comprehension_free (Q := fun _ s' => wpAny (model g.prog g.w) c.A (pure ()) (fun _ s' => wpAny (model g.prog g.w) c.A (pure Flow.next) Q E s') E s') rfl hs hclos hkind hnames (wpAny_mono (Comp.run (pos := pos) (k := k') (RR := fun L C r s' => compPost (model g.prog g.w) c.A E (some (PySem.assign (.Name y pos') c.env)) (fun _ s' => wpAny (model g.prog g.w) c.A (pure ()) (fun _ s' => wpAny (model g.prog g.w) c.A (pure Flow.next) Q E s') E s') (.ref L) C r s') hkind hcell hm R h e fun L C s' ρ₁ H₂ o m st R' f hC hN hk => ?_) (fun v s₁ h₁ => wpAny_mono h₁ (fun it s₂ h₂ => wpAny_mono h₂ (fun acc s₃ h₃ => wpAny_mono h₃ (fun cenv s₄ h₄ => codeAny_mono h₄ fun r s' hr => ?_) fun _ _ z => z) fun _ _ z => z) fun _ _ z => z) fun _ _ z => z)
  · show wpAny _ _ (PySem.assign (.Name y pos') c.env (.ref L)) _ E s'
    have hnt : NoTup o := by
      obtain ⟨o', es, ep, ho', hd', _⟩ := hN
      rw [hC] at ho'; cases ho'
      exact .of_dict hd'
    refine wpAny_assign_Name (storeA hS R' (.ref L) fun s'' st' R'' => ?_)
    have hC' := (R''.o.ext C o (ovr_some (one_same _ _))).1
    obtain ⟨o', es, ep, ho', hr⟩ := hN
    rw [hC] at ho'; cases ho'
    refine ⟨m, ⟨o, es, ep, hC', hr⟩, fun h' hs' => ?_⟩
    have kp : TupKeep s''.heap h' := .extBut hs'.extBut hC' hnt
    exact wpAny_pure (wpAny_pure (q _ _ { s'' with heap := h' } _ _ ((st.trans st').trans (Step.heap' s'' (t := s''.toks) kp)) (R''.leave f (.one hs'.extBut) kp) .next hk))
  · obtain ⟨L, rfl, hr⟩ := hr
    exact hr
end
end Mine
end

section
open PySem PySem.W PyProof.Rows PySem.Calls
set_option Elab.async false
set_option genSizeOf false
set_option linter.unusedVariables false
namespace Mine
/-! dicts -/
noncomputable def getA {K : Type} [DecidableEq K] (xs : List (K × AV)) (k : K) : Option AV := (xs.find? fun kv => kv.1 = k).map (·.2)
noncomputable def putA {K : Type} [DecidableEq K] (xs : List (K × AV)) (k : K) (v : AV) : List (K × AV) :=
  if xs.any (fun kv => kv.1 = k) then xs.map (fun kv => if kv.1 = k then (kv.1, v) else kv) else xs ++ [(k, v)]
theorem putA_len {K : Type} [DecidableEq K] (xs : List (K × AV)) (k : K) (v : AV) : (putA xs k v).length ≤ xs.length + 1 := by
  unfold putA
  split
  · rw [List.length_map]; lia
  · simp
theorem PR.get {K : Type} [DecidableEq K] {h : Heap} (k : K) : ∀ {ys : List (K × Value)} {xs : List (K × AV)}, PR h ys xs → OVR h (valueAt ys k) (getA xs k) := by
  intro ys xs z
  induction z with
  | nil => exact .none
  | @cons k' v0 d0 ys xs a r ih =>
    unfold valueAt getA
    by_cases q : k' = k
    · simp only [List.find?_cons, q, decide_true, Option.map_some]; exact .some a
    · simp only [List.find?_cons, q, decide_false]; exact ih
theorem PR.any {K : Type} [DecidableEq K] {h : Heap} (k : K) {ys : List (K × Value)} {xs : List (K × AV)} (z : PR h ys xs) : ys.any (fun kv => kv.1 = k) = xs.any (fun kv => kv.1 = k) :=
  PR.rec (motive := fun ys xs _ => ys.any (fun kv => kv.1 = k) = xs.any (fun kv => kv.1 = k)) rfl (fun _ _ r => by rw [List.any_cons, List.any_cons, r]) z
theorem PR.len {K : Type} {h : Heap} {ys : List (K × Value)} {xs : List (K × AV)} (z : PR h ys xs) : ys.length = xs.length :=
  PR.rec (motive := fun ys xs _ => ys.length = xs.length) rfl (fun _ _ r => by rw [List.length_cons, List.length_cons, r]) z
theorem PR.map {K : Type} [DecidableEq K] {h : Heap} (k : K) {v : Value} {d : AV} (hv : VR h v d) : ∀ {ys : List (K × Value)} {xs : List (K × AV)}, PR h ys xs → PR h (ys.map fun kv => if kv.1 = k then (kv.1, v) else kv) (xs.map fun kv => if kv.1 = k then (kv.1, d) else kv) := by
  intro ys xs z
  induction z with
  | nil => exact .nil
  | @cons k' v0 d0 ys xs a r ih =>
    simp only [List.map_cons]
    by_cases q : k' = k
    · simp only [q, if_true]; exact .cons hv (ih)
    · simp only [q, if_false]; exact .cons a (ih)
theorem PR.append {K : Type} {h : Heap} {ys zs : List (K × Value)} {xs us : List (K × AV)} (y : PR h ys xs) (z : PR h zs us) : PR h (ys ++ zs) (xs ++ us) := PR.rec (motive := fun ys xs _ => PR h (ys ++ zs) (xs ++ us)) z (fun a _ r => .cons a r) y
theorem PR.put {K : Type} [DecidableEq K] {h : Heap} {k : K} {v : Value} {d : AV} {ys : List (K × Value)} {xs : List (K × AV)} (hv : VR h v d) (z : PR h ys xs) : PR h (stored ys k v) (putA xs k d) := by
  unfold stored putA
  rw [z.any k]
  split
  · exact z.map k hv
  · exact z.append (.cons hv .nil)
theorem TR.get {h : Heap} (k : List Int) : ∀ {ys : List (List Int × Addr × Value)} {xs : List (List Int × AV)}, TR h ys xs → OVR h ((atKey ys k).map (·.2)) (getA xs k) := by
  intro ys xs z
  induction z with
  | nil => exact .none
  | @cons k' a0 v0 d0 ys xs a r ih =>
    unfold atKey getA
    by_cases q : k' = k
    · simp only [List.find?_cons, q, decide_true, Option.map_some]; exact .some a
    · simp only [List.find?_cons, q, decide_false]; exact ih
theorem TR.any {h : Heap} (k : List Int) : ∀ {ys : List (List Int × Addr × Value)} {xs : List (List Int × AV)}, TR h ys xs → (atKey ys k).isSome = xs.any (fun kv => kv.1 = k) := by
  intro ys xs z
  induction z with
  | nil => exact rfl
  | @cons k' a0 v0 d0 ys xs a r ih =>
    unfold atKey at ih ⊢
    simp only [List.find?_cons, List.any_cons]
    by_cases q : k' = k
    · simp [q]
    · simp only [q, decide_false, Bool.false_or]; exact ih
theorem TR.len {h : Heap} : ∀ {ys : List (List Int × Addr × Value)} {xs : List (List Int × AV)}, TR h ys xs → ys.length = xs.length := by
  intro ys xs z
  induction z with
  | nil => exact rfl
  | @cons k' a0 v0 d0 ys xs a r ih => simp only [List.length_cons, ih]
theorem TR.map {h : Heap} (k : List Int) {v : Value} {d : AV} (hv : VR h v d) : ∀ {ys : List (List Int × Addr × Value)} {xs : List (List Int × AV)}, TR h ys xs → TR h (ys.map (putAt k v)) (xs.map fun kv => if kv.1 = k then (kv.1, d) else kv) := by
  intro ys xs z
  induction z with
  | nil => exact .nil
  | @cons k' a0 v0 d0 ys xs a r ih =>
    simp only [List.map_cons, putAt]
    by_cases q : k' = k
    · simp only [q, if_true]; exact .cons hv (ih)
    · simp only [q, if_false]; exact .cons a (ih)
theorem TR.append {h : Heap} {ys zs : List (List Int × Addr × Value)} {xs us : List (List Int × AV)} (y : TR h ys xs) (z : TR h zs us) : TR h (ys ++ zs) (xs ++ us) := TR.rec (motive := fun ys xs _ => TR h (ys ++ zs) (xs ++ us)) z (fun a _ r => .cons a r) y
theorem TR.put {h : Heap} {k : List Int} {a : Addr} {v : Value} {d : AV} {ys : List (List Int × Addr × Value)} {xs : List (List Int × AV)} (hv : VR h v d) (z : TR h ys xs) : TR h (storedH ys k a v) (putA xs k d) := by
  unfold storedH putA
  rw [z.any k]
  split
  · exact z.map k hv
  · exact z.append (.cons hv .nil)
noncomputable def intsAV (ks : List Int) : List AV := ks.map AV.int
theorem itemsAre {prog : Program} {w : World} {h : Heap} : ∀ {vs : List Value} {ks : List Int}, VRs h vs (intsAV ks) → ItemsAre (intKind prog w) ks vs
  | vs, [], z => by rw [z.l0]; exact .nil
  | vs, i :: ks, z => by
    obtain ⟨v, ws, rfl, q, r⟩ := z.lc
    obtain ⟨t, rfl⟩ := q.intI
    exact .cons (by simp [intKind, Value.isInt]) (itemsAre r)
theorem VR.tupKey {prog : Program} {w : World} {h : Heap} {v : Value} {ks : List Int} (z : VR h v (.tup (intsAV ks))) : ∃ a, v = .ref a ∧ (tupleKind (intKind prog w)).is h ks a := by
  cases z with
  | tup e r => exact ⟨_, rfl, _, _, _, e, rfl, rfl, itemsAre r⟩
section
variable {KF : Params → Frag} {g : Gd KF} {c : Cx} {ρ : Loc} {H : AH} {X : XH} {k : AV → Loc → AH → Prop} {kb : Bool → Loc → AH → Prop} {x : AV → Loc → AH → Prop}

theorem Rep.notSys {env : Env} {h : Heap} {a : Addr} {o : AObj} (R : Rep g env h ρ H X) (hH : H a = some o) : (a == sysModules) = false := by
  have h1 := (R.o.obj a o hH).1
  have h2 := g.lo
  exact beq_eq_false_iff_ne.mpr fun e => absurd (e ▸ h1) (Nat.not_le.mpr h2)
theorem VRs.inv1 {h : Heap} {vs : List Value} {a : AV} (z : VRs h vs [a]) : ∃ v, vs = [v] ∧ VR h v a := let ⟨v, _, e, q, r⟩ := z.lc; ⟨v, by rw [e, r.l0], q⟩
theorem VRs.inv2 {h : Heap} {vs : List Value} {a b : AV} (z : VRs h vs [a, b]) : ∃ v w, vs = [v, w] ∧ VR h v a ∧ VR h w b := let ⟨v, _, e, q, r⟩ := z.lc; let ⟨w, e2, q2⟩ := r.inv1; ⟨v, w, by rw [e, e2], q, q2⟩
theorem VRs.inv3 {h : Heap} {vs : List Value} {a b c : AV} (z : VRs h vs [a, b, c]) : ∃ v w u, vs = [v, w, u] ∧ VR h v a ∧ VR h w b ∧ VR h u c := let ⟨v, _, e, q, r⟩ := z.lc; let ⟨w, u, e2, q2, q3⟩ := r.inv2; ⟨v, w, u, by rw [e, e2], q, q2, q3⟩
theorem Rep.dS {env : Env} {h : Heap} {a : Addr} {xs : List (Str × AV)} (R : Rep g env h ρ H X) (hH : H a = some (.dictS xs)) : ∃ ys, h.DictOf (strKind g.prog g.w) a ys ∧ PR h ys xs := (R.o.obj a _ hH).2
theorem Rep.dI {env : Env} {h : Heap} {a : Addr} {xs : List (Int × AV)} (R : Rep g env h ρ H X) (hH : H a = some (.dictI xs)) : ∃ ys, h.DictOf (intKind g.prog g.w) a ys ∧ PR h ys xs := (R.o.obj a _ hH).2
theorem Rep.dT {env : Env} {h : Heap} {a : Addr} {xs : List (List Int × AV)} (R : Rep g env h ρ H X) (hH : H a = some (.dictT xs)) : ∃ ys, h.DictOfH (tupleKind (intKind g.prog g.w)) a ys ∧ TR h ys xs := (R.o.obj a _ hH).2
theorem isStr_key {u : Str} {t : Tok} : (strKind g.prog g.w).is u (.str u t) = true := by show Value.isStrOf u (.str u t) = true; unfold Value.isStrOf; exact beq_self_eq_true u
theorem isInt_key {u : Int} {t : Tok} : (intKind g.prog g.w).is u (.int u t) = true := by simp [intKind, Value.isInt]
theorem OVR.getD {h : Heap} {o : Option Value} {a : Option AV} {v : Value} {d : AV} (z : OVR h o a) (hv : VR h v d) : VR h (o.getD v) (a.getD d) := by
  cases z with
  | none => exact hv
  | some q => exact q

theorem OpL.getS2 {a : Addr} {xs : List (Str × AV)} {u : Str} {d : AV} (hH : H a = some (.dictS xs)) (h : k ((getA xs u).getD d) ρ H) : OpL g c VR (CallV (.builtin "dict.get")) [.ref a, .str u, d] ρ H k x := fun s X Q E vs R hv q e => by
  obtain ⟨_, _, z2, rfl, z, z1, hz2⟩ := hv.inv3
  cases z.refInv; (first | obtain ⟨_, rfl⟩ := z1.strI | obtain ⟨_, rfl⟩ := z1.intI | obtain rfl := z1.boolI | obtain rfl := z1.noneI | cases z1)
  obtain ⟨ys, h1, h2⟩ := R.dS hH
  exact call_meetsIn F.slot_dict_get h1.mapOf.typeIs F.entry_dict_get (F.args_dict_get_3 _ _ _) (meets_dict_get_default (strKind g.prog g.w) a isStr_key (R.notSys hH) _) ⟨_, h1.mapOf, q _ _ _ _ _ (Step.tok s _) R ((h2.get u).getD hz2) h⟩
theorem OpL.getI1 {a : Addr} {xs : List (Int × AV)} {u : Int} (hH : H a = some (.dictI xs)) (h : k ((getA xs u).getD .none) ρ H) : OpL g c VR (CallV (.builtin "dict.get")) [.ref a, .int u] ρ H k x := fun s X Q E vs R hv q e => by
  obtain ⟨_, _, rfl, z, z1⟩ := hv.inv2
  cases z.refInv; (first | obtain ⟨_, rfl⟩ := z1.strI | obtain ⟨_, rfl⟩ := z1.intI | obtain rfl := z1.boolI | obtain rfl := z1.noneI | cases z1)
  obtain ⟨ys, h1, h2⟩ := R.dI hH
  exact call_meetsIn F.slot_dict_get h1.mapOf.typeIs F.entry_dict_get (F.args_dict_get_2 _ _) (meets_dict_get (intKind g.prog g.w) a isInt_key (R.notSys hH)) ⟨_, h1.mapOf, q _ _ _ _ _ (Step.tok s _) R ((h2.get u).getD .none) h⟩
theorem OpL.getT2 {a : Addr} {xs : List (List Int × AV)} {u : List Int} {d : AV} (hu : c.A.units + 1 < cLine) (hH : H a = some (.dictT xs)) (h : k ((getA xs u).getD d) ρ H) : OpL g c VR (CallV (.builtin "dict.get")) [.ref a, .tup (intsAV u), d] ρ H k x := fun s X Q E vs R hv q e => by
  obtain ⟨_, _, z2, rfl, z, z1, hz2⟩ := hv.inv3
  cases z.refInv
  obtain ⟨ys, h1, h2⟩ := R.dT hH
  obtain ⟨b, rfl, hk⟩ := VR.tupKey (prog := g.prog) (w := g.w) z1
  exact call_meetsIn F.slot_dict_get h1.typeIs F.entry_dict_get (F.args_dict_get_3 _ _ _) (meetsH_dict_get_default (tupleKind (intKind g.prog g.w)) a b (R.notSys hH) _) ⟨tupleKind_room_in1 hu, _, _, hk, h1, q _ _ _ _ _ (Step.tok s _) R ((h2.get u).getD hz2) h⟩
theorem OVR.isSome {h : Heap} {o : Option Value} {a : Option AV} (z : OVR h o a) : o.isSome = a.isSome := by (first | obtain ⟨_, rfl⟩ := z.strI | obtain ⟨_, rfl⟩ := z.intI | obtain rfl := z.boolI | obtain rfl := z.noneI | cases z) <;> rfl
theorem Op2.inDS {a : Addr} {xs : List (Str × AV)} {u : Str} (hH : H a = some (.dictS xs)) (h : k (.bool (getA xs u).isSome) ρ H) : Op2 g c VR (compareOp .In) (.str u) (.ref a) ρ H k x := fun s X Q E va vb R ha hb q e => by
  cases hb.refInv; (first | obtain ⟨_, rfl⟩ := ha.strI | obtain ⟨_, rfl⟩ := ha.intI | obtain rfl := ha.boolI | obtain rfl := ha.noneI | cases ha)
  obtain ⟨ys, h1, h2⟩ := R.dS hH
  exact wpAny_in_of (knd := strKind g.prog g.w) isStr_key (R.notSys hH) h1.mapOf (q _ _ _ _ _ (Step.tok s _) R (by rw [(h2.get u).isSome]; exact .bool _) h)
theorem slot_dict_getitem_lookup : typeLookup (.type "dict") "__getitem__" = pure (some (.builtin "dict.__getitem__")) := slot_dict_getitem.lookup
theorem OVR.someI {h : Heap} {o : Option Value} {d : AV} (z : OVR h o (Option.some d)) : ∃ v, o = Option.some v ∧ VR h v d := by
  cases z with | some z => exact ⟨_, rfl, z⟩
theorem Op2.itemDS {value slice : Expr} {a : Addr} {xs : List (Str × AV)} {u : Str} {d : AV} (hH : H a = some (.dictS xs)) (hd : getA xs u = some d) (h : k d ρ H) (hs : PlainSub slice := by intro _ _; with_unfolding_all rfl) : Op2 g c VR (subscriptTail value slice) (.ref a) (.str u) ρ H k x := fun s X Q E va vb R ha hb q e => by
  cases ha.refInv; (first | obtain ⟨_, rfl⟩ := hb.strI | obtain ⟨_, rfl⟩ := hb.intI | obtain rfl := hb.boolI | obtain rfl := hb.noneI | cases hb)
  obtain ⟨ys, h1, h2⟩ := R.dS hH
  have z := h2.get u
  rw [hd] at z
  obtain ⟨v, hv, z⟩ := OVR.someI z
  exact tail_any h1.mapOf.typeIs slot_dict_getitem_lookup (wpAny_getItem_of (knd := strKind g.prog g.w) isStr_key h1.mapOf hv (q _ _ _ _ _ (Step.tok s _) R z h)) (hs _ _)
theorem Op2.itemDI {value slice : Expr} {a : Addr} {xs : List (Int × AV)} {u : Int} {d : AV} (hH : H a = some (.dictI xs)) (hd : getA xs u = some d) (h : k d ρ H) (hs : PlainSub slice := by intro _ _; with_unfolding_all rfl) : Op2 g c VR (subscriptTail value slice) (.ref a) (.int u) ρ H k x := fun s X Q E va vb R ha hb q e => by
  cases ha.refInv; (first | obtain ⟨_, rfl⟩ := hb.strI | obtain ⟨_, rfl⟩ := hb.intI | obtain rfl := hb.boolI | obtain rfl := hb.noneI | cases hb)
  obtain ⟨ys, h1, h2⟩ := R.dI hH
  have z := h2.get u
  rw [hd] at z
  obtain ⟨v, hv, z⟩ := OVR.someI z
  exact tail_any h1.mapOf.typeIs slot_dict_getitem_lookup (wpAny_getItem_of (knd := intKind g.prog g.w) isInt_key h1.mapOf hv (q _ _ _ _ _ (Step.tok s _) R z h)) (hs _ _)
/-- a store by subscript -/
noncomputable def OpS {KF : Params → Frag} (g : Gd KF) (c : Cx) (o i v : AV) (ρ : Loc) (H : AH) (k : Loc → AH → Prop) : Prop :=
  ∀ (s : Shared) (X : XH) (Q : Unit → Shared → Prop) (E : Value → Shared → Prop) (vo vi vv : Value), Rep g c.env s.heap ρ H X → VR s.heap vo o → VR s.heap vi i → VR s.heap vv v →
    (∀ s' ρ' H', Step s s' → Rep g c.env s'.heap ρ' H' X → k ρ' H' → Q () s') → wpAny (model g.prog g.w) c.A (setItem vo vi vv) Q E s
theorem Ex.assignSub {o i e : Expr} {pos' pos : Pos} {k : AF → Loc → AH → Prop} (h : Ev g c e ρ H (fun v ρ₁ H₁ => Ev g c o ρ₁ H₁ (fun ov ρ₂ H₂ => Ev g c i ρ₂ H₂ (fun iv ρ₃ H₃ => OpS g c ov iv v ρ₃ H₃ (k .next)) x) x) x)
    (hs : swapsWith e (some (.Subscript o i pos')) pos.line c.env = pure false := by kernel_rfl) : Ex g c (.Assign [.Subscript o i pos'] e pos) ρ H k x := fun s X Q E R q er =>
  wpAny_Assign_Subscript (h s X _ _ R (fun v b s₁ ρ₁ H₁ st₁ R₁ hv h₁ => h₁ s₁ X _ _ R₁ (fun ov ob s₂ ρ₂ H₂ st₂ R₂ ho h₂ => h₂ s₂ X _ _ R₂ (fun iv ib s₃ ρ₃ H₃ st₃ R₃ hi h₃ =>
    h₃ s₃ X _ _ ov iv v R₃ (ho.mono st₃.tup) hi (hv.mono (st₂.tup.trans st₃.tup)) fun s₄ ρ₄ H₄ st₄ R₄ h₄ => q _ _ _ _ _ (((st₁.trans st₂).trans st₃).trans st₄) R₄ .next h₄) (er.step (st₁.trans st₂))) (er.step st₁)) er) hs
theorem OpS.dS {a : Addr} {xs : List (Str × AV)} {u : Str} {d : AV} {k : Loc → AH → Prop} (hH : H a = some (.dictS xs)) (hz : xs.length ≤ 1000000) (h : k ρ (upd H a (.dictS (putA xs u d)))) : OpS g c (.ref a) (.str u) d ρ H k := fun s X Q E vo vi vv R ho hi hv q => by
  cases ho.refInv; (first | obtain ⟨_, rfl⟩ := hi.strI | obtain ⟨_, rfl⟩ := hi.intI | obtain rfl := hi.boolI | obtain rfl := hi.noneI | cases hi)
  obtain ⟨ys, h1, h2⟩ := R.dS hH
  refine wpAny_setItem_pairs (knd := strKind g.prog g.w) isStr_key h1 (fun h' hm' hs' => ?_) (by rw [h2.len, sizeLine_eq]; lia)
  obtain ⟨R', kp⟩ := R.change (o' := .dictS (putA xs u d)) hH (.inl rfl) rfl hs'.extBut (Nat.le_of_eq hs'.1.symm) rfl rfl fun kp => ⟨_, hm', (PR.put hv h2).mono kp⟩
  exact q _ _ _ (Step.heap' s kp) R' h
theorem OpS.dI {a : Addr} {xs : List (Int × AV)} {u : Int} {d : AV} {k : Loc → AH → Prop} (hH : H a = some (.dictI xs)) (hz : xs.length ≤ 1000000) (h : k ρ (upd H a (.dictI (putA xs u d)))) : OpS g c (.ref a) (.int u) d ρ H k := fun s X Q E vo vi vv R ho hi hv q => by
  cases ho.refInv; (first | obtain ⟨_, rfl⟩ := hi.strI | obtain ⟨_, rfl⟩ := hi.intI | obtain rfl := hi.boolI | obtain rfl := hi.noneI | cases hi)
  obtain ⟨ys, h1, h2⟩ := R.dI hH
  refine wpAny_setItem_pairs (knd := intKind g.prog g.w) isInt_key h1 (fun h' hm' hs' => ?_) (by rw [h2.len, sizeLine_eq]; lia)
  obtain ⟨R', kp⟩ := R.change (o' := .dictI (putA xs u d)) hH (.inl rfl) rfl hs'.extBut (Nat.le_of_eq hs'.1.symm) rfl rfl fun kp => ⟨_, hm', (PR.put hv h2).mono kp⟩
  exact q _ _ _ (Step.heap' s kp) R' h
theorem OpS.dT {a : Addr} {xs : List (List Int × AV)} {u : List Int} {d : AV} {k : Loc → AH → Prop} (hu : c.A.units + 1 < cLine) (hH : H a = some (.dictT xs)) (hz : xs.length ≤ 1000000) (h : k ρ (upd H a (.dictT (putA xs u d)))) : OpS g c (.ref a) (.tup (intsAV u)) d ρ H k := fun s X Q E vo vi vv R ho hi hv q => by
  cases ho.refInv
  obtain ⟨ys, h1, h2⟩ := R.dT hH
  obtain ⟨b, rfl, hk⟩ := VR.tupKey (prog := g.prog) (w := g.w) hi
  refine wpAny_setItem_heap (knd := tupleKind (intKind g.prog g.w)) (tupleKind_room_in1 hu) hk h1 (fun h' hm' hs' => ?_) (by rw [h2.len, sizeLine_eq]; lia)
  obtain ⟨R', kp⟩ := R.change (o' := .dictT (putA xs u d)) hH (.inl rfl) rfl hs'.extBut (Nat.le_of_eq hs'.1.symm) rfl rfl fun kp => ⟨_, hm', (TR.put hv h2).mono kp⟩
  exact q _ _ _ (Step.heap' s kp) R' h
theorem dict_new (h : Heap) {K : Type} [DecidableEq K] (knd : KeyKind g.prog g.w K) : (h.push { cls := .type "dict", data := .dict #[] }).DictOf knd h.objs.size [] :=
  ⟨_, #[], 0, Heap.get?_push_size _ rfl, ⟨rfl, rfl, rfl⟩, rfl, fun _ he => by simp at he, .nil, .nil⟩
theorem Ev.dictS {pos : Pos} (h : ∀ a, H a = none → k (.ref a) ρ (upd H a (.dictS []))) : Ev g c (.Dict [] [] pos) ρ H k x := fun s X Q E R q e =>
  wpAny_Dict_empty (q _ _ { s with heap := s.heap.push _ } _ _ (step_push s _ s.toks) (R.alloc (o' := .dictS []) ⟨[], dict_new _ _, .nil⟩) (.ref _) (h _ R.o.fresh))
theorem Ev.dictI {pos : Pos} (h : ∀ a, H a = none → k (.ref a) ρ (upd H a (.dictI []))) : Ev g c (.Dict [] [] pos) ρ H k x := fun s X Q E R q e =>
  wpAny_Dict_empty (q _ _ { s with heap := s.heap.push _ } _ _ (step_push s _ s.toks) (R.alloc (o' := .dictI []) ⟨[], dict_new _ _, .nil⟩) (.ref _) (h _ R.o.fresh))
theorem Ev.dictT {pos : Pos} (h : ∀ a, H a = none → k (.ref a) ρ (upd H a (.dictT []))) : Ev g c (.Dict [] [] pos) ρ H k x := fun s X Q E R q e =>
  wpAny_Dict_empty (q _ _ { s with heap := s.heap.push _ } _ _ (step_push s _ s.toks) (R.alloc (o' := .dictT []) ⟨[], Heap.DictOfH.new _, .nil⟩) (.ref _) (h _ R.o.fresh))

/-! methods of built-in types -/
noncomputable def isDict : AObj → Bool
  | .dictS _ => true
  | .dictI _ => true
  | .dictT _ => true
  | _ => false
theorem OK.dictCls {h : Heap} {a : Addr} {o : AObj} (z : OK g h H a o) (ho : isDict o = true) : ∃ ob, h.get? a = some ob ∧ ob.cls = .type "dict" ∧ ob.dict = none := by
  cases o with
  | dictS xs => obtain ⟨ys, ⟨ob, es, ep, h1, h2, _⟩, _⟩ := z; exact ⟨ob, h1, h2.1, h2.2.1⟩
  | dictI xs => obtain ⟨ys, ⟨ob, es, ep, h1, h2, _⟩, _⟩ := z; exact ⟨ob, h1, h2.1, h2.2.1⟩
  | dictT xs => obtain ⟨ys, ⟨ob, es, ep, h1, h2, _⟩, _⟩ := z; exact ⟨ob, h1, h2.1, h2.2.1⟩
  | _ => cases ho
theorem Meth.dict {pos : Pos} {name : Str} {id : String} {es : List Expr} {a : Addr} {o : AObj} (hH : H a = some o) (ho : isDict o = true) (slot : Slot "dict" name id) (hty : typeOf (.builtin id) = pure (.type "method_descriptor"))
    (h : CW g c pos (.builtin id) [.ref a] es ρ H k x) : Meth g c pos name es (.ref a) ρ H k x := fun s X Q E v pl R hv q e => by
  cases hv.refInv
  have hd := OK.dictCls (R.o.obj a o hH).2 ho
  obtain ⟨ob, h1, h2, h3⟩ := hd
  exact getMethod_builtin ⟨_, h1, h2⟩ PySem.F.plainAttrs_dict slot hty (fun b e => by cases e; exact ⟨_, h1, h3⟩) (h s X Q E _ _ R (.builtin id) (.cons (.ref a) .nil) q e)
theorem Meth.list {pos : Pos} {name : Str} {id : String} {es : List Expr} {a : Addr} {us : List AV} (hH : H a = some (.list us)) (slot : Slot "list" name id) (hty : typeOf (.builtin id) = pure (.type "method_descriptor"))
    (h : CW g c pos (.builtin id) [.ref a] es ρ H k x) : Meth g c pos name es (.ref a) ρ H k x := fun s X Q E v pl R hv q e => by
  cases hv.refInv
  obtain ⟨its, n, h1, _⟩ := R.list hH
  exact getMethod_builtin ⟨_, h1, rfl⟩ PySem.F.plainAttrs_list slot hty (fun b e => by cases e; exact ⟨_, h1, rfl⟩) (h s X Q E _ _ R (.builtin id) (.cons (.ref a) .nil) q e)
theorem OpL.append {a : Addr} {us : List AV} {u : AV} (hH : H a = some (.list us)) (hz : us.length ≤ 1000000) (h : k .none ρ (upd H a (.list (us ++ [u])))) : OpL g c VR (CallV (.builtin "list.append")) [.ref a, u] ρ H k x := fun s X Q E vs R hv q e => by
  obtain ⟨_, _, rfl, z, z1⟩ := hv.inv2
  cases z.refInv
  exact appendL R hH z1 hz fun s' st R' => q _ _ _ _ _ st R' .none h
theorem VRs.last {h : Heap} {u : AV} : ∀ {us : List AV} {vs : List Value}, VRs h vs (us ++ [u]) → ∃ ws v, vs = ws ++ [v] ∧ VRs h ws us ∧ VR h v u
  | [], vs, z => let ⟨v, e, q⟩ := z.inv1; ⟨[], v, e, .nil, q⟩
  | w :: us, vs, z => let ⟨_, _, e0, a, r⟩ := z.lc; let ⟨ws, v, e, h1, h2⟩ := VRs.last r; ⟨_ :: ws, v, by rw [e0, e]; rfl, .cons a h1, h2⟩
theorem OpL.pop {a : Addr} {us : List AV} {u : AV} (hH : H a = some (.list (us ++ [u]))) (hz : us.length < 1000000) (h : k u ρ (upd H a (.list us))) : OpL g c VR (CallV (.builtin "list.pop")) [.ref a] ρ H k x := fun s X Q E vs R hv q e => by
  obtain ⟨_, rfl, z⟩ := hv.inv1
  cases z.refInv
  obtain ⟨its, n, h1, h2⟩ := R.list hH
  obtain ⟨ws, v, rfl, h3, h4⟩ := h2.last
  have hz' : (ws ++ [v]).toArray.size ≤ sizeLine := by rw [List.size_toArray, List.length_append, h3.length, sizeLine_eq]; simp; lia
  have hk : (ws ++ [v]).toArray.size - 1 = ws.length := by rw [List.size_toArray, List.length_append]; rfl
  have hy : (ws ++ [v]).toArray[(ws ++ [v]).toArray.size - 1]? = some v := by rw [hk]; simp
  refine call_meets PySem.F.slot_list_pop ⟨_, h1, rfl⟩ PySem.F.entry_list_pop (PySem.F.args_list_pop_1 _) (PySem.MeetsSeq.list_pop_last a _ n v hy hz') ⟨h1, ?_⟩
  have hs := Heap.SameBut.update s.heap a (Obj.mapSeq fun xs => xs.eraseIdxIfInBounds ((ws ++ [v]).toArray.size - 1))
  have ho := PySem.IsL.update h1 fun xs => xs.eraseIdxIfInBounds ((ws ++ [v]).toArray.size - 1)
  have e1 : (ws ++ [v]).toArray.eraseIdxIfInBounds ((ws ++ [v]).toArray.size - 1) = ws.toArray := by rw [hk, kl_erase, List.append_nil]
  rw [e1] at ho
  obtain ⟨R', kp⟩ := R.setList (us' := us) hH hs ho h3
  exact q _ _ _ _ _ (Step.heap' s (t := s.toks) kp) R' (h4.mono kp) h
theorem Op1.truthyL {a : Addr} {us : List AV} (hH : H a = some (.list us)) (hz : us.length < 2 ^ 60) (h : kb (!us.isEmpty) ρ H) : Op1 g c BR truthy (.ref a) ρ H kb x := fun s X Q E va R hv q e => by
  cases hv.refInv
  obtain ⟨its, n, h1, h2⟩ := R.list hH
  have hl := h2.length
  refine wpAny_truthy_list (isList_of h1) (by rw [List.size_toArray, hl]; lia) (q _ _ _ _ _ (Step.tok s _) R ?_ h)
  show (!its.toArray.isEmpty) = !us.isEmpty
  cases its <;> cases us <;> first | rfl | (first | obtain ⟨_, rfl⟩ := hl.strI | obtain ⟨_, rfl⟩ := hl.intI | obtain rfl := hl.boolI | obtain rfl := hl.noneI | cases hl)
end
end Mine
end

section
open PySem PySem.W PyProof.Rows PySem.Calls PySem.SeqAt
set_option Elab.async false
set_option genSizeOf false
set_option linter.unusedVariables false
set_option maxRecDepth 100000
namespace Mine
section
variable {KF : Params → Frag} {g : Gd KF} {c : Cx} {ρ : Loc} {H : AH} {X : XH} {k : AV → Loc → AH → Prop} {kb : Bool → Loc → AH → Prop} {x : AV → Loc → AH → Prop}

/-! slices -/
noncomputable def EvP {KF : Params → Frag} (g : Gd KF) (c : Cx) : Option Expr → Loc → AH → (Option Int → Loc → AH → Prop) → (AV → Loc → AH → Prop) → Prop
  | none, ρ, H, k, x => k none ρ H
  | some e, ρ, H, k, x => Ev g c e ρ H (fun v ρ₁ H₁ => ∃ i, v = .int i ∧ k (some i) ρ₁ H₁) x
theorem EvP.run {p : Option Expr} {k : Option Int → Loc → AH → Prop} (h : EvP g c p ρ H k x) : Tri g c (fun _ v d => IsPart v d) (evalPart p c.env) ρ H k x := fun s X Q E R q e => by
  cases p with
  | none => rw [evalPart_none]; exact wpAny_pure (q _ _ _ _ _ (.refl s) R .none h)
  | some p =>
    rw [evalPart_some]
    refine h s X _ _ R (fun v d s' ρ' H' st R' hv hk => ?_) e
    obtain ⟨i, rfl, hk⟩ := hk
    cases hv with
    | int _ t => exact q _ _ _ _ _ st R' (.int i t) hk
theorem Ev.slice {value : Expr} {lower upper : Option Expr} {p pos : Pos} (h : Ev g c value ρ H (fun o ρ₁ H₁ => EvP g c lower ρ₁ H₁ (fun lo ρ₂ H₂ => EvP g c upper ρ₂ H₂ (fun hi ρ₃ H₃ =>
      ∃ l us ws, o = .ref l ∧ H₃ l = some (.list us) ∧ us.length ≤ 1000000 ∧ (∀ (h : Heap) its, VRs h its us → ∃ its', slicePick its.toArray lo hi none = its'.toArray ∧ VRs h its' ws) ∧ ∀ a, H₃ a = none → k (.ref a) ρ₃ (upd H₃ a (.list ws))) x) x) x) : Ev g c (.Subscript value (.Slice lower upper none p) pos) ρ H k x := fun s X Q E R q e =>
  Subscript_ (h s X _ _ R (fun o od s₁ ρ₁ H₁ st₁ R₁ ho h₁ => wpAny_Slice (EvP.run h₁ s₁ X _ _ R₁ (fun vl lo s₂ ρ₂ H₂ st₂ R₂ hl h₂ => EvP.run h₂ s₂ X _ _ R₂ (fun vu hi s₃ ρ₃ H₃ st₃ R₃ hu h₃ => by
    obtain ⟨l, us, ws, rfl, hH, hz, hp, hk⟩ := h₃
    cases ho.refInv
    rw [evalPart_none]
    refine wpAny_pure ?_
    have R4 := R₃.push { cls := .type "slice", data := .fields #[vl, vu, .none] }
    obtain ⟨its, n, h1, h2⟩ := R4.list hH
    obtain ⟨its', e1, h3⟩ := hp _ its h2
    refine tail_any (s := { s₃ with heap := s₃.heap.push _ }) (isList_of h1).typeIs list_getitem_lookup (wpAny_getItem_list_slice (isList_of h1) (Heap.IsSliceOf.new ..) hl hu .none (by simp) ?_ (by rw [List.size_toArray, h2.length, sizeLine_eq]; lia)) rfl
    rw [e1]
    have kp : TupKeep s₃.heap ((s₃.heap.push { cls := .type "slice", data := .fields #[vl, vu, .none] }).push { cls := .type "list", data := .seq its'.toArray }) := .of_keep fun b o e => Heap.get?_push_of_some _ (Heap.get?_push_of_some _ e)
    exact q _ _ { s₃ with heap := _ } _ _ (((st₁.trans st₂).trans st₃).trans (Step.heap' s₃ (t := s₃.toks) kp)) (R4.alloc (o' := .list ws) ⟨its', 0, Heap.get?_push_size _ rfl, h3.mono (.of_keep fun b o e => Heap.get?_push_of_some _ e)⟩) (.ref _) (hk _ R4.o.fresh)) (e.step (st₁.trans st₂))) (e.step st₁))) e)
theorem pick_run {us : List AV} {a b : Nat} (hb : b ≤ us.length) (hab : a ≤ b) : ∀ (h : Heap) its, VRs h its us → ∃ its', slicePick its.toArray (some (a : Int)) (some (b : Int)) none = its'.toArray ∧ VRs h its' ((us.drop a).take (b - a)) := fun h its z =>
  ⟨_, slicePick_run its.toArray a b (by rw [List.size_toArray, z.length]; exact hb) hab, by
    show VRs h ((its.toArray.toList.drop a).take (b - a)) _
    rw [List.toList_toArray]; exact (z.drop a).take (b - a)⟩
theorem EvP.none' {k : Option Int → Loc → AH → Prop} (h : k none ρ H) : EvP g c none ρ H k x := h
theorem EvP.some' {e : Expr} {k : Option Int → Loc → AH → Prop} (h : Ev g c e ρ H (fun v ρ₁ H₁ => ∃ i, v = .int i ∧ k (some i) ρ₁ H₁) x) : EvP g c (some e) ρ H k x := h
theorem pick_runI {us : List AV} {a b : Int} (h0 : 0 ≤ a) (hab : a ≤ b) (hb : b ≤ us.length) : ∀ (h : Heap) its, VRs h its us → ∃ its', slicePick its.toArray (some a) (some b) none = its'.toArray ∧ VRs h its' ((us.drop a.toNat).take (b.toNat - a.toNat)) := fun h its z => by
  have := pick_run (us := us) (a := a.toNat) (b := b.toNat) (by lia) (by lia) h its z
  rwa [Int.toNat_of_nonneg h0, Int.toNat_of_nonneg (by lia)] at this
/-! lists made of lists -/
theorem Op2.addL {a b : Addr} {us ws : List AV} (ha : H a = some (.list us)) (hb : H b = some (.list ws)) (hz : us.length + ws.length ≤ 1000000) (h : ∀ l, H l = none → k (.ref l) ρ (upd H l (.list (us ++ ws)))) : Op2 g c VR (binaryOp .Add) (.ref a) (.ref b) ρ H k x := fun s X Q E va vb R hva hvb q e => by
  cases hva.refInv; cases hvb.refInv
  obtain ⟨its, n, h1, h2⟩ := R.list ha
  obtain ⟨its', n', h3, h4⟩ := R.list hb
  have e1 : its.toArray ++ its'.toArray = (its ++ its').toArray := by simp
  refine concat_meets ⟨_, h1, rfl⟩ ⟨_, h3, rfl⟩ noFill_list_add seq_list_add PySem.F.slot_list_add PySem.F.entry_list_add (PySem.F.args_list_add_2 _ _) (list_addW a b its.toArray its'.toArray n n' none none #[] #[] (by rw [List.size_toArray, List.size_toArray, h2.length, h4.length, sizeLine_eq]; lia)) ⟨h1, h3, ?_⟩
  rw [e1]
  exact q _ _ { s with heap := s.heap.push _ } _ _ (step_push s _ s.toks) (R.alloc (o' := .list (us ++ ws)) ⟨its ++ its', 0, Heap.get?_push_size _ rfl, (h2.append h4).mono (.of_keep fun _ _ e => Heap.get?_push_of_some _ e)⟩) (.ref _) (h _ R.o.fresh)
theorem OpL.tupleL {a : Addr} {us : List AV} (ha : H a = some (.list us)) (hz : us.length ≤ 1000000) (h : k (.tup us) ρ H) : OpL g c VR (CallV (.type "tuple")) [.ref a] ρ H k x := fun s X Q E vs R hv q e => by
  obtain ⟨_, rfl, z⟩ := hv.inv1
  cases z.refInv
  obtain ⟨its, n, h1, h2⟩ := R.list ha
  refine call_tuple_list (isList_of h1) (fun h' hk => ?_) (by rw [List.size_toArray, h2.length, sizeLine_eq]; lia)
  have kp : TupKeep s.heap (h'.push { cls := .type "tuple", data := .seq its.toArray }) := .of_keep fun b o e => Heap.get?_push_of_some _ (hk b o e)
  have R1 : Rep g c.env h' ρ H X := R.master (fun _ => False) (fun b o _ e => hk b o e) (.of_keep hk) fun _ f => f.elim
  exact q _ _ { s with heap := h'.push _ } _ _ (Step.heap' s (t := s.toks) kp) (R1.push _) (.tup (n := 0) (Heap.get?_push_size _ rfl) (h2.mono kp)) h
/-! texts -/
theorem VRs.strs {h : Heap} : ∀ {vs : List Value} {ss : List Str}, VRs h vs (ss.map .str) → ∃ l, vs = strValues l ∧ l.map (·.1) = ss
  | _, [], z => ⟨[], z.l0, rfl⟩
  | _, s :: ss, z => let ⟨_, _, e0, q, r⟩ := z.lc; let ⟨t, e3⟩ := q.strI; let ⟨l, e1, e2⟩ := VRs.strs r; ⟨(s, t) :: l, by rw [e0, e3, e1]; rfl, by rw [List.map_cons, e2]⟩
theorem OpL.join {a : Addr} {sep : Str} {ss : List Str} (ha : H a = some (.list (ss.map .str))) (hok : JoinOk sep ss = true) (h : k (.str (Txt.join sep ss)) ρ H) : OpL g c VR (CallV (.builtin "str.join")) [.str sep, .ref a] ρ H k x := fun s X Q E vs R hv q e => by
  obtain ⟨_, _, rfl, z, z1⟩ := hv.inv2
  cases z1.refInv
  cases z with
  | str _ t =>
    obtain ⟨its, n, h1, h2⟩ := R.list ha
    obtain ⟨l, rfl, e2⟩ := h2.strs
    show wpAny _ _ (PySem.call (.builtin "str.join") [.str sep t, .ref a]) _ _ _
    exact SC.join (isList_of h1) e2 hok fun t' tk => q _ _ _ _ _ (Step.tok s _) R (.str _ _) h
theorem Meth.str {pos : Pos} {name : Str} {id : String} {es : List Expr} {u : Str} (hm : ∀ (M : Model) (A : Around) (E : Value → Shared → Prop) (s : Shared) (t : Tok) (pl : Sem Bool) (Q : Value × List Value → Shared → Prop), Q (.builtin id, [.str u t]) s → wpAny M A (getMethod (.str u t) name pl) Q E s)
    (h : CW g c pos (.builtin id) [.str u] es ρ H k x) : Meth g c pos name es (.str u) ρ H k x := fun s X Q E v pl R hv q e => by
  cases hv with
  | str _ t => exact hm _ _ _ _ _ _ _ (h s X Q E _ _ R (.builtin id) (.cons (.str u t) .nil) q e)
theorem OpL.int {i : Int} (h : k (.int i) ρ H) : OpL g c VR (CallV (.type "int")) [.int i] ρ H k x := fun s X Q E vs R hv q e => by
  obtain ⟨_, rfl, z⟩ := hv.inv1
  cases z with
  | int _ t => exact call_int_int (q _ _ _ _ _ (.refl s) R (.int i t) h)
theorem OpL.abs {i : Int} (h : k (.int i.natAbs) ρ H) : OpL g c VR (CallV (.builtin "abs")) [.int i] ρ H k x := .of (fun s vs Q E hv q => by
  obtain ⟨_, rfl, z⟩ := hv.inv1
  cases z with
  | int _ t => exact call_abs_int fun u tk => q _ _ (by rw [show (if i < 0 then -i else i) = (i.natAbs : Int) by split <;> lia]; exact .int _ _)) h
theorem Op2.iadd {a b : Int} (h : k (.int (a + b)) ρ H) : Op2 g c VR (inplaceOp .Add) (.int a) (.int b) ρ H k x := .of (fun s va vb Q E ha hb q => by (first | obtain ⟨_, rfl⟩ := ha.strI | obtain ⟨_, rfl⟩ := ha.intI | obtain rfl := ha.boolI | obtain rfl := ha.noneI | cases ha); (first | obtain ⟨_, rfl⟩ := hb.strI | obtain ⟨_, rfl⟩ := hb.intI | obtain rfl := hb.boolI | obtain rfl := hb.noneI | cases hb); exact PyProof.Rows.iadd_int (q _ _ (.int _ _))) h

/-! equal contents -/
inductive Same (H : AH) : Nat → AV → AV → Prop
  | int (n : Nat) (i : Int) : Same H n (.int i) (.int i)
  | str (n : Nat) (u : Str) : Same H n (.str u) (.str u)
  | tup {n : Nat} {ds es : List AV} : ds.length = es.length → (∀ (i : Nat) (d e : AV), ds[i]? = some d → es[i]? = some e → Same H n d e) → Same H (n + 1) (.tup ds) (.tup es)
  | list {n : Nat} {a b : Addr} {ds es : List AV} : H a = some (.list ds) → H b = some (.list es) → ds.length = es.length → (∀ (i : Nat) (d e : AV), ds[i]? = some d → es[i]? = some e → Same H n d e) → Same H (n + 1) (.ref a) (.ref b)
theorem VRs.get' {h : Heap} {vs : List Value} {ds : List AV} (z : VRs h vs ds) {i : Nat} (hi : i < vs.length) : ∃ d, ds[i]? = some d ∧ VR h vs[i] d := by
  have hl := z.length
  obtain ⟨v, h1, h2⟩ := z.get (List.getElem?_eq_getElem (by lia : i < ds.length))
  rw [List.getElem?_eq_getElem hi] at h1
  (first | obtain ⟨_, rfl⟩ := h1.strI | obtain ⟨_, rfl⟩ := h1.intI | obtain rfl := h1.boolI | obtain rfl := h1.noneI | cases h1)
  exact ⟨_, List.getElem?_eq_getElem (by lia), h2⟩
theorem Same.at {env : Env} {s : Shared} (R : Rep g env s.heap ρ H X) : ∀ {n : Nat} {a b : AV} {A : Around} {va vb : Value}, Same H n a b → VR s.heap va a → VR s.heap vb b → A.units + n ≤ 9000 → EqAt A s va vb true := by
  intro n a b A va vb S
  induction S generalizing A va vb with
  | int n i =>
    intro v1 v2 _
    obtain ⟨t, rfl⟩ := v1.intI; obtain ⟨u, rfl⟩ := v2.intI
    have := EqAt.int_int (A := A) (s := s) i t i u; rwa [beq_self_eq_true] at this
  | str n i =>
    intro v1 v2 _
    obtain ⟨t, rfl⟩ := v1.strI; obtain ⟨u, rfl⟩ := v2.strI
    have := MeetsSeq.EqGives.at (eqGives_str i i t u) A s; rwa [beq_self_eq_true] at this
  | @tup n ds es hl hs ih =>
    intro v1 v2 hu
    obtain ⟨a, vs, n1, rfl, e1, z1⟩ := v1.tupI
    obtain ⟨b, ws, n2, rfl, e2, z2⟩ := v2.tupI
    have l1 := z1.length
    have l2 := z2.length
    by_cases q : a = b
    · subst q; exact EqAt.same _
    · refine EqAt.of_refs q ?_
      have := RcAt.tuples (A := A) (s := s) (e := fun _ => true) (items := vs.toArray) (items2 := ws.toArray) ⟨_, e1, rfl, _, rfl⟩ ⟨_, e2, rfl, _, rfl⟩ (by show A.units < 9900; lia) (fun j h1 h2 => by
        rw [List.size_toArray] at h1 h2
        obtain ⟨d, d1, d2⟩ := z1.get' h1
        obtain ⟨d', d3, d4⟩ := z2.get' h2
        have := ih j d d' d1 d3 (A := A.in1) d2 d4 (by show A.units + 1 + n ≤ 9000; lia)
        simpa using this)
      have e3 : ((List.range (min vs.toArray.size ws.toArray.size)).all (fun _ => true) && vs.toArray.size == ws.toArray.size) = true := by simp; lia
      rwa [e3] at this
  | @list n a b ds es ha hb hl hs ih =>
    intro v1 v2 hu
    cases v1.refInv; cases v2.refInv
    obtain ⟨vs, n1, e1, z1⟩ := R.list ha
    obtain ⟨ws, n2, e2, z2⟩ := R.list hb
    have l1 := z1.length
    have l2 := z2.length
    by_cases q : a = b
    · subst q; exact EqAt.same _
    · refine EqAt.of_refs q ?_
      have := RcAt.lists (A := A) (s := s) (e := fun _ => true) (isList_of e1) (isList_of e2) (by rw [List.size_toArray, List.size_toArray]; lia) (by show A.units < 9900; lia) (fun j h1 h2 => by
        rw [List.size_toArray] at h1 h2
        obtain ⟨d, d1, d2⟩ := z1.get' h1
        obtain ⟨d', d3, d4⟩ := z2.get' h2
        have := ih j d d' d1 d3 (A := A.in1) d2 d4 (by show A.units + 1 + n ≤ 9000; lia)
        simpa using this)
      have e3 : ((List.range vs.toArray.size).all (fun _ => true)) = true := by simp
      rwa [e3] at this
theorem Op2.eqT {n : Nat} {ds es : List AV} (hs : Same H (n + 1) (.tup ds) (.tup es)) (hu : c.A.units + (n + 1) ≤ 9000) (h : k (.bool true) ρ H) : Op2 g c VR (compareOp .Eq) (.tup ds) (.tup es) ρ H k x := fun s X Q E va vb R ha hb q e => by
  obtain ⟨a, vs, rfl, ⟨o1, e1, c1, n1, d1⟩, z1⟩ := VRs.isTup ha
  obtain ⟨b, ws, rfl, ⟨o2, e2, c2, n2, d2⟩, z2⟩ := VRs.isTup hb
  have l1 := z1.length
  have l2 := z2.length
  cases hs with
  | tup hl hs =>
    refine eq_tupleAt (e := fun _ => true) (items := vs.toArray) (items2 := ws.toArray) ⟨_, e1, c1, n1, d1⟩ ⟨_, e2, c2, n2, d2⟩ (by show c.A.units < 9900; lia) (fun j h1 h2 => ?_) ?_
    · rw [List.size_toArray] at h1 h2
      obtain ⟨d, d1, d2⟩ := z1.get' h1
      obtain ⟨d', d3, d4⟩ := z2.get' h2
      have := Same.at R (A := c.A.in1) (hs j d d' d1 d3) d2 d4 (by show c.A.units + 1 + n ≤ 9000; lia)
      simpa using this
    · have e3 : ((List.range (min vs.toArray.size ws.toArray.size)).all (fun _ => true) && vs.toArray.size == ws.toArray.size) = true := by simp; lia
      rw [e3]
      exact q _ _ _ _ _ (.refl s) R (.bool _) h
theorem Op2.neT {n : Nat} {ds es : List AV} (hs : Same H (n + 1) (.tup ds) (.tup es)) (hu : c.A.units + (n + 1) ≤ 9000) (h : k (.bool false) ρ H) : Op2 g c VR (compareOp .NotEq) (.tup ds) (.tup es) ρ H k x := fun s X Q E va vb R ha hb q e => by
  obtain ⟨a, vs, rfl, ⟨o1, e1, c1, n1, d1⟩, z1⟩ := VRs.isTup ha
  obtain ⟨b, ws, rfl, ⟨o2, e2, c2, n2, d2⟩, z2⟩ := VRs.isTup hb
  have l1 := z1.length
  have l2 := z2.length
  cases hs with
  | tup hl hs =>
    refine RcNeAt.tuples (e := fun _ => true) (items := vs.toArray) (items2 := ws.toArray) ⟨_, e1, c1, n1, d1⟩ ⟨_, e2, c2, n2, d2⟩ (by show c.A.units < 9900; lia) (fun j h1 h2 => ?_) _ _ _ _ ?_
    · rw [List.size_toArray] at h1 h2
      obtain ⟨d, d1, d2⟩ := z1.get' h1
      obtain ⟨d', d3, d4⟩ := z2.get' h2
      have := Same.at R (A := c.A.in1) (hs j d d' d1 d3) d2 d4 (by show c.A.units + 1 + n ≤ 9000; lia)
      simpa using this
    · have e3 : ((List.range (min vs.toArray.size ws.toArray.size)).all (fun _ => true) && vs.toArray.size == ws.toArray.size) = true := by simp; lia
      rw [e3]
      exact q _ _ _ _ _ (.refl s) R (.bool _) h
/-- found == [] -/
theorem Op2.eqNil {a b : Addr} {us : List AV} (ha : H a = some (.list us)) (hb : H b = some (.list [])) (hu : c.A.units ≤ 9000) (h : k (.bool us.isEmpty) ρ H) : Op2 g c VR (compareOp .Eq) (.ref a) (.ref b) ρ H k x := fun s X Q E va vb R hva hvb q e => by
  cases hva.refInv; cases hvb.refInv
  obtain ⟨vs, n1, e1, z1⟩ := R.list ha
  obtain ⟨ws, n2, e2, z2⟩ := R.list hb
  have l1 := z1.length
  (first | obtain ⟨_, rfl⟩ := z2.strI | obtain ⟨_, rfl⟩ := z2.intI | obtain rfl := z2.boolI | obtain rfl := z2.noneI | cases z2)
  cases us with
  | nil =>
    (first | obtain ⟨_, rfl⟩ := z1.strI | obtain ⟨_, rfl⟩ := z1.intI | obtain rfl := z1.boolI | obtain rfl := z1.noneI | cases z1)
    exact eq_listAt (e := fun _ => true) (isList_of e1) (isList_of e2) rfl (by show c.A.units < 9900; lia) (fun j h1 h2 => absurd h1 (Nat.not_lt_zero _)) (q _ _ _ _ _ (.refl s) R (.bool _) h)
  | cons u us => exact eq_list_lengthsAt (isList_of e1) (isList_of e2) (by rw [List.size_toArray, l1]; rfl) (by show c.A.units < 9900; lia) (q _ _ _ _ _ (.refl s) R (.bool _) h)
end
end Mine
end

section
open PySem PySem.W PyProof.Rows PySem.Calls
set_option Elab.async false
set_option genSizeOf false
set_option linter.unusedVariables false
set_option maxRecDepth 100000
namespace Mine
/-- what kind a thing is of -/
noncomputable def kindA : AObj → Nat
  | .inst C _ _ => C + 10
  | .own _ => 0
  | .list _ => 1
  | .dictS _ => 2
  | .dictI _ => 3
  | .dictT _ => 4
theorem ne_kind {H : AH} {a b : Addr} {o o' : AObj} (ha : H a = some o) (hb : H b = some o') (hk : (kindA o == kindA o') = false) : a ≠ b := fun q => by
  subst q; rw [ha] at hb; cases hb; rw [beq_self_eq_true] at hk; cases hk
theorem ne_fresh {H : AH} {a b : Addr} {o : AObj} (ha : H a = none) (hb : H b = some o) : b ≠ a := fun q => by subst q; rw [ha] at hb; cases hb
theorem upd_fresh {H : AH} {a b : Addr} {o o' : AObj} (ha : H a = none) (e : H b = some o') : upd H a o b = some o' := (upd_ne (ne_fresh ha e)).trans e
theorem upd_kind {H : AH} {a b : Addr} {o o' oa : AObj} (ha : H a = some oa) (e : H b = some o') (hk : (kindA o' == kindA oa) = false) : upd H a o b = some o' := (upd_ne (ne_kind e ha hk)).trans e
theorem upd_new {H H₁ : AH} {a b : Addr} {o o' o₁ : AObj} (ha : H₁ a = none) (e₁ : H₁ b = some o₁) (e : H b = some o') : upd H a o b = some o' := (upd_ne (ne_fresh ha e₁)).trans e
/-- nothing is lost -/
noncomputable def Keep (H H' : AH) : Prop := ∀ b o, H b = some o → H' b = some o
theorem Keep.trans {H H' H'' : AH} (x : Keep H H') (y : Keep H' H'') : Keep H H'' := fun b o e => y b o (x b o e)
theorem Keep.new {H : AH} {a : Addr} {o : AObj} (h : H a = none) : Keep H (upd H a o) := fun b o e => upd_fresh h e
theorem fresh_upd {H : AH} {a b : Addr} {o ob : AObj} (ha : upd H b o a = none) : H a = none ∧ a ≠ b := by
  by_cases q : a = b
  · subst q; rw [upd_same] at ha; cases ha
  · rw [upd_ne q] at ha; exact ⟨ha, q⟩

theorem kB {k : AV → AH → Prop} {H : AH} {b b' : Bool} (h : k (.bool b) H) (e : b = b') : k (.bool b') H := e ▸ h
section
variable {KF : Params → Frag} {g : Gd KF}
/-- a list that nobody names is no longer told of -/
theorem Rep0.drop {h : Heap} {H : AH} {X : XH} {L : Addr} {o : AObj} (hi : insOf o = none) (ho : ownOf o = none) (R : Rep0 g h (upd H L o) X) (hL : H L = none) : Rep0 g h H X := by
  have key : ∀ b o', H b = some o' → upd H L o b = some o' := fun b o' e => upd_fresh hL e
  refine ⟨R.keep, R.size, fun a x e => ?_, fun a ob e => ?_⟩
  · have z := R.obj a x (key a x e)
    refine ⟨z.1, ?_⟩
    have w := z.2
    cases x with
    | inst C d fs =>
      obtain ⟨h1, h2, h3⟩ := w
      refine ⟨h1, h2, ?_⟩
      by_cases q : d = L
      · rw [q, upd_same] at h3; rw [Option.some.inj h3] at ho; cases ho
      · rwa [upd_ne q] at h3
    | own b =>
      obtain ⟨C, fs, h1⟩ := w
      by_cases q : b = L
      · rw [q, upd_same] at h1; rw [Option.some.inj h1] at hi; cases hi
      · exact ⟨C, fs, by rwa [upd_ne q] at h1⟩
    | list vs => exact w
    | dictS f => exact w
    | dictI f => exact w
    | dictT f => exact w
  · have z := R.ext a ob e
    refine ⟨z.1, ?_, z.2.2⟩
    cases q : H a with
    | none => rfl
    | some o' => rw [key a o' q] at z; cases z.2.1
/-- an instance that nobody names -/
theorem Rep0.dropI {h : Heap} {H : AH} {X : XH} {a d C : Addr} {fs : List (Str × AV)} {o : AObj} (R : Rep0 g h (upd (upd H d o) a (.inst C d fs)) X) (ha : H a = none) (hd : H d = none) (ho : o = .own a) (hne : a ≠ d) : Rep0 g h H X := by
  subst ho
  have key : ∀ b o', H b = some o' → upd (upd H d (.own a)) a (.inst C d fs) b = some o' := fun b o' e => (upd_ne (ne_fresh ha e)).trans (upd_fresh hd e)
  refine ⟨R.keep, R.size, fun b x e => ?_, fun b ob e => ?_⟩
  · have z := R.obj b x (key b x e)
    refine ⟨z.1, ?_⟩
    have w := z.2
    cases x with
    | inst C' d' fs' =>
      obtain ⟨h1, h2, h3⟩ := w
      refine ⟨h1, h2, ?_⟩
      have n1 : d' ≠ a := fun q => by rw [q, upd_same] at h3; cases h3
      have n2 : d' ≠ d := fun q => by
        rw [q, upd_ne (Ne.symm hne), upd_same] at h3
        injection h3 with h3
        injection h3 with h3
        rw [← h3, ha] at e; cases e
      rwa [upd_ne n1, upd_ne n2] at h3
    | own b' =>
      obtain ⟨C', fs', h1⟩ := w
      have n1 : b' ≠ a := fun q => by
        rw [q, upd_same] at h1
        injection h1 with h1
        injection h1 with _ h1
        rw [← h1, hd] at e; cases e
      have n2 : b' ≠ d := fun q => by
        rw [q, upd_ne (Ne.symm hne), upd_same] at h1
        cases h1
      exact ⟨C', fs', by rwa [upd_ne n1, upd_ne n2] at h1⟩
    | list vs => exact w
    | dictS f => exact w
    | dictI f => exact w
    | dictT f => exact w
  · have z := R.ext b ob e
    refine ⟨z.1, ?_, z.2.2⟩
    cases q : H b with
    | none => rfl
    | some o' => rw [key b o' q] at z; cases z.2.1
/-- what is left behind by a call -/
inductive Left (k : AV → AH → Prop) (v : AV) : AH → Prop
  | here {H : AH} : k v H → Left k v H
  | drop {H : AH} {L : Addr} {o : AObj} : insOf o = none → ownOf o = none → H L = none → Left k v H → Left k v (upd H L o)
  | dropI {H : AH} {a d C : Addr} {fs : List (Str × AV)} : H a = none → H d = none → a ≠ d → Left k v H → Left k v (upd (upd H d (.own a)) a (.inst C d fs))
theorem Left.get {k : AV → AH → Prop} {v : AV} {H : AH} (z : Left k v H) {h : Heap} {X : XH} (R : Rep0 g h H X) : ∃ H', k v H' ∧ Rep0 g h H' X := by
  induction z with
  | here z => exact ⟨_, z, R⟩
  | drop hi ho hL _ ih => exact ih (R.drop hi ho hL)
  | dropI ha hd hne _ ih => exact ih (R.dropI ha hd rfl hne)
theorem Cal.left {n : Nat} {b : Bool} {f : Addr} {as : List AV} {H : AH} {k x : AV → AH → Prop} (h : Cal g n b f as H (Left k) x) : Cal g n b f as H k x := fun A s X R vs ok hv R0 q e =>
  h A s X R vs ok hv R0 (fun v d s' H' st R' hv' hk => let ⟨H'', h1, h2⟩ := hk.get R'; q v d s' H'' st h2 hv' h1) e
theorem upd_upd (H : AH) (t : Addr) (a b : AObj) : upd (upd H t a) t b = upd H t b := by
  funext y
  unfold upd
  by_cases q : y = t
  · rw [if_pos q, if_pos q]
  · rw [if_neg q, if_neg q, if_neg q]
theorem upd_self {H : AH} {t : Addr} {a : AObj} (e : H t = some a) : upd H t a = H := by
  funext y
  unfold upd
  by_cases q : y = t
  · rw [if_pos q, q, e]
  · rw [if_neg q]
theorem CmpL.flat {c : Cx} {tg elt : Expr} {ifs : List Expr} {D : AH → Prop} {L : Addr} {k : List AV → Loc → AH → Prop} {H0 : AH} (G : Loc → Prop) (N : AV → Loc → Loc) (p : AV → Bool) (f : AV → AV) (hD : ∀ us, D (upd H0 L (.list us))) : ∀ (vs us : List AV) (ρ : Loc),
    (∀ v ∈ vs, ∀ ρ, G ρ → G (N v ρ)) →
    (∀ v ∈ vs, ∀ ρ us (k' : Loc → AH → Prop), G ρ → k' (N v ρ) (upd H0 L (.list us)) → As g c tg v ρ (upd H0 L (.list us)) k') →
    (∀ v ∈ vs, ∀ ρ us (k' : Bool → Loc → AH → Prop), G ρ → k' (p v) (N v ρ) (upd H0 L (.list us)) → TsL g c ifs (N v ρ) (upd H0 L (.list us)) k') →
    (∀ v ∈ vs, p v = true → ∀ ρ us (k' : AV → Loc → AH → Prop), G ρ → k' (f v) (N v ρ) (upd H0 L (.list us)) → Ev g c elt (N v ρ) (upd H0 L (.list us)) k' (fun _ _ _ => False)) →
    us.length + vs.length ≤ 1000000 → (∀ ρ, G ρ → k (us ++ (vs.filter p).map f) ρ (upd H0 L (.list (us ++ (vs.filter p).map f)))) → G ρ → CmpL g c tg elt ifs D L k vs us ρ (upd H0 L (.list us))
  | [], us, ρ, hN, ha, ht, he, hz, hk, hG => by
    have := hk ρ hG
    simp only [List.filter_nil, List.map_nil, List.append_nil] at this
    exact ⟨hD us, this⟩
  | v :: vs, us, ρ, hN, ha, ht, he, hz, hk, hG => by
    refine ⟨hD us, ha v (.head _) ρ us _ hG (ht v (.head _) ρ us _ hG ?_)⟩
    have hz' := hz
    rw [List.length_cons] at hz'
    cases hp : p v with
    | false =>
      rw [if_neg Bool.false_ne_true]
      refine CmpL.flat G N p f hD vs us (N v ρ) (fun w hw => hN w (.tail _ hw)) (fun w hw => ha w (.tail _ hw)) (fun w hw => ht w (.tail _ hw)) (fun w hw => he w (.tail _ hw)) (by lia) (fun ρ' hG' => ?_) (hN v (.head _) ρ hG)
      have := hk ρ' hG'
      rwa [List.filter_cons_of_neg (by rw [hp]; exact Bool.false_ne_true)] at this
    | true =>
      rw [if_pos rfl]
      refine he v (.head _) hp ρ us _ hG ⟨upd_same _ _ _, by lia, ?_⟩
      rw [upd_upd]
      refine CmpL.flat G N p f hD vs (us ++ [f v]) (N v ρ) (fun w hw => hN w (.tail _ hw)) (fun w hw => ha w (.tail _ hw)) (fun w hw => ht w (.tail _ hw)) (fun w hw => he w (.tail _ hw)) (by rw [List.length_append]; simp only [List.length_cons, List.length_nil]; lia) (fun ρ' hG' => ?_) (hN v (.head _) ρ hG)
      have := hk ρ' hG'
      rw [List.filter_cons_of_pos hp, List.map_cons] at this
      simpa using this
end
end Mine
end

section
open PySem PySem.W PyProof.Rows PySem.Calls
set_option Elab.async false
set_option genSizeOf false
set_option linter.unusedVariables false
set_option maxRecDepth 100000
namespace Mine
theorem upd_none {H : AH} {a b : Addr} {o : AObj} : upd H b o a = none ↔ a ≠ b ∧ H a = none :=
  ⟨fun h => ⟨(fresh_upd (ob := o) h).2, (fresh_upd (ob := o) h).1⟩, fun h => (upd_ne h.1).trans h.2⟩
theorem nmn {a : Addr} : a ∉ ([] : List Addr) := fun h => nomatch h
theorem nmc {a b : Addr} {l : List Addr} (h : a ≠ b) (hl : a ∉ l) : a ∉ b :: l := fun q => match List.mem_cons.mp q with | .inl e => h e | .inr e => hl e
theorem fmn {l : List Addr} : ∀ b ∈ ([] : List Addr), b ∈ l := fun _ h => nomatch h
theorem fmc {a : Addr} {l l' : List Addr} (h : a ∈ l') (hl : ∀ b ∈ l, b ∈ l') : ∀ b ∈ a :: l, b ∈ l' := fun b q => match List.mem_cons.mp q with | .inl e => e ▸ h | .inr e => hl b e
theorem uN {H : AH} {a b : Addr} {o : AObj} (e : upd H b o a = none) : H a = none := (upd_none.mp e).2
theorem uD {H : AH} {a b : Addr} {o : AObj} (e : upd H b o a = none) : a ≠ b := (upd_none.mp e).1
theorem putF_nil {y : Str} {v : AV} : putF [] y v = [(y, v)] := rfl
section
variable {KF : Params → Frag} {g : Gd KF} {c : Cx} {ρ : Loc} {H : AH} {X : XH} {k : AV → Loc → AH → Prop} {kb : Bool → Loc → AH → Prop} {x : AV → Loc → AH → Prop}
theorem Rep.keepAll {env : Env} {h h' : Heap} (R : Rep g env h ρ H X) (hk : ∀ b o, h.get? b = some o → h'.get? b = some o) : Rep g env h' ρ H X :=
  R.master (fun _ => False) (fun b o _ e => hk b o e) (.of_keep hk) fun _ f => f.elim
theorem OpL.max2 {a b : Int} (hh : c.A.handled = none) (h : k (.int (if b > a then b else a)) ρ H) : OpL g c VR (CallV (.builtin "max")) [.int a, .int b] ρ H k x := fun s X Q E vs R hv q e => by
  obtain ⟨_, _, rfl, z, z1⟩ := hv.inv2
  cases z with
  | int _ t =>
    cases z1 with
    | int _ u => exact max_two_ints hh fun h' tk hk => q _ _ _ _ _ (Step.heap' s (.of_keep hk)) (R.keepAll hk) (by split <;> exact .int _ _) h
noncomputable def TurnF {KF : Params → Frag} (g : Gd KF) (c : Cx) (tg : Expr) (body : List Stmt) (D : AH → Prop) (k : AF → Loc → AH → Prop) (vs : List AV) (f : AF) (ρ : Loc) (H : AH) : Prop := match f with
  | .next => D H ∧ ForL g c tg body D k vs ρ H
  | .cont => D H ∧ ForL g c tg body D k vs ρ H
  | .brk => k .next ρ H
  | .ret u => k (.ret u) ρ H
theorem ForL.cons {tg : Expr} {body : List Stmt} {D : AH → Prop} {k : AF → Loc → AH → Prop} {v : AV} {vs : List AV} (h : As g c tg v ρ H (fun ρ₁ H₁ => Exs g c body ρ₁ H₁ (TurnF g c tg body D k vs) (fun _ _ _ => False))) : ForL g c tg body D k (v :: vs) ρ H := by
  unfold ForL
  intro s X Q E vv R hv q
  refine h s X Q E vv R hv fun s' ρ' H' st R' hk => q s' ρ' H' st R' (Tri.mono hk (fun f ρ₂ H₂ hf => ?_) fun _ _ _ f => f)
  cases f <;> exact hf
theorem ForL.nil {tg : Expr} {body : List Stmt} {D : AH → Prop} {k : AF → Loc → AH → Prop} (h : k .next ρ H) : ForL g c tg body D k [] ρ H := h
theorem turnF_next {tg : Expr} {body : List Stmt} {D : AH → Prop} {k : AF → Loc → AH → Prop} {vs : List AV} (hD : D H) (h : ForL g c tg body D k vs ρ H) : TurnF g c tg body D k vs .next ρ H := ⟨hD, h⟩
end
end Mine
end

section
open PySem PySem.W PyProof.Rows PySem.Calls PySem.SeqAt
set_option Elab.async false
set_option genSizeOf false
set_option linter.unusedVariables false
set_option maxRecDepth 100000
namespace Mine
section
variable {KF : Params → Frag} {g : Gd KF} {c : Cx} {ρ : Loc} {H : AH} {X : XH} {k : AV → Loc → AH → Prop} {kb : Bool → Loc → AH → Prop} {x : AV → Loc → AH → Prop}
theorem GV.tup {a : Addr} {vs : List Value} {n : Nat} {ds : List AV} (hk : (KF g.w.params).lookup a = some (tupObj vs n)) (hv : ∀ h : Heap, VRs h vs ds) : GV g (.ref a) (.tup ds) := fun h keep => .tup (g.X.keeps keep _ _ hk) (hv h)
theorem VRs.strsAre {h : Heap} : ∀ {vs : List Value} {ss : List Str}, VRs h vs (ss.map .str) → StrsAre vs ss
  | _, [], z => by rw [z.l0]; exact .nil
  | _, s :: ss, z => by
    obtain ⟨v, ws, rfl, q, r⟩ := z.lc
    obtain ⟨t, rfl⟩ := q.strI
    exact .cons s t (VRs.strsAre r)
theorem Op2.inT {u : Str} {ss : List Str} (h : k (.bool (decide (u ∈ ss))) ρ H) : Op2 g c VR (compareOp .In) (.str u) (.tup (ss.map .str)) ρ H k x := fun s X Q E va vb R ha hb q e => by
  obtain ⟨a, vs, rfl, ⟨o, e1, c1, n, d1⟩, z⟩ := VRs.isTup hb
  cases ha with
  | str _ t =>
    have hs := z.strsAre
    refine in_tupleAt (isStrOf u) (items := vs.toArray) ⟨o, e1, c1, n, d1⟩ (fun y hy => MeetsSeq.EqGives.at (eq_isStrOf u t hs y (by simpa using hy)) _ _) (q _ _ _ _ _ (.refl s) R ?_ h)
    rw [← Array.any_toList, show vs.toArray.toList = vs from rfl, any_isStrOf u hs]
    have e2 : ss.any (· == u) = decide (u ∈ ss) := by
      rw [Bool.eq_iff_iff, List.any_eq_true, decide_eq_true_eq]
      constructor
      · rintro ⟨y, hy, e⟩; exact (eq_of_beq e) ▸ hy
      · intro hy; exact ⟨u, hy, beq_self_eq_true u⟩
    rw [e2]
    exact .bool _
theorem VR.toTup {h : Heap} {a : Addr} {vs : List Value} {n : Nat} {ds : List AV} (K : (KF g.w.params).In h) (hk : (KF g.w.params).lookup a = some (tupObj vs n)) (hv : ∀ h : Heap, VRs h vs ds) : VR h (.ref a) (.tup ds) := .tup (K _ _ hk) (hv h)
theorem Op2.inK {u : Str} {ss : List Str} {a : Addr} {vs : List Value} {n : Nat} (hk : (KF g.w.params).lookup a = some (tupObj vs n)) (hv : ∀ h : Heap, VRs h vs (ss.map .str)) (h : k (.bool (decide (u ∈ ss))) ρ H) : Op2 g c VR (compareOp .In) (.str u) (.ref a) ρ H k x := fun s X Q E va vb R ha hb q e => by
  cases hb.refInv
  exact Op2.inT h s X Q E va (.ref a) R ha (VR.toTup R.K hk hv) q e
theorem Op2.notInDS {a : Addr} {xs : List (Str × AV)} {u : Str} (hH : H a = some (.dictS xs)) (h : k (.bool (!(getA xs u).isSome)) ρ H) : Op2 g c VR (compareOp .NotIn) (.str u) (.ref a) ρ H k x := fun s X Q E va vb R ha hb q e => by
  cases hb.refInv; (first | obtain ⟨_, rfl⟩ := ha.strI | obtain ⟨_, rfl⟩ := ha.intI | obtain rfl := ha.boolI | obtain rfl := ha.noneI | cases ha)
  obtain ⟨ys, h1, h2⟩ := R.dS hH
  exact wpAny_notIn_of (knd := strKind g.prog g.w) isStr_key (R.notSys hH) h1.mapOf (q _ _ _ _ _ (Step.tok s _) R (by rw [(h2.get u).isSome]; exact .bool _) h)
theorem OpL.tupleT {us : List AV} (h : k (.tup us) ρ H) : OpL g c VR (CallV (.type "tuple")) [.tup us] ρ H k x := fun s X Q E vs R hv q e => by
  obtain ⟨_, rfl, z⟩ := hv.inv1
  obtain ⟨a, ws, rfl, h1, h2⟩ := VRs.isTup z
  exact call_tuple_tup h1 (q _ _ _ _ _ (.refl s) R z h)
theorem Op2.last {value slice : Expr} {t : Addr} {us : List AV} {d : AV} (hH : H t = some (.list (us ++ [d]))) (hz : us.length ≤ 1000000) (h : k d ρ H) (hs : PlainSub slice := by intro _ _; with_unfolding_all rfl) : Op2 g c VR (subscriptTail value slice) (.ref t) (.int (-1)) ρ H k x := by
  have hl : (us ++ [d]).length = us.length + 1 := by rw [List.length_append]; rfl
  refine Op2.itemLneg hH (by lia) (by lia) (by lia) ?_ h hs
  have e : ((-1 : Int) + ((us ++ [d]).length : Int)).toNat = us.length := by lia
  rw [e, List.getElem?_append_right (Nat.le_refl _), Nat.sub_self]
  rfl
end
end Mine
end

section
open PySem PySem.W PyProof.Rows PySem.Calls PySem.SeqAt PySem.Builtin PySem.Builtin.Str
set_option Elab.async false
set_option genSizeOf false
set_option linter.unusedVariables false
set_option maxRecDepth 100000
namespace Mine
section
variable {KF : Params → Frag} {g : Gd KF} {c : Cx} {ρ : Loc} {H : AH} {X : XH} {k : AV → Loc → AH → Prop} {kb : Bool → Loc → AH → Prop} {x : AV → Loc → AH → Prop}
theorem Op2.itemS {value slice : Expr} {u : Str} {i : Int} (h0 : 0 ≤ i) (h2 : i < u.length) (hz : i < 2 ^ 60) (h : k (.str (Txt.item u i)) ρ H) (hs : PlainSub slice := by intro _ _; with_unfolding_all rfl) : Op2 g c VR (subscriptTail value slice) (.str u) (.int i) ρ H k x := fun s X Q E va vb R ha hb q e => by
  cases ha with
  | str _ t =>
    cases hb with
    | int _ w =>
      exact item_str (by unfold fitsSsize; simp; lia) (by lia) h2 (fun _ => q _ _ _ _ _ (Step.tok s _) R (.str _ _) h) (hs _ _) (by intro r; cases value <;> rfl)
theorem Ex.assignT {elts : List Expr} {n : Nat} {tpos pos : Pos} {e : Expr} {k : AF → Loc → AH → Prop} (h : Ev g c e ρ H (fun v ρ₁ H₁ => As g c (.Tuple elts n tpos) v ρ₁ H₁ (k .next)) x)
    (hs : swapsWithSole [.Tuple elts n tpos] e pos.line c.env = pure false := by rfl) (hw : swappedStores [.Tuple elts n tpos] e c.env = pure none := by rfl) : Ex g c (.Assign [.Tuple elts n tpos] e pos) ρ H k x := fun s X Q E R q er =>
  Assign_Tuple (h s X _ _ R (fun v b s₁ ρ₁ H₁ st₁ R₁ hv h₁ => h₁ s₁ X _ _ v R₁ hv fun s₂ ρ₂ H₂ st₂ R₂ h₂ => q _ _ _ _ _ (st₁.trans st₂) R₂ .next h₂) er) hs hw
end
end Mine
end

section
open PySem PySem.W PyProof.Rows PySem.Calls
set_option Elab.async false
set_option genSizeOf false
set_option linter.unusedVariables false
set_option maxRecDepth 100000
namespace Mine
section
variable {KF : Params → Frag} {g : Gd KF} {c : Cx} {ρ : Loc} {H : AH} {X : XH} {x : AV → Loc → AH → Prop}
/-- a try whose body never raises -/
theorem Ex.tryq {body : List Stmt} {h₀ : ExceptHandler} {hs : List ExceptHandler} {pos : Pos} {k : AF → Loc → AH → Prop} (h : Exs g c body ρ H k (fun _ _ _ => False)) : Ex g c (.Try body (h₀ :: hs) [] [] pos) ρ H k x := fun s X Q E R q e =>
  wpAny_Try_except (h s X _ _ R (fun f f' s₁ ρ₁ H₁ st R₁ hf hk => by
    cases hf with
    | next => exact wpAny_execs_nil (q _ _ _ _ _ st R₁ .next hk)
    | brk => exact q _ _ _ _ _ st R₁ .brk hk
    | cont => exact q _ _ _ _ _ st R₁ .cont hk
    | ret hv => exact q _ _ _ _ _ st R₁ (.ret hv) hk) fun _ _ _ _ _ _ _ _ h => h.elim)
end
end Mine
end

section
open PySem PySem.W PyProof.Rows PySem.Calls
set_option Elab.async false
set_option genSizeOf false
set_option linter.unusedVariables false
set_option maxRecDepth 100000
namespace Mine
section
variable {KF : Params → Frag} {g : Gd KF} {c : Cx} {ρ : Loc} {H : AH} {X : XH} {k : AV → Loc → AH → Prop} {x : AV → Loc → AH → Prop}
/-- a slice of a list of the ground -/
theorem Ev.sliceG {value : Expr} {lower upper : Option Expr} {p pos : Pos} (h : Ev g c value ρ H (fun o ρ₁ H₁ => EvP g c lower ρ₁ H₁ (fun lo ρ₂ H₂ => EvP g c upper ρ₂ H₂ (fun hi ρ₃ H₃ =>
      ∃ (l : Addr) (its its' : List Value) (ws : List AV), o = .ref l ∧ g.hb.IsList l its.toArray ∧ its.length ≤ 1000000 ∧ slicePick its.toArray lo hi none = its'.toArray ∧ (∀ h : Heap, VRs h its' ws) ∧ ∀ a, H₃ a = none → k (.ref a) ρ₃ (upd H₃ a (.list ws))) x) x) x) : Ev g c (.Subscript value (.Slice lower upper none p) pos) ρ H k x := fun s X Q E R q e =>
  Subscript_ (h s X _ _ R (fun o od s₁ ρ₁ H₁ st₁ R₁ ho h₁ => wpAny_Slice (EvP.run h₁ s₁ X _ _ R₁ (fun vl lo s₂ ρ₂ H₂ st₂ R₂ hl h₂ => EvP.run h₂ s₂ X _ _ R₂ (fun vu hi s₃ ρ₃ H₃ st₃ R₃ hu h₃ => by
    obtain ⟨l, its, its', ws, rfl, hG, hz, e1, h3, hk⟩ := h₃
    cases ho.refInv
    rw [evalPart_none]
    refine wpAny_pure ?_
    have R4 := R₃.push { cls := .type "slice", data := .fields #[vl, vu, .none] }
    have h1 := hG.at (fun o e => R4.o.keep l o e)
    refine tail_any (s := { s₃ with heap := s₃.heap.push _ }) h1.typeIs list_getitem_lookup (wpAny_getItem_list_slice h1 (Heap.IsSliceOf.new ..) hl hu .none (by simp) ?_ (by rw [List.size_toArray, sizeLine_eq]; lia)) rfl
    rw [e1]
    have kp : TupKeep s₃.heap ((s₃.heap.push { cls := .type "slice", data := .fields #[vl, vu, .none] }).push { cls := .type "list", data := .seq its'.toArray }) := .of_keep fun b o e => Heap.get?_push_of_some _ (Heap.get?_push_of_some _ e)
    exact q _ _ { s₃ with heap := _ } _ _ (((st₁.trans st₂).trans st₃).trans (Step.heap' s₃ (t := s₃.toks) kp)) (R4.alloc (o' := .list ws) ⟨its', 0, Heap.get?_push_size _ rfl, h3 _⟩) (.ref _) (hk _ R4.o.fresh)) (e.step (st₁.trans st₂))) (e.step st₁))) e)
theorem ints_VRs {h : Heap} {vs : List Value} {ns : List Int} (z : IntsAre vs ns) : VRs h vs (ns.map .int) := by
  induction z with
  | nil => exact .nil
  | cons n t r ih => exact .cons (.int n t) ih
end
end Mine
end

section
open PySem PySem.W PyProof.Rows PySem.Calls
set_option Elab.async false
set_option genSizeOf false
set_option linter.unusedVariables false
set_option maxRecDepth 100000
namespace Mine
/-- the same ground, grown -/
noncomputable def Gd.over {KF : Params → Frag} (g : Gd KF) (h : Heap) (hk : ∀ b o, g.hb.get? b = some o → h.get? b = some o) (hz : g.hb.objs.size ≤ h.objs.size) : Gd KF :=
  ⟨g.prog, g.w, g.p, g.loose, g.mean, g.mg, g.mb, h, g.X.keeps hk, g.T.keeps hk, Nat.lt_of_lt_of_le g.lo hz⟩
end Mine
end

section
open PySem PySem.W PyProof.Rows PySem.Calls
set_option Elab.async false
set_option genSizeOf false
set_option linter.unusedVariables false
set_option maxRecDepth 100000
namespace Mine
theorem VRs.strsAll {h : Heap} : ∀ {vs : List Value} {ss : List Str}, VRs h vs (ss.map .str) → ∀ h', VRs h' vs (ss.map .str)
  | _, [], z, _ => by rw [z.l0]; exact .nil
  | _, _ :: _, z, h' => by
    obtain ⟨v, ws, rfl, q, r⟩ := z.lc
    obtain ⟨t, rfl⟩ := q.strI
    exact .cons (.str _ t) (VRs.strsAll r h')
theorem VRs.repl {h : Heap} {v : Value} {d : AV} (z : VR h v d) : ∀ n, VRs h (List.replicate n v) (List.replicate n d)
  | 0 => .nil
  | n + 1 => .cons z (VRs.repl z n)
theorem flat_one (v : Value) : ∀ (n : Nat) (a : Array Value), List.foldl (fun x1 x2 => x1 ++ x2) a (List.replicate n #[v]) = a ++ (List.replicate n v).toArray
  | 0, a => by simp
  | n + 1, a => by
    rw [List.replicate_succ, List.foldl_cons, flat_one v n, List.replicate_succ]
    apply Array.ext'
    simp
theorem countIn_strs (k : Str) : ∀ ys : List Str, PySem.Spec.countIn (.str k) (ys.map PyData.str) = (ys.count k : Nat)
  | [] => rfl
  | y :: r => by
    rw [List.map_cons, PySem.Spec.countIn, countIn_strs k r, List.count_cons]
    have e : PySem.Spec.same (.str y) (.str k) = (y == k) := by rfl
    rw [e]
    by_cases q : y = k
    · subst q; simp; lia
    · simp [q]
section
variable {KF : Params → Frag} {g : Gd KF} {c : Cx} {ρ : Loc} {H : AH} {X : XH} {k : AV → Loc → AH → Prop} {kb : Bool → Loc → AH → Prop} {x : AV → Loc → AH → Prop}
theorem mulG {prog : Program} {w : World} {A : Around} {E : Value → Shared → Prop} {s : Shared} {l : Addr} {items : Array Value} {k : Nat} {x : Int} {u : Tok} {Q : Value → Shared → Prop}
    (hl : s.heap.get? l = some { cls := .type "list", dict := none, data := .seq items k, slots := #[] })
    (hlo : -(2 ^ 63 : Int) ≤ x) (hhi : x < 2 ^ 63) (hsz : items.size * x.toNat ≤ 2 ^ 24)
    (h : Q (.ref s.heap.objs.size) { s with heap := s.heap.push { cls := .type "list", data := .seq (List.foldl (fun x1 x2 => x1 ++ x2) #[] (List.replicate (if items.isEmpty = true then 0 else x.toNat) items)) } }) :
    wpAny (model prog w) A (binaryOp .Mult (.ref l) (.int x u)) Q E s :=
  wpAny_binaryOp_repeat_ref (T := "list") (U := "int") (by decide) ⟨_, hl, rfl⟩ (fun s' => typeIs_int s' x u) noFill_list_mul F.fills_int_mul F.slot_int_rmul repeat_list F.slot_int_index.lookup
    (call_meets F.slot_int_rmul (typeIs_int s x u) F.entry_int_rmul (F.args_int_rmul_2 _ _) (int___rmul___int_list x u l items k)
      ⟨hl, rfl, ⟨_, hl, rfl⟩, call_meets F.slot_list_mul ⟨_, hl, rfl⟩ F.entry_list_mul (F.args_list_mul_2 _ _)
        (AutoListH.list___mul___list_int_3 l items k x u (by simp [Builtin.List.listFitsIndex]; lia) (by lia) (by simp [Builtin.List.listTooLong, sizeLine]; lia))
        ⟨hl, h⟩⟩)
/-- [v] * n -/
theorem Op2.mulOne {a : Addr} {v : AV} {n : Nat} (ha : H a = some (.list [v])) (hz : n ≤ 1000) (h : ∀ l, H l = none → k (.ref l) ρ (upd H l (.list (List.replicate n v)))) : Op2 g c VR (binaryOp .Mult) (.ref a) (.int n) ρ H k x := fun s X Q E va vb R hva hvb q e => by
  cases hva.refInv
  cases hvb with
  | int _ u =>
    obtain ⟨its, m, h1, h2⟩ := R.list ha
    obtain ⟨v', rfl, h3⟩ := h2.inv1
    refine mulG (items := [v'].toArray) h1 (by lia) (by lia) (by simp; lia) ?_
    have e1 : List.foldl (fun x1 x2 => x1 ++ x2) #[] (List.replicate (if ([v'] : List Value).toArray.isEmpty = true then 0 else (n : Int).toNat) ([v'] : List Value).toArray) = (List.replicate n v').toArray := by
      rw [if_neg (by simp), Int.toNat_natCast]
      have := flat_one v' n #[]
      simpa using this
    rw [e1]
    exact q _ _ { s with heap := s.heap.push _ } _ _ (step_push s _ s.toks) (R.alloc (o' := .list (List.replicate n v)) ⟨List.replicate n v', 0, Heap.get?_push_size _ rfl, (VRs.repl h3 n).mono (.of_keep fun _ _ e => Heap.get?_push_of_some _ e)⟩) (.ref _) (h _ R.o.fresh)
theorem OpL.count {a : Addr} {ss : List Str} {u : Str} (ha : H a = some (.list (ss.map .str))) (h : k (.int (ss.count u : Nat)) ρ H) : OpL g c VR (CallV (.builtin "list.count")) [.ref a, .str u] ρ H k x := fun s X Q E vs R hv q e => by
  obtain ⟨_, _, rfl, z, z1⟩ := hv.inv2
  cases z.refInv
  cases z1 with
  | str _ t =>
    obtain ⟨its, n, h1, h2⟩ := R.list ha
    show wpAny _ _ (PySem.call (.builtin "list.count") [.ref a, .str u t]) _ _ _
    refine count_list_strs (isList_of h1) h2.strsAre (q _ _ _ _ _ (Step.tok s _) R ?_ h)
    rw [countIn_strs]
    exact .int _ _
end
end Mine
end

section
open PySem PySem.W PyProof.Rows PySem.Calls
set_option Elab.async false
set_option genSizeOf false
set_option linter.unusedVariables false
set_option maxRecDepth 100000
namespace Mine
theorem ne_up {n b : Nat} (k : Nat) (h : b < n) : b ≠ n + k := Nat.ne_of_lt (Nat.lt_of_lt_of_le h (Nat.le_add_right n k))
theorem ne_off {n : Nat} (j k : Nat) (h : Nat.beq j k = false) : n + j ≠ n + k := fun q => absurd (Nat.add_left_cancel q) (Nat.ne_of_beq_eq_false h)
theorem ltN {h : Heap} {a : Addr} {o : Obj} (e : h.get? a = some o) : @LT.lt Nat _ a h.objs.size := Heap.lt_size e
noncomputable abbrev noH : AH := fun _ => none
section
variable {KF : Params → Frag} {g : Gd KF} {c : Cx} {ρ : Loc} {H : AH} {X : XH} {x : AV → Loc → AH → Prop}
/-- an element is reckoned in a comprehension's own frame; everything else stands still -/
theorem Ev.raw {A : Around} {cenv : Env} {e : Expr} {s : Shared} {h₀ : Heap} {m : Str → Option Value} {k : AV → Loc → AH → Prop} {Q : Value → Shared → Prop} {E : Value → Shared → Prop}
    (hk₀ : ∀ b o, g.hb.get? b = some o → h₀.get? b = some o) (hz : g.hb.objs.size ≤ h₀.objs.size) (hk : ∀ b o, h₀.get? b = some o → s.heap.get? b = some o)
    (hc : cenv.cells = []) (hC : h₀.objs.size ≤ cenv.locals) (hn : s.heap.Ns cenv.locals m) (hl : ∀ x d, ρ x = some d → ∃ v, m x = some v ∧ VR s.heap v d)
    (he : Ev (g.over h₀ hk₀ hz) ⟨A, cenv⟩ e ρ noH k (fun _ _ _ => False))
    (q : ∀ v d s' ρ' H', s' = { s with heap := s'.heap, toks := s'.toks } → (∀ b o, h₀.get? b = some o → s'.heap.get? b = some o) → (∀ b o, h₀.objs.size ≤ b → b ≠ cenv.locals → s.heap.get? b = some o → s'.heap.get? b = some o) → (∃ m', s'.heap.Ns cenv.locals m') → VR s'.heap v d → k d ρ' H' → Q v s') :
    wpAny (model g.prog g.w) A (eval e cenv) Q E s := by
  let XX : XH := fun b => if h₀.objs.size ≤ b ∧ b ≠ cenv.locals then s.heap.get? b else none
  have R : Rep (g.over h₀ hk₀ hz) cenv s.heap ρ noH XX := by
    refine ⟨⟨hk, Nat.le_trans hC (Nat.le_of_lt hn.lt), fun a x e => (nomatch e), fun a o e => ?_⟩, ⟨⟨m, hn, fun y d e => ?_⟩, ⟨hC, rfl, if_neg fun z => z.2 rfl⟩, fun y a e => ?_, fun y y' a e => ?_⟩⟩
    · have e : (if h₀.objs.size ≤ a ∧ a ≠ cenv.locals then s.heap.get? a else none) = some o := e
      split at e
      · rename_i z; exact ⟨e, rfl, z.1⟩
      · cases e
    · rw [hc]; exact hl y d e
    · rw [hc] at e; cases e
    · rw [hc] at e; cases e
  refine he s XX Q E R (fun v d s' ρ' H' st R' hv hk' => q v d s' ρ' H' st.eq R'.o.keep (fun b o h1 h2 e => (R'.o.ext b o ?_).1) ?_ hv hk') fun _ _ _ _ _ _ _ _ h => h.elim
  · show (if h₀.objs.size ≤ b ∧ b ≠ cenv.locals then s.heap.get? b else none) = some o
    rw [if_pos ⟨h1, h2⟩]; exact e
  · obtain ⟨m', h1, _⟩ := R'.f.ns; exact ⟨m', h1⟩

/-- what stands at each turn -/
inductive ZInv (h₀ : Heap) (s₀ : Shared) (L l1 l2 : Addr) (W : Nat) (ds : Nat → List AV) (k : Nat) (s' : Shared) : Prop
  | mk (i : Nat) (m : Str → Option Value) (its : List Value) (n : Nat) : i ≤ W → k = W + 1 - i → s' = { s₀ with heap := s'.heap, toks := s'.toks } → (∀ b o, h₀.get? b = some o → s'.heap.get? b = some o) →
    IsZip s'.heap (h₀.objs.size + 4) (h₀.objs.size + 2) (h₀.objs.size + 3) .none → IsPair s'.heap (h₀.objs.size + 2) (.ref h₀.objs.size) (.ref (h₀.objs.size + 1)) → (∃ u v, IsPair s'.heap (h₀.objs.size + 3) u v) →
    s'.heap.IsListIter h₀.objs.size l1 i → s'.heap.IsListIter (h₀.objs.size + 1) l2 i → s'.heap.Ns L m → s'.heap.get? (h₀.objs.size + 5) = some (listOf its.toArray n) → (∀ h, VRs h its (ds i)) → ZInv h₀ s₀ L l1 l2 W ds k s'
theorem zip_look {h h1 h2 : Heap} {a b y : Str} {vx vy : Value} {w : Str} {n : Int} {m : Str → Option Value} {d : AV} (X : VR h1 vx (.str w)) (Y : VR h2 vy (.int n)) (e : setL (setL noL a (.str w)) b (.int n) y = some d) :
    ∃ v, (if y = b then some vy else if y = a then some vx else m y) = some v ∧ VR h v d := by
  obtain ⟨t, rfl⟩ := X.strI
  obtain ⟨u, rfl⟩ := Y.intI
  by_cases q1 : y = b
  · subst q1
    rw [setL_same] at e
    cases e
    exact ⟨_, if_pos rfl, .int _ _⟩
  · rw [setL_ne q1] at e
    by_cases q2 : y = a
    · subst q2
      rw [setL_same] at e
      cases e
      exact ⟨_, by rw [if_neg q1, if_pos rfl], .str _ _⟩
    · rw [setL_ne q2] at e; cases e
/-- zip's turns -/
theorem zipLoop {A : Around} {cenv : Env} {elt iter : Expr} {a b : Str} {pa pb tp : Pos} {kk : Nat} {scope : Scope} {pos : Pos} {h₀ : Heap} {s₀ : Shared} {l1 l2 : Addr} {ws : List Str} {ns : List Int} {xs ys : List Value} {f : Str → Int → Str} {R : Result → Shared → Prop}
    (hk₀ : ∀ b o, g.hb.get? b = some o → h₀.get? b = some o) (hz : g.hb.objs.size ≤ h₀.objs.size)
    (hh : A.handled = none) (hl1 : h₀.IsList l1 xs.toArray) (hl2 : h₀.IsList l2 ys.toArray) (hx : ∀ h, VRs h xs (ws.map .str)) (hy : ∀ h, VRs h ys (ns.map .int)) (hlen : ws.length = ns.length) (hsz : ws.length ≤ 1000000)
    (hC : @Eq Nat cenv.locals (h₀.objs.size + 6)) (hc : cenv.cells = []) (ha : cenv.kindOf a = some .local) (hb : cenv.kindOf b = some .local) (hp : (cenv.scope.kind == .class || (cenv.scope.kind == .module && cenv.locals != cenv.globals)) = false) (hab : ¬ a = b)
    (he : ∀ (i : Nat) w n, ws[i]? = some w → ns[i]? = some n → Ev (g.over h₀ hk₀ hz) ⟨A, cenv⟩ elt (setL (setL noL a (.str w)) b (.int n)) noH (fun d _ _ => d = .str (f w n)) (fun _ _ _ => False))
    (s : Shared) (es : s = { s₀ with heap := s.heap, toks := s.toks }) (k0 : ∀ b o, h₀.get? b = some o → s.heap.get? b = some o) (z1 : IsZip s.heap (h₀.objs.size + 4) (h₀.objs.size + 2) (h₀.objs.size + 3) .none) (z2 : IsPair s.heap (h₀.objs.size + 2) (.ref h₀.objs.size) (.ref (h₀.objs.size + 1)))
    (z3 : IsPair s.heap (h₀.objs.size + 3) .none .none) (z4 : s.heap.IsListIter h₀.objs.size l1 0) (z5 : s.heap.IsListIter (h₀.objs.size + 1) l2 0) (zC : ∃ m, s.heap.Ns cenv.locals m) (zL : ∃ its n, s.heap.get? (h₀.objs.size + 5) = some (listOf its.toArray n) ∧ its = [])
    (fin : ∀ s', s' = { s₀ with heap := s'.heap, toks := s'.toks } → (∀ b o, h₀.get? b = some o → s'.heap.get? b = some o) → (∃ m, s'.heap.Ns cenv.locals m) → (∃ its n, s'.heap.get? (h₀.objs.size + 5) = some (listOf its.toArray n) ∧ ∀ h, VRs h its ((List.zipWith f ws ns).map .str)) → R (.ok .next) s') :
    codeAny (model g.prog g.w) A (.compLoop (.ListComp elt [⟨.Tuple [.Name a pa, .Name b pb] kk tp, iter, [], 0⟩] scope pos) 0 (.ref (h₀.objs.size + 4)) (.ref (h₀.objs.size + 5)) cenv) R s := by
  obtain ⟨o1, e1, _⟩ := id hl1
  obtain ⟨o2, e2, _⟩ := id hl2
  have lt1 := ltN e1
  have lt2 := ltN e2
  have D : ZipApart (h₀.objs.size + 4) (h₀.objs.size + 2) (h₀.objs.size + 3) h₀.objs.size (h₀.objs.size + 1) l1 l2 := by
    constructor <;> first | exact ne_off (n := h₀.objs.size) _ _ rfl | exact ne_off (n := h₀.objs.size) _ 0 rfl | exact ne_off (n := h₀.objs.size) 0 _ rfl | exact ne_up _ lt1 | exact ne_up 0 lt1 | exact ne_up _ lt2 | exact ne_up 0 lt2 | exact (ne_up _ lt1).symm | exact (ne_up 0 lt1).symm | exact (ne_up _ lt2).symm | exact (ne_up 0 lt2).symm | (intro q; have q : @Eq Nat _ _ := q; lia)
  have cN : ∀ j, Nat.beq 6 j = false → @Ne Nat cenv.locals (h₀.objs.size + j) := fun j hj => by rw [hC]; exact ne_off 6 j hj
  have lx : xs.length = ws.length := by rw [(hx h₀).length, List.length_map]
  have ly : ys.length = ns.length := by rw [(hy h₀).length, List.length_map]
  have lz : (List.zipWith f ws ns).length = ws.length := by rw [List.length_zipWith, hlen, Nat.min_self]
  refine kcp_loop (fun k s' => ZInv h₀ s₀ cenv.locals l1 l2 ws.length (fun i => ((List.zipWith f ws ns).take i).map .str) k s') ?_ (ws.length + 1) ?_
  · rintro k s' ⟨i, m, its, n, hi, hki, es', k0', y1, y2, ⟨u, v, y3⟩, y4, y5, yC, yL, yv⟩
    have yv : ∀ h, VRs h its (((List.zipWith f ws ns).take i).map .str) := yv
    by_cases q : i < ws.length
    · have hw : ws[i]? = some ws[i] := List.getElem?_eq_getElem q
      have hn : ns[i]? = some (ns[i]'(hlen ▸ q)) := List.getElem?_eq_getElem (hlen ▸ q)
      obtain ⟨vx, vx1, vx2⟩ := (hx h₀).get (i := i) (d := .str ws[i]) (by rw [List.getElem?_map, hw]; rfl)
      obtain ⟨vy, vy1, vy2⟩ := (hy h₀).get (i := i) (d := .int ns[i]) (by rw [List.getElem?_map, hn]; rfl)
      refine wpAny_pyNext_zip_item D y1 y2 y3 y4 y5 (hl1.at fun o e => k0' _ o e) (hl2.at fun o e => k0' _ o e) (by rw [List.getElem?_toArray]; exact vx1) (by rw [List.getElem?_toArray]; exact vy1) fun h' a1 a2 a3 a4 a5 a6 a7 => ?_
      have sC : @LT.lt Nat _ cenv.locals s'.heap.objs.size := yC.lt
      refine wpAny_letOwnedTupleGo_zip a1 fun h'' b1 b2 => ?_
      have hT : h''.IsTuple s'.heap.objs.size #[vx, vy] := ⟨_, b2.extBut _ _ (Nat.ne_of_gt (Nat.lt_trans (Nat.add_lt_add_left (Nat.le_of_ble_eq_true rfl : 4 < 6) _) (hC ▸ sC))) a5, rfl, _, rfl⟩
      have up : ∀ b o, b ≠ h₀.objs.size + 4 → b ≠ h₀.objs.size + 3 → b ≠ h₀.objs.size → b ≠ h₀.objs.size + 1 → s'.heap.get? b = some o → h''.get? b = some o := fun b o c1 c2 c3 c4 e => b2.extBut _ _ c1 (a7 b o c1 c2 c3 c4 e)
      have up0 : ∀ b o, h₀.get? b = some o → h''.get? b = some o := fun b o e => by
        have := ltN e
        exact up b o (ne_up 4 this) (ne_up 3 this) (ne_up 0 this) (ne_up 1 this) (k0' b o e)
      have nC : h''.Ns cenv.locals m := yC.at' fun o e => up _ o (cN 4 rfl) (cN 3 rfl) (cN 0 rfl) (cN 1 rfl) e
      refine kcp_assign (s := { s' with heap := h'' }) hh hT ha hb hp nC fun h3 tk3 n3 up3 => ?_
      have ne : ∀ (j : Nat), j < 6 → h₀.objs.size + j ≠ cenv.locals := fun j hj => by rw [hC]; exact Nat.ne_of_lt (Nat.add_lt_add_left hj _)
      refine Ev.raw (g := g) (s := { s' with heap := h3, toks := tk3 }) hk₀ hz (fun b o e => up3 b o (by rw [hC]; exact ne_up 6 (ltN e)) (up0 b o e)) hc (by rw [hC]; exact Nat.le_add_right _ _) n3 (fun y d e => ?_) (he i ws[i] ns[i] hw hn) fun v d s4 ρ' H' st4 kk0 kk1 zC4 hv4 hd => ?_
      · exact zip_look vx2 vy2 e
      · subst hd
        have up4 : ∀ (j : Nat) o, j < 6 → h''.get? (h₀.objs.size + j) = some o → s4.heap.get? (h₀.objs.size + j) = some o := fun j o hj e => kk1 _ o (Nat.le_add_right _ _) (ne j hj) (up3 _ o (ne j hj) e)
        have cL : s4.heap.get? (h₀.objs.size + 5) = some (listOf its.toArray n) := up4 5 _ (Nat.le_of_ble_eq_true rfl) (up _ _ (ne_off 5 4 rfl) (ne_off 5 3 rfl) (ne_off 5 0 rfl) (ne_off 5 1 rfl) yL)
        have litz : its.length = i := by rw [(yv h₀).length, List.length_map, List.length_take, lz]; exact Nat.min_eq_left hi
        refine append_at (hsz := by rw [List.size_toArray, sizeLine_eq]; lia) cL fun h5 hs5 ho5 => ?_
        obtain ⟨m4, zC4⟩ := zC4
        refine ⟨ws.length + 1 - (i + 1), by lia, .mk (i + 1) m4 (its ++ [v]) (n + 1) q rfl ?_ ?_ ?_ ?_ ?_ ?_ ?_ ?_ ?_ fun h => ?_⟩
        · show ({ s4 with heap := h5 } : Shared) = _
          rw [st4, es']
        · exact fun b o e => hs5.extBut b o (ne_up 5 (ltN e)) (kk0 b o e)
        · exact hs5.extBut _ _ (ne_off 4 5 rfl) (up4 4 _ (Nat.le_of_ble_eq_true rfl) b1)
        · exact hs5.extBut _ _ (ne_off 2 5 rfl) (up4 2 _ (Nat.le_of_ble_eq_true rfl) (up _ _ (ne_off 2 4 rfl) (ne_off 2 3 rfl) (ne_off 2 0 rfl) (ne_off 2 1 rfl) y2))
        · exact ⟨_, _, hs5.extBut _ _ (ne_off 3 5 rfl) (up4 3 _ (Nat.le_of_ble_eq_true rfl) (b2.extBut _ _ (ne_off 3 4 rfl) a2))⟩
        · exact a3.at fun o e => hs5.extBut _ _ (ne_off 0 5 rfl) (up4 0 _ (Nat.le_of_ble_eq_true rfl) (b2.extBut _ _ (ne_off 0 4 rfl) e))
        · exact a4.at fun o e => hs5.extBut _ _ (ne_off 1 5 rfl) (up4 1 _ (Nat.le_of_ble_eq_true rfl) (b2.extBut _ _ (ne_off 1 4 rfl) e))
        · exact zC4.at' fun o e => hs5.extBut _ _ (cN 5 rfl) e
        · rw [List.push_toArray] at ho5; exact ho5
        · show VRs h _ (((List.zipWith f ws ns).take (i + 1)).map .str)
          have e3 : (List.zipWith f ws ns).take (i + 1) = (List.zipWith f ws ns).take i ++ [f ws[i] ns[i]] := by
            rw [List.take_add_one, List.getElem?_zipWith, hw, hn]; rfl
          rw [e3, List.map_append]
          cases hv4 with
          | str _ t => exact (yv h).append (.cons (.str _ _) .nil)
    · have hi' : i = ws.length := Nat.le_antisymm hi (Nat.le_of_not_lt q)
      subst hi'
      refine wpAny_pyNext_zip_end hh D y1 y2 y3 y4 y5 (hl1.at fun o e => k0' _ o e) (hl2.at fun o e => k0' _ o e) (.inl (by rw [List.getElem?_toArray]; exact List.getElem?_eq_none (Nat.le_of_eq lx))) fun h' a7 => ?_
      refine fin _ ?_ (fun b o e => ?_) ⟨m, yC.at' fun o e => ?_⟩ ⟨its, n, ?_, fun h => ?_⟩
      · rw [es']
      · have := ltN e
        exact a7 b o (ne_up 4 this) (ne_up 3 this) (ne_up 0 this) (ne_up 1 this) (k0' b o e)
      · exact a7 _ o (cN 4 rfl) (cN 3 rfl) (cN 0 rfl) (cN 1 rfl) e
      · exact a7 _ _ (ne_off 5 4 rfl) (ne_off 5 3 rfl) (ne_off 5 0 rfl) (ne_off 5 1 rfl) yL
      · have := yv h
        rwa [List.take_of_length_le (Nat.le_of_eq lz)] at this
  · obtain ⟨its, n, e3, rfl⟩ := zL
    obtain ⟨m, zC⟩ := zC
    exact .mk 0 m [] n (Nat.zero_le _) rfl es k0 z1 z2 ⟨_, _, z3⟩ z4 z5 zC e3 fun h => .nil
end
end Mine
end

section
open PySem PySem.W PyProof.Rows PySem.Calls
set_option Elab.async false
set_option genSizeOf false
set_option linter.unusedVariables false
set_option maxRecDepth 100000
namespace Mine
theorem VRs.intsAll {h : Heap} : ∀ {vs : List Value} {ss : List Int}, VRs h vs (ss.map .int) → ∀ h', VRs h' vs (ss.map .int)
  | _, [], z, _ => by rw [z.l0]; exact .nil
  | _, _ :: _, z, h' => by
    obtain ⟨v, ws, rfl, q, r⟩ := z.lc
    obtain ⟨t, rfl⟩ := q.intI
    exact .cons (.int _ t) (VRs.intsAll r h')
section
variable {KF : Params → Frag} {g : Gd KF} {c : Cx} {ρ : Loc} {H : AH} {X : XH} {x : AV → Loc → AH → Prop}
/-- zip(a, b) in a comprehension's head -/
noncomputable def EvZ {KF : Params → Frag} (g : Gd KF) (c : Cx) (iter : Expr) (ρ : Loc) (H : AH) (k : Addr → Addr → Loc → AH → Prop) (x : AV → Loc → AH → Prop) : Prop :=
  ∀ (s : Shared) (X : XH) (Q : Value → Shared → Prop) (E : Value → Shared → Prop), Rep g c.env s.heap ρ H X → (∀ l1 l2 s' ρ' H', Step s s' → Rep g c.env s'.heap ρ' H' X → k l1 l2 ρ' H' → wpAny (model g.prog g.w) c.A (PySem.call (.type "zip") [.ref l1, .ref l2]) Q E s') → Es g c X s x E →
    wpAny (model g.prog g.w) c.A (eval iter c.env) Q E s
theorem EvZ.call {func : Expr} {args : List Expr} {pos : Pos} {k : Addr → Addr → Loc → AH → Prop} (h : Ev g c func ρ H (fun f ρ₁ H₁ => f = .type "zip" ∧ EvL g c pos args ρ₁ H₁ (fun vs ρ₂ H₂ => ∃ l1 l2, vs = [.ref l1, .ref l2] ∧ k l1 l2 ρ₂ H₂) x) x)
    (hplain : (backTo pos (starEach args c.env)).any (·.1) = false)
    (he : eval (.Call func args [] pos) c.env = (do callWith pos (← eval func c.env) [] (backTo pos (starEach args c.env)) (backToKw pos (keywordEach [] c.env))) := by kernel_rfl) : EvZ g c (.Call func args [] pos) ρ H k x := fun s X Q E R q e => by
  refine Call_ (h s X _ _ R (fun fv f s₁ ρ₁ H₁ st₁ R₁ hfv h₁ => ?_) e) he
  obtain ⟨rfl, h₁⟩ := h₁
  cases hfv
  refine callWith_of (P := fun _ => True) (by rw [hplain]; rfl) (fun h' _ => ⟨.machine, .inr (.inl rfl), Looks.of_pure rfl⟩) (evalArgs_list hplain ?_)
  exact h₁ s₁ X _ _ R₁ (fun vs ds s₂ ρ₂ H₂ st₂ R₂ hvs h₂ => ⟨trivial, by
    obtain ⟨l1, l2, rfl, hk⟩ := h₂
    obtain ⟨v, w, rfl, z1, z2⟩ := hvs.inv2
    cases z1.refInv
    cases z2.refInv
    exact q l1 l2 s₂ ρ₂ H₂ (st₁.trans st₂) R₂ hk⟩) (e.step st₁)

/-- a comprehension over a zip of a list of texts and a list of ints -/
theorem CompZ.run {elt iter : Expr} {a b : Str} {pa pb tp : Pos} {kk : Nat} {scope : Scope} {pos : Pos} {RR : Addr → Addr → Result → Shared → Prop} {k : AV → Loc → AH → Prop} {s : Shared} {E : Value → Shared → Prop} {f : Str → Int → Str}
    (hkind : scope.kind = .function) (hcell : ∀ y ∈ scope.names, y.2 ≠ .cell) (R : Rep g c.env s.heap ρ H X) (hh : c.A.handled = none)
    (hxa : scope.names.lookup a = some .local) (hxb : scope.names.lookup b = some .local) (hab : ¬ a = b)
    (h : EvZ g c iter ρ H (fun l1 l2 ρ₁ H₁ => ∃ ws ns, H₁ l1 = some (.list (ws.map .str)) ∧ H₁ l2 = some (.list (ns.map .int)) ∧ ws.length = ns.length ∧ ws.length ≤ 1000000 ∧
      (∀ (g' : Gd KF) C (i : Nat) w n, g'.prog = g.prog → g'.w = g.w → ws[i]? = some w → ns[i]? = some n → Ev g' ⟨c.A, compEnvC scope [] C c.env⟩ elt (setL (setL noL a (.str w)) b (.int n)) noH (fun d _ _ => d = .str (f w n)) (fun _ _ _ => False)) ∧
      ∀ L, H₁ L = none → k (.ref L) ρ₁ (upd H₁ L (.list ((List.zipWith f ws ns).map .str)))) x) (e : Es g c X s x E)
    (fin : ∀ L C s' ρ₁ H₂ o m, Step s s' → Rep g c.env s'.heap ρ₁ H₂ (ovr X (one C o)) → Off X c.env (one C o) → s'.heap.get? C = some o → s'.heap.Ns C m → k (.ref L) ρ₁ H₂ → RR L C (.ok .next) s') :
    wpAny (model g.prog g.w) c.A (eval iter c.env) (fun x s₁ => wpAny (model g.prog g.w) c.A (pyIter x) (fun it s₂ => wpAny (model g.prog g.w) c.A (newList []) (fun acc s₃ =>
      wpAny (model g.prog g.w) c.A (newFunctionEnv scope c.env.globals [] [] c.env.qual none .none (some c.env)) (fun cenv s₄ =>
        codeAny (model g.prog g.w) c.A (.compStart (.ListComp elt [⟨.Tuple [.Name a pa, .Name b pb] kk tp, iter, [], 0⟩] scope pos) 0 it acc { cenv with scope := relabel scope c.env }) (fun r s' => ∃ L, acc = .ref L ∧ RR L cenv.locals r s') s₄) E s₃) E s₂) E s₁) E s := by
  refine h s X _ E R (fun l1 l2 s₁ ρ₁ H₁ st₁ R₁ hk => ?_) e
  obtain ⟨ws, ns, hw, hn, hlen, hsz, hel, hk⟩ := hk
  obtain ⟨xs, n1, a1, a2⟩ := R₁.list hw
  obtain ⟨ys, n2, b1, b2⟩ := R₁.list hn
  refine call_zip_2 (isList_of a1) (isList_of b1) fun h' z1 z2 z3 z4 z5 z6 z7 => wpAny_pyIter_zip z1 ?_
  refine wpAny_newObj_type (hd := by size_fits) (wpAny_newFunctionEnv hcell (by intro y hy; simp at hy) (fun h₄ hns hsb => ?_) hkind)
  dsimp only at hns hsb ⊢
  have sz3 : @Eq Nat (h'.push { cls := .type "list", data := .seq ([] : List Value).toArray }).objs.size (s₁.heap.objs.size + 6) := by rw [Heap.size_push]; lia
  have hL3 : (h'.push { cls := .type "list", data := .seq ([] : List Value).toArray }).get? (s₁.heap.objs.size + 5) = some (listOf ([] : List Value).toArray 0) := by
    have := Heap.get?_push_size h' (o := { cls := .type "list", data := .seq ([] : List Value).toArray }) rfl
    rwa [z6] at this
  have k3 : ∀ b o, h'.get? b = some o → (h'.push { cls := .type "list", data := .seq ([] : List Value).toArray }).get? b = some o := fun b o e => Heap.get?_push_of_some _ e
  rw [show h'.objs.size = s₁.heap.objs.size + 5 from z6]
  generalize h'.push { cls := .type "list", data := .seq ([] : List Value).toArray } = h₃ at hns hsb sz3 hL3 k3 ⊢
  have hk₄ : ∀ b o, h₃.get? b = some o → h₄.get? b = some o := fun b o e => (hsb.2 b (Nat.ne_of_lt (Heap.lt_size e))).trans (Heap.get?_push_of_some _ e)
  have k4 : ∀ b o, h'.get? b = some o → h₄.get? b = some o := fun b o e => hk₄ b o (k3 b o e)
  have hlo : relabel scope c.env = relabel scope c.env := rfl
  have ka : (compEnvC scope [] h₃.objs.size c.env).kindOf a = some .local := lookup_relabel_local hxa
  have kb : (compEnvC scope [] h₃.objs.size c.env).kindOf b = some .local := lookup_relabel_local hxb
  have hp : ((compEnvC scope [] h₃.objs.size c.env).scope.kind == .class || ((compEnvC scope [] h₃.objs.size c.env).scope.kind == .module && (compEnvC scope [] h₃.objs.size c.env).locals != (compEnvC scope [] h₃.objs.size c.env).globals)) = false := by
    show ((relabel scope c.env).kind == .class || ((relabel scope c.env).kind == .module && _)) = false
    show (scope.kind == .class || (scope.kind == .module && _)) = false
    rw [hkind]; rfl
  have go : ∀ (R' : Result → Shared → Prop), (∀ s', RR (s₁.heap.objs.size + 5) h₃.objs.size (.ok .next) s' → R' (.ok .next) s') → codeAny (model g.prog g.w) c.A (.compLoop (.ListComp elt [⟨.Tuple [.Name a pa, .Name b pb] kk tp, iter, [], 0⟩] scope pos) 0 (.ref (s₁.heap.objs.size + 4)) (.ref (s₁.heap.objs.size + 5)) (compEnvC scope [] h₃.objs.size c.env)) R' { s₁ with heap := h₄, toks := s₁.toks + ([] : List (Str × Value)).length } := by
    intro R' hR'
    refine zipLoop (g := g) (h₀ := s₁.heap) (s₀ := s₁) (ws := ws) (ns := ns) (xs := xs) (ys := ys) (f := f) R₁.o.keep R₁.o.size hh (isList_of a1) (isList_of b1) (a2.strsAll) (fun h => ?_) hlen hsz sz3 rfl ka kb hp hab (fun i w n e1 e2 => hel _ _ i w n rfl rfl e1 e2) _ rfl (fun b o e => k4 b o (z7 b o e)) (k4 _ _ z1) (k4 _ _ z2) (k4 _ _ z3) (z4.at fun o e => k4 _ o e) (z5.at fun o e => k4 _ o e) ⟨_, hns⟩ ⟨[], 0, hk₄ _ _ hL3, rfl⟩ ?_
    · exact VRs.intsAll b2 h
    · intro s' es' keep' ⟨m, hm⟩ ⟨its, n, i1, i2⟩
      refine hR' s' ?_
      have RK : Rep g c.env s'.heap ρ₁ H₁ X := R₁.keepAll keep'
      have lt5 : ∀ {b : Addr} {o : Obj}, s₁.heap.get? b = some o → b ≠ s₁.heap.objs.size + 5 := fun e => Nat.ne_of_lt (by have := ltN e; lia)
      have hL1 : H₁ (s₁.heap.objs.size + 5) = none := by
        cases q : H₁ (s₁.heap.objs.size + 5) with
        | none => rfl
        | some o => obtain ⟨ob, w1, _⟩ := R₁.o.there q; exact absurd rfl (lt5 w1)
      have hX1 : X (s₁.heap.objs.size + 5) = none := by
        cases q : X (s₁.heap.objs.size + 5) with
        | none => rfl
        | some o => exact absurd rfl (lt5 (R₁.o.ext _ o q).1)
      have ltL : @LT.lt Nat _ c.env.locals s₁.heap.objs.size := R₁.freshL
      have RL := RK.track (o' := .list ((List.zipWith f ws ns).map .str)) hL1 hX1 (Nat.ne_of_lt (by lia)) (fun y cc hy => Nat.ne_of_lt (by have : @LT.lt Nat _ cc s₁.heap.objs.size := R₁.freshC hy; lia)) (Nat.le_trans R₁.o.size (Nat.le_add_right _ _)) ⟨its, n, i1, i2 _⟩
      obtain ⟨oC, es, ep, hC, hr⟩ := hm
      have hCl : @Eq Nat (compEnvC scope [] h₃.objs.size c.env).locals (s₁.heap.objs.size + 6) := sz3
      have kp : TupKeep s₁.heap s'.heap := .of_keep keep'
      have st' : Step s₁ s' := ⟨es', kp⟩
      have ne6 : ∀ {b : Addr}, @LT.lt Nat _ b (s₁.heap.objs.size + 6) → b ≠ h₃.objs.size := fun h => Nat.ne_of_lt (by have := sz3; lia)
      refine fin _ _ s' ρ₁ _ oC m (st₁.trans st') (RL.addX fun b o e => ?_) ⟨fun a o e => ?_, fun a o e y e' => ?_⟩ hC ⟨oC, es, ep, hC, hr⟩ (hk _ hL1)
      · obtain ⟨rfl, rfl⟩ := one_some e
        refine ⟨hC, ?_, ?_, ?_, fun y hy => ?_⟩
        · rw [upd_ne (Ne.symm (ne6 (Nat.lt_succ_self _)))]
          cases q : H₁ h₃.objs.size with
          | none => rfl
          | some o => obtain ⟨ob, w1, _⟩ := R₁.o.there q; have := ltN w1; exact absurd rfl (ne6 (by lia))
        · have := R₁.o.size
          show @LE.le Nat _ _ _
          lia
        · exact Ne.symm (ne6 (by lia))
        · have : @LT.lt Nat _ h₃.objs.size s₁.heap.objs.size := R₁.freshC hy
          lia
      · obtain ⟨rfl, rfl⟩ := one_some e
        cases q : X h₃.objs.size with
        | none => rfl
        | some o => have := ltN (R₁.o.ext _ o q).1; exact absurd rfl (ne6 (by lia))
      · obtain ⟨rfl, rfl⟩ := one_some e
        have : @LT.lt Nat _ h₃.objs.size s₁.heap.objs.size := R₁.freshC e'
        lia
  refine codeAny_compStart_list ?_ ?_
  · exact go _ fun s' hs' => ⟨_, rfl, hs'⟩
  · exact wpAny_pyIter_zip (k4 _ _ z1) (go _ fun s' hs' => ⟨_, rfl, hs'⟩)
theorem Ex.assignZip {elt iter : Expr} {a b : Str} {pa pb tp : Pos} {kk : Nat} {scope : Scope} {pos pos' pos'' : Pos} {y : Str} {k : AF → Loc → AH → Prop} {f : Str → Int → Str} (hh : c.A.handled = none)
    (h : EvZ g c iter ρ H (fun l1 l2 ρ₁ H₁ => ∃ ws ns, H₁ l1 = some (.list (ws.map .str)) ∧ H₁ l2 = some (.list (ns.map .int)) ∧ ws.length = ns.length ∧ ws.length ≤ 1000000 ∧
      (∀ (g' : Gd KF) C (i : Nat) w n, g'.prog = g.prog → g'.w = g.w → ws[i]? = some w → ns[i]? = some n → Ev g' ⟨c.A, compEnvC scope [] C c.env⟩ elt (setL (setL noL a (.str w)) b (.int n)) noH (fun d _ _ => d = .str (f w n)) (fun _ _ _ => False)) ∧
      ∀ L, H₁ L = none → k .next (setL ρ₁ y (.ref L)) (upd H₁ L (.list ((List.zipWith f ws ns).map .str)))) x)
    (hsw : swapsWith (.ListComp elt [⟨.Tuple [.Name a pa, .Name b pb] kk tp, iter, [], 0⟩] scope pos) (some (.Name y pos')) pos''.line c.env = pure true) (hS : Stores c y)
    (hxa : scope.names.lookup a = some .local) (hxb : scope.names.lookup b = some .local) (hab : ¬ a = b)
    (hclos : closureFor scope c.env = pure []) (hkind : scope.kind = .function) (hcell : ∀ y ∈ scope.names, y.2 ≠ .cell) (hnames : ∀ x ∈ scope.names, x.2 = .local → scope.names.lookup x.1 = some .local)
    (hs : ∀ x, foldedSetIterable iter c.env x = pure x := by intro _; rfl) : Ex g c (.Assign [.Name y pos'] (.ListComp elt [⟨.Tuple [.Name a pa, .Name b pb] kk tp, iter, [], 0⟩] scope pos) pos'') ρ H k x := fun s X Q E R q e => by
  rw [exec_Assign_Name_used y pos' _ pos'' hsw, arm_evalThenUse_ListComp]
  refine wpAny_bind (wpAny_standAt (wpAny_bind (wpAny_bind ?_)))
  let k' : AV → Loc → AH → Prop := fun v ρ H => k .next (setL ρ y v) H
  refine wpAny_comprehension_free (Q := fun _ s' => wpAny (model g.prog g.w) c.A (pure ()) (fun _ s' => wpAny (model g.prog g.w) c.A (pure Flow.next) Q E s') E s') rfl hs hclos hkind hnames (wpAny_mono (CompZ.run (pos := pos) (f := f) (k := k') (RR := fun L C r s' => compPost (model g.prog g.w) c.A E (some (PySem.assign (.Name y pos') c.env)) (fun _ s' => wpAny (model g.prog g.w) c.A (pure ()) (fun _ s' => wpAny (model g.prog g.w) c.A (pure Flow.next) Q E s') E s') (.ref L) C r s') hkind hcell R hh hxa hxb hab h e fun L C s' ρ₁ H₂ o m st R' f hC hN hk => ?_) (fun v s₁ h₁ => wpAny_mono h₁ (fun it s₂ h₂ => wpAny_mono h₂ (fun acc s₃ h₃ => wpAny_mono h₃ (fun cenv s₄ h₄ => codeAny_mono h₄ fun r s' hr => ?_) fun _ _ z => z) fun _ _ z => z) fun _ _ z => z) fun _ _ z => z)
  · show wpAny _ _ (PySem.assign (.Name y pos') c.env (.ref L)) _ E s'
    have hnt : NoTup o := by
      obtain ⟨o', es, ep, ho', hd', _⟩ := hN
      rw [hC] at ho'; cases ho'
      exact .of_dict hd'
    refine wpAny_assign_Name (storeA hS R' (.ref L) fun s'' st' R'' => ?_)
    have hC' := (R''.o.ext C o (ovr_some (one_same _ _))).1
    obtain ⟨o', es, ep, ho', hr⟩ := hN
    rw [hC] at ho'; cases ho'
    refine ⟨m, ⟨o, es, ep, hC', hr⟩, fun h' hs' => ?_⟩
    have kp : TupKeep s''.heap h' := .extBut hs'.extBut hC' hnt
    exact wpAny_pure (wpAny_pure (q _ _ { s'' with heap := h' } _ _ ((st.trans st').trans (Step.heap' s'' (t := s''.toks) kp)) (R''.leave f (.one hs'.extBut) kp) .next hk))
  · obtain ⟨L, rfl, hr⟩ := hr
    exact hr
end
end Mine
end

section
open PySem PySem.W PyProof.Rows PySem.Calls
set_option Elab.async false
set_option genSizeOf false
set_option linter.unusedVariables false
namespace Mine
/-! tables that are written out -/
section
variable {KF : Params → Frag} {g : Gd KF} {c : Cx}
noncomputable def Pu {KF : Params → Frag} (g : Gd KF) (c : Cx) (e : Expr) (v : AV) : Prop :=
  (∀ {ρ : Loc} {H : AH} {k : AV → Loc → AH → Prop} {x : AV → Loc → AH → Prop}, k v ρ H → Ev g c e ρ H k x) ∧ notStar e = true
noncomputable def PuL {KF : Params → Frag} (g : Gd KF) (c : Cx) (es : List Expr) (vs : List AV) : Prop :=
  ∀ {pos : Pos} {ρ : Loc} {H : AH} {k : List AV → Loc → AH → Prop} {x : AV → Loc → AH → Prop}, k vs ρ H → EvL g c pos es ρ H k x
theorem Pu.int {i : Int} {n : Nat} {p : Pos} : Pu g c (.Constant (.int i) n p) (.int i) := ⟨fun h => Ev.cint h, rfl⟩
theorem Pu.str {i : Str} {n : Nat} {p : Pos} : Pu g c (.Constant (.str i) n p) (.str i) := ⟨fun h => Ev.cstr h, rfl⟩
theorem Pu.bool {i : Bool} {n : Nat} {p : Pos} : Pu g c (.Constant (.bool i) n p) (.bool i) := ⟨fun h => Ev.cbool h, rfl⟩
theorem PuL.nil : PuL g c [] [] := fun h => EvL.nil h
theorem PuL.cons {e : Expr} {v : AV} {es : List Expr} {vs : List AV} (h : Pu g c e v) (hs : PuL g c es vs) : PuL g c (e :: es) (v :: vs) := fun q => EvL.cons (h.1 (hs q)) h.2
theorem Pu.tup {es : List Expr} {vs : List AV} {n : Nat} {p : Pos} (h : PuL g c es vs) (hz : Nat.ble vs.length 1000000 = true) : Pu g c (.Tuple es n p) (.tup vs) :=
  ⟨fun q => Ev.tuple (h ⟨Nat.le_of_ble_eq_true hz, q⟩), rfl⟩
end
end Mine
end

open PySem.Calls
set_option maxRecDepth 100000
set_option maxHeartbeats 1000000
namespace Mine
section
/-! the proofs' own words (the kit's k_with): each is a short line that the proofs below use by k_extra -/
theorem words : True := by
  (k_with "enter" =>
    (case F => exact ⟨⟨_, _, _, by k_extra "part"⟩, by k_extra "part"⟩)
    (case B => intro s vs hv _; first
      | exact bB0 hv (BindsTo.of_eq rfl)
      | exact bB1 hv fun _ => BindsTo.of_eq rfl
      | exact bB2 hv fun _ _ => BindsTo.of_eq rfl
      | exact bB3 hv fun _ _ _ => BindsTo.of_eq rfl
      | exact bB4 hv fun _ _ _ _ => BindsTo.of_eq rfl
      | exact bB5 hv fun _ _ _ _ _ => BindsTo.of_eq rfl
      | exact ⟨vs, hv, by (repeat' (cases hv; (try (rename VRs _ _ _ => hv)))); exact BindsTo.of_eq rfl⟩)
    (case N => kernel_rfl)
    (intro _ _ _; dsimp only [locOf]))
  (k_with "if" =>
    first | refine ifDT (by omega) ?_ | refine ifDF (by omega) ?_ | refine ifDS (fun _ => ?_) (fun _ => ?_) | refine ifNT (by omega) ?_ | refine ifNF (by omega) ?_ | refine ifNS (fun _ => ?_) (fun _ => ?_))
  (k_with "part" =>
    first | k_is | (dsimp only [Gd.K]; k_is))
  (k_with "name" =>
    first | with_reducible assumption | exact setL_same _ _ _ | (refine setL_other rfl ?_; k_extra "name"))
  (k_with "thing" =>
    first
      | with_reducible assumption
      | ((with_reducible show upd _ _ _ _ = _); first
        | with_reducible exact upd_same _ _ _
        | (refine upd_fresh (by with_reducible assumption) ?_; k_extra "thing")
        | (refine upd_other ?_ ?_; (first | with_reducible assumption | (apply Ne.symm; with_reducible assumption)); k_extra "thing")
        | (apply upd_new (by with_reducible assumption); (with_reducible assumption); (k_extra "thing"))
        | (apply upd_kind; (first | with_reducible assumption | with_reducible exact upd_same _ _ _); (k_extra "thing"); rfl)))
  (k_with "field" =>
    first | exact lookF_same | (refine lookF_next rfl ?_; k_extra "field") | exact rfl)
  (k_with "put" =>
    first | exact putF_same | exact putF_nil | (apply putF_next rfl; k_extra "put") | exact rfl)
  (k_with "call" =>
    with_reducible show OpL ..
    (first
            | ((with_reducible show OpL _ _ _ (CallV (AV.builtin "len")) ..); refine OpL.lenL (by k_extra "thing") (by lia) ?_)
            | ((with_reducible show OpL _ _ _ (CallV (AV.builtin "list.append")) ..); refine OpL.append (by k_extra "thing") (by lia) ?_)
            | ((with_reducible show OpL _ _ _ (CallV (AV.type "tuple")) ..); refine OpL.tupleL (by k_extra "thing") (by lia) ?_)))
  (k_with "step" =>
    first
      | with_reducible show Ev _ _ (Expr.Name ..) ..
        first
        | refine Ev.local (by k_extra "name") ?_
        | refine Ev.global (by k_extra "part") (by first | exact GV.ref | exact GV.int | exact GV.str) ?_
        | refine Ev.builtin (by k_extra "part") (by boot_by_name) (by exact fun _ => by first | exact .builtin _ | exact .type _) ?_
      | with_reducible show Ev ..
        (first
          | with_reducible refine Ev.cint ?_
          | with_reducible refine Ev.cstr ?_
          | with_reducible refine Ev.cbool ?_
          | with_reducible refine Ev.cnone ?_
          | with_reducible refine Ev.binop ?_
          | with_reducible refine Ev.boolop ?_
          | ((with_reducible show Ev _ _ (Expr.Attribute ..) ..); refine Ev.attr ?_)
          | ((with_reducible show Ev _ _ (Expr.Call (Expr.Attribute ..) ..) ..); refine Ev.method ?_)
          | ((with_reducible show Ev _ _ (Expr.Call ..) ..); refine Ev.call ?_)
          | ((with_reducible show Ev _ _ (Expr.Compare ..) ..); refine Ev.compare1 ?_)
          | ((with_reducible show Ev _ _ (Expr.Subscript _ (Expr.Slice ..) _) ..); refine Ev.slice ?_)
          | with_reducible refine Ev.sub ?_
          | with_reducible refine Ev.tuple ?_
          | ((with_reducible show Ev _ _ (Expr.List ..) ..); refine Ev.list ?_)
          | with_reducible refine Ev.unaryop ?_)
      | with_reducible show Ex ..
        (first
          | with_reducible refine Ex.ife ?_
          | with_reducible refine Ex.ret ?_
          | with_reducible refine Ex.ret0 ?_
          | ((with_reducible show Ex _ _ (Stmt.Assign [Expr.Name ..] ..) ..); refine Ex.assign ?_ ⟨by kernel_rfl, .inl ⟨by kernel_rfl, by kernel_rfl⟩⟩)
          | ((with_reducible show Ex _ _ (Stmt.Assign [Expr.Tuple ..] ..) ..); refine Ex.assignT ?_)
          | ((with_reducible show Ex _ _ (Stmt.Assign [Expr.Attribute ..] ..) ..); refine Ex.assignAttr ?_)
          | ((with_reducible show Ex _ _ (Stmt.Assign [Expr.Subscript ..] ..) ..); refine Ex.assignSub ?_)
          | ((with_reducible show Ex _ _ (Stmt.Expr ..) ..); refine Ex.expr ?_)
          | ((with_reducible show Ex _ _ (Stmt.For ..) ..); refine Ex.for ?_)
          | ((with_reducible show Ex _ _ (Stmt.Try ..) ..); refine Ex.tryq ?_)
          | with_reducible refine Ex.whil ?_)
      | with_reducible show Ts ..
        (first
          | with_reducible refine Ts.boolop ?_
          | with_reducible refine Ts.not ?_
          | ((with_reducible show Ts _ _ (Expr.Compare ..) ..); refine Ts.compare1 ?_)
          | refine Ts.value ?_)
      | (first
          | with_reducible refine Exs.cons ?_
          | with_reducible refine then_next ?_
          | with_reducible refine then_ret ?_
          | with_reducible refine Exs.nil ?_
          | with_reducible refine EvP.none' ?_
          | with_reducible refine EvP.some' ?_
          | ((with_reducible show ∃ i, AV.int _ = AV.int i ∧ _); refine ⟨_, rfl, ?_⟩)
          | with_reducible refine EvB.and ?_
          | with_reducible refine EvB.or ?_
          | with_reducible refine EvB.one ?_
          | with_reducible refine TsA.and ?_
          | with_reducible refine TsA.or ?_
          | with_reducible refine TsA.nilA ?_
          | with_reducible refine TsA.nilO ?_)
      | with_reducible show Op2 ..
        first
        | (first
            | with_reducible refine Op2.le ?_
            | with_reducible refine Op2.lt ?_
            | with_reducible refine Op2.ge ?_
            | with_reducible refine Op2.gt ?_
            | with_reducible refine Op2.eq ?_
            | with_reducible refine Op2.ne ?_
            | with_reducible refine Op2.eqS ?_
            | with_reducible refine Op2.neS ?_
            | with_reducible refine Op2.add ?_
            | with_reducible refine Op2.isN ?_
            | with_reducible refine Op2.inDS (by k_extra "thing") ?_
            | ((with_reducible show Op2 _ _ _ (fun a b => setAttr a _ b) ..); refine Op2.setF (by k_extra "thing") (by k_extra "cls") (by k_extra "part") (by k_extra "put") (Nat.le_of_ble_eq_true rfl) ?_))
        | with_reducible show Op2 _ _ _ (subscriptTail _ _) _ (AV.int _) ..
          (first
            | ((with_reducible show Op2 _ _ _ (subscriptTail _ _) _ (AV.int (-1)) ..); refine Op2.last (by k_extra "thing") (by lia) ?_)
            | refine Op2.itemL (by k_extra "thing") (by lia) (by lia) (by k_extra "types") ?_
            | refine Op2.itemT (by decide) (by decide) (by exact rfl) ?_)
      | (first
          | with_reducible refine Op1.truthy_bool ?_
          | with_reducible refine Op1.neg ?_
          | ((with_reducible show Op1 _ _ _ truthy (AV.ref _) ..); refine Op1.truthyL (by k_extra "thing") (by lia) ?_)
          | with_reducible refine And.intro (Nat.le_of_ble_eq_true rfl) ?_
          | ((with_reducible show CW _ _ _ (AV.ref _) ..); refine CW.own (by k_extra "part") (by kernel_rfl) ?_)
          | ((with_reducible show CW ..); refine CW.plain (by rfl) (by kernel_rfl) ?_)
          | ((with_reducible show EvL _ _ _ [] ..); refine EvL.nil ?_)
          | ((with_reducible show EvL ..); refine EvL.cons ?_)
          | ((with_reducible show Op1 _ _ _ (fun o => getAttr o _ true) ..); refine Op1.getF (by k_extra "thing") (by k_extra "cls") (by k_extra "part") (by k_extra "field") (by first | rfl | assumption) ?_))
      | with_reducible show Meth _ _ _ _ _ (AV.ref _) ..
        (first
          | refine Meth.own (by k_extra "thing") (by k_extra "cls") (by k_extra "part") (by k_extra "part") (by k_extra "field") ?_
          | refine Meth.list (by k_extra "thing") PySem.slot_list_append PySem.F.type_list_append ?_
          | refine Meth.list (by k_extra "thing") PySem.F.slot_list_pop PySem.F.type_list_pop ?_
          | refine Meth.dict (by k_extra "thing") rfl PySem.F.slot_dict_get PySem.F.type_dict_get ?_)
      | (first
          | ((with_reducible show Meth _ _ _ _ _ (AV.str _) ..); refine Meth.str (fun _ _ _ _ _ _ _ h => GM.join h) ?_))
      | k_extra "call"
      | (first
          | with_reducible refine ifT rfl ?_
          | with_reducible refine ifF Bool.false_ne_true ?_
          | ((with_reducible show As _ _ (Expr.Name ..) ..); refine As.name ?_ ⟨by kernel_rfl, .inl ⟨by kernel_rfl, by kernel_rfl⟩⟩)
          | ((with_reducible show It1 _ _ _ (AV.tup _) ..); refine It1.tup (Ok.hand (by assumption) rfl) ?_)
          | ((with_reducible show It1 _ _ _ (AV.ref _) ..); refine It1.list (Ok.hand (by assumption) rfl) (by k_extra "thing") ?_)
          | ((with_reducible show As _ _ (Expr.Tuple ..) (AV.tup _) ..); refine As.tup (Ok.hand (by assumption) rfl) rfl ?_)
          | with_reducible refine AsL.cons ?_
          | with_reducible refine AsL.nil ?_
          | with_reducible refine ForL.cons ?_
          | with_reducible refine turn_next ?_
          | with_reducible refine turn_ret ?_)
      | with_reducible show if decide (Str.ofString _ = Str.ofString _ ∧ Str.ofString _ = Str.ofString _) = true then _ else _
        (first
          | refine ifDT (by decide) ?_
          | refine ifDF (by decide) ?_)
      | with_reducible show if isNone _ = true then _ else _
        (first
          | refine ifT rfl ?_
          | refine ifF (show ¬ false = true from Bool.false_ne_true) ?_)
      | with_reducible show if (!isNone _) = true then _ else _
        (first
          | refine ifT rfl ?_
          | refine ifF (show ¬ false = true from Bool.false_ne_true) ?_)
      | with_reducible show if decide (Str.ofString _ = Str.ofString _) = true then _ else _
        (first
          | refine ifDT rfl ?_
          | refine ifDF (by decide) ?_)
      | with_reducible show if (!decide (Str.ofString _ = Str.ofString _)) = true then _ else _
        (first
          | refine ifNF rfl ?_
          | refine ifNT (by decide) ?_)
      | k_extra "if")
  (k_with "same" =>
    (dsimp only [retOf]; first | with_reducible assumption | (refine kB (by assumption) ?_; first | rfl | (simp [*]; done) | (rw [Bool.eq_iff_iff]; simp only [Bool.and_eq_true, Bool.or_eq_true, Bool.not_eq_true', decide_eq_true_eq, decide_eq_false_iff_not]; omega))))
  (k_with "ne" =>
    first | with_reducible assumption | (apply Ne.symm; with_reducible assumption) | exact ne_kind (by with_reducible assumption) (by with_reducible assumption) rfl | exact ne_fresh (by with_reducible assumption) (by with_reducible assumption) | exact Ne.symm (ne_fresh (by with_reducible assumption) (by with_reducible assumption)))
  (k_with "nes" =>
    repeat' (first | exact nmn | refine nmc ?_ ?_ | apply And.intro | k_extra "ne"))
  (k_with "subs" =>
    repeat' (first | exact fmn | refine fmc ?_ ?_ | exact List.mem_cons_self | refine List.mem_cons_of_mem _ ?_))
  (k_with "cls" =>
    first | exact clsReader | exact clsParser | exact clsFrame | exact clsTok | exact clsFlags | exact clsOp | exact clsSym)
  (k_with "types" =>
    kas_types)
  trivial

section
section
variable {g : Gd Mine.hp.heap_1}
/-! characters -/
theorem is_layout_spec {H : AH} {a : Int} {k x : AV → AH → Prop} (h : k (.bool (decide (a = 32 ∨ 9 ≤ a ∧ a ≤ 13))) H) : Cal g 1 false 165 [.int a] H k x := by
  refine' Cal.enter (as' := [.int a]) ["code"] ?F ?B ?N ?_
  k_extra "enter"
  repeat' k_extra "step"
  all_goals k_extra "same"
theorem is_digit_spec {H : AH} {a : Int} {k x : AV → AH → Prop} (h : k (.bool (decide (48 ≤ a ∧ a ≤ 57))) H) : Cal g 1 false 172 [.int a] H k x := by
  refine' Cal.enter (as' := [.int a]) ["code"] ?F ?B ?N ?_
  k_extra "enter"
  repeat' k_extra "step"
  all_goals k_extra "same"
theorem is_small_spec {H : AH} {a : Int} {k x : AV → AH → Prop} (h : k (.bool (decide (97 ≤ a ∧ a ≤ 122))) H) : Cal g 1 false 179 [.int a] H k x := by
  refine' Cal.enter (as' := [.int a]) ["code"] ?F ?B ?N ?_
  k_extra "enter"
  repeat' k_extra "step"
  all_goals k_extra "same"
theorem is_capital_spec {H : AH} {a : Int} {k x : AV → AH → Prop} (h : k (.bool (decide (65 ≤ a ∧ a ≤ 90))) H) : Cal g 1 false 186 [.int a] H k x := by
  refine' Cal.enter (as' := [.int a]) ["code"] ?F ?B ?N ?_
  k_extra "enter"
  repeat' k_extra "step"
  all_goals k_extra "same"
theorem w1a : True := by
  (k_with "w1a" =>
    first
      | (with_reducible show OpL ..
         first
          | k_extra "call"
          | refine Cal.at (is_layout_spec ?_) (Ok.leB (by assumption) rfl)
          | refine Cal.at (is_digit_spec ?_) (Ok.leB (by assumption) rfl)
          | refine Cal.at (is_small_spec ?_) (Ok.leB (by assumption) rfl)
          | refine Cal.at (is_capital_spec ?_) (Ok.leB (by assumption) rfl))
      | k_extra "step")
  trivial
noncomputable def alnum (a : Int) : Prop := 97 ≤ a ∧ a ≤ 122 ∨ 65 ≤ a ∧ a ≤ 90 ∨ 48 ≤ a ∧ a ≤ 57 ∨ a = 95
noncomputable instance (a : Int) : Decidable (alnum a) := by unfold alnum; infer_instance
theorem is_alnum_spec {H : AH} {a : Int} {k x : AV → AH → Prop} (h : k (.bool (decide (alnum a))) H) : Cal g 2 false 193 [.int a] H k x := by
  unfold alnum at h
  refine' Cal.enter (as' := [.int a]) ["code"] ?F ?B ?N ?_
  k_extra "enter"
  repeat' k_extra "w1a"
  all_goals k_extra "same"

/-! the tokenizer -/
noncomputable def cds (l : List Nat) : List AV := l.map fun (n : Nat) => AV.int (n : Int)
noncomputable def cAt (l : List Nat) (i : Int) : Int := match l[i.toNat]? with
  | none => -1
  | some n => n
theorem cds_get {l : List Nat} {i : Nat} {n : Nat} (h : l[i]? = some n) : (cds l)[i]? = some (.int n) := by unfold cds; rw [List.getElem?_map, h]; rfl
theorem cds_len {l : List Nat} : (cds l).length = l.length := by unfold cds; exact List.length_map ..
theorem clsTok : ClsF (Mine.hp.heap_1 g.w.params) 370 := ⟨by k_extra "part", by k_extra "part", by k_extra "part", by k_extra "part", by k_extra "part"⟩
/-- a tokenizer upon the codes l -/
noncomputable abbrev tokO (d cs : Addr) (a o : Int) : AObj := .inst 370 d [(Str.ofString "codes", .ref cs), (Str.ofString "at", .int a), (Str.ofString "origin", .int o)]

theorem code_at_spec {H : AH} {t d cs : Addr} {a o i v : Int} {l : List Nat} {k x : AV → AH → Prop} (hT : H t = some (tokO d cs a o)) (hC : H cs = some (.list (cds l))) (hb : ∀ n ∈ l, n ≤ 1114111) (hz : l.length < 2 ^ 40)
    (h0 : 0 ≤ i) (hi : i < 2 ^ 41) (hv : cAt l i = v) (h : k (.int v) H) : Cal g 1 false 255 [.ref t, .int i] H k x := by
  have hlen : (cds l).length < 2 ^ 60 := by rw [cds_len]; lia
  have hll : ((cds l).length : Int) = l.length := by rw [cds_len]
  refine' Cal.enter (as' := [.ref t, .int i]) ["self", "index"] ?F ?B ?N ?_
  k_extra "enter"
  repeat' k_extra "w1a"
  · have e : l[i.toNat]? = none := List.getElem?_eq_none (by lia)
    unfold cAt at hv
    rw [e] at hv
    subst hv
    exact h
  · obtain ⟨n, e⟩ : ∃ n, l[i.toNat]? = some n := ⟨_, List.getElem?_eq_getElem (by lia)⟩
    have hn := hb n (List.mem_of_getElem? e)
    unfold cAt at hv
    rw [e] at hv
    subst hv
    refine Op2.itemL (by k_extra "thing") (by lia) (by lia) (cds_get e) ?_
    repeat' k_extra "w1a"
    exact h

/-- the codes, their bound, their number -/
structure Cds (H : AH) (cs : Addr) (l : List Nat) : Prop where
  h : H cs = some (.list (cds l))
  b : ∀ n ∈ l, n ≤ 1114111
  z : l.length < 2 ^ 40
theorem Cds.upd {H : AH} {cs t : Addr} {l : List Nat} {o : AObj} (C : Cds H cs l) (n : cs ≠ t) : Cds (Mine.upd H t o) cs l := ⟨(upd_ne n).trans C.h, C.b, C.z⟩
theorem Cds.ne {H : AH} {cs t d : Addr} {l : List Nat} {C : Addr} {fs : List (Str × AV)} (x : Cds H cs l) (h : H t = some (.inst C d fs)) : cs ≠ t := fun q => by have := x.h; rw [q, h] at this; cases this
theorem code_at_is {H : AH} {t d cs : Addr} {a o i v : Int} {l : List Nat} {k x : AV → AH → Prop} (hT : H t = some (tokO d cs a o)) (C : Cds H cs l)
    (h0 : 0 ≤ i) (hi : i < 2 ^ 41) (hv : cAt l i = v) (h : k (.int v) H) : Cal g 1 false 255 [.ref t, .int i] H k x := code_at_spec hT C.h C.b C.z h0 hi hv h
theorem w1b : True := by
  (k_with "w1b" =>
    first
      | (with_reducible show OpL ..
         first
          | k_extra "call"
          | refine Cal.at (code_at_is (by k_extra "thing") (by assumption) (by lia) (by lia) (by assumption) ?_) (Ok.leB (by assumption) rfl)
          | refine Cal.at (is_layout_spec ?_) (Ok.leB (by assumption) rfl)
          | refine Cal.at (is_digit_spec ?_) (Ok.leB (by assumption) rfl)
          | refine Cal.at (is_small_spec ?_) (Ok.leB (by assumption) rfl)
          | refine Cal.at (is_capital_spec ?_) (Ok.leB (by assumption) rfl)
          | refine Cal.at (is_alnum_spec ?_) (Ok.leB (by assumption) rfl))
      | k_extra "step")
  trivial
noncomputable def layout (a : Int) : Prop := a = 32 ∨ 9 ≤ a ∧ a ≤ 13
theorem cAt_lt {l : List Nat} {p c : Int} (h0 : 0 ≤ p) (h : cAt l p = c) (hc : c ≠ -1) : p + 1 ≤ l.length := by
  unfold cAt at h
  cases e : l[p.toNat]? with
  | none => rw [e] at h; exact absurd h.symm hc
  | some n => have := (List.getElem?_eq_some_iff.mp e).1; lia
/-- what lies between tokens -/
inductive Gap (l : List Nat) : Int → Int → Prop
  | stop {p c : Int} : cAt l p = c → ¬ layout c → c ≠ 37 → c ≠ 47 → Gap l p p
  | blank {p q c : Int} : cAt l p = c → layout c → Gap l (p + 1) q → Gap l p q
theorem skip_layout_spec {H : AH} {t d cs : Addr} {p q o : Int} {l : List Nat} {k x : AV → AH → Prop} (G : Gap l p q) (hT : H t = some (tokO d cs p o)) (C : Cds H cs l) (h0 : 0 ≤ p) (hq : p ≤ l.length)
    (h : k .none (upd H t (tokO d cs q o))) : Cal g 3 false 290 [.ref t] H k x := by
  refine' Cal.enter (as' := [.ref t]) ["self"] ?F ?B ?N ?_
  k_extra "enter"
  have hz := C.z
  refine Exs.cons ?_
  refine Ex.whil ?_
  have hs : (setL noL (Str.ofString "self") (AV.ref t)) (Str.ofString "self") = some (.ref t) := setL_same _ _ _
  generalize (setL noL (Str.ofString "self") (AV.ref t)) = ρ at hs ⊢
  induction G generalizing ρ H with
  | stop hc n1 n2 n3 =>
    unfold layout at n1
    refine Lp.step ?_
    repeat' k_extra "w1b"
    rw [upd_self hT] at h
    exact h
  | blank hc hl G' ih =>
    unfold layout at hl
    refine Lp.step ?_
    repeat' k_extra "w1b"
    exact ih (upd_same _ _ _) (C.upd (C.ne hT)) (by lia) (cAt_lt h0 hc (by lia)) (by rw [upd_upd]; exact h) _ (setL_other (by kernel_rfl) hs)
end
end

section
section
variable {g : Gd Mine.hp.heap_1}
noncomputable def txt (l : List Nat) : Str := ⟨l.toArray⟩
noncomputable def chars (l : List Nat) : List Str := l.map fun n => ⟨#[n]⟩
theorem glue0 : ∀ (r : List Nat) (a : Array Nat), (chars r).foldl (fun acc p => acc ++ (Str.ofString "").cps ++ p.cps) a = a ++ r.toArray
  | [], a => by simp [chars]
  | n :: r, a => by
    have ih := glue0 r (a ++ (Str.ofString "").cps ++ #[n])
    have e0 : (Str.ofString "").cps = #[] := by rfl
    show (chars r).foldl _ (a ++ (Str.ofString "").cps ++ #[n]) = _
    rw [ih, e0]
    simp
theorem join_chars (l : List Nat) : Txt.join (Str.ofString "") (chars l) = txt l := by
  cases l with
  | nil => rfl
  | cons n r =>
    show Str.mk ((chars r).foldl _ _) = _
    have := glue0 r #[n]
    show Str.mk ((chars r).foldl (fun acc p => acc ++ (Str.ofString "").cps ++ p.cps) #[n]) = _
    rw [this]
    simp [txt]
theorem join_ok (l : List Nat) (h : l.length ≤ 1000000) : JoinOk (Str.ofString "") (chars l) = true := by
  unfold JoinOk
  rw [StrLaws.joinFits (B := 1) (fun y hy => by
    unfold chars at hy
    obtain ⟨n, _, rfl⟩ := List.mem_map.mp hy
    exact Nat.le_refl 1) (by
    have : (Str.ofString "").length = 0 := rfl
    rw [this]; unfold chars; rw [List.length_map]; lia)]
  rfl
theorem codes_text_spec {H : AH} {cs : Addr} {l : List Nat} {k x : AV → AH → Prop} (hC : H cs = some (.list (cds l))) (hb : ∀ n ∈ l, n ≤ 1114111) (hz : l.length ≤ 1000000)
    (h : k (.str (txt l)) H) : Cal g 1 true 219 [.ref cs] H k x := by
  refine Cal.left ?_
  refine' Cal.enter (as' := [.ref cs]) ["codes"] ?F ?B ?N ?_
  k_extra "enter"
  repeat' k_extra "step"
  refine Ev.comp [] ?_ rfl (by intro p hp; cases hp) rfl (by decide) (by decide)
  refine EvIt.val ?_
  repeat' k_extra "step"
  try refine It1.list (Ok.hand (by assumption) rfl) (by k_extra "thing") ?_
  intro L C hL
  refine CmpL.flat (fun _ => True) (fun v ρ => setL ρ (Str.ofString "code") v) (fun _ => true) (fun v => match v with | .int i => .str ⟨#[i.toNat]⟩ | _ => .none) (fun us => upd_fresh hL (by k_extra "thing")) _ [] _ (fun _ _ _ _ => trivial) ?_ ?_ ?_ ?_ ?_ trivial
  · intro v hv ρ us k' _ hk
    exact As.name hk ⟨by kernel_rfl, .inl ⟨by kernel_rfl, by kernel_rfl⟩⟩
  · intro v hv ρ us k' _ hk
    exact TsL.nil hk
  · intro v hv _ ρ us k' _ hk
    obtain ⟨n, hn, rfl⟩ := List.mem_map.mp hv
    have := hb n hn
    repeat' k_extra "step"
    exact OpL.chr (by lia) (by lia) hk
  · rw [cds_len]; simp; lia
  · intro ρ _
    have e : ((cds l).filter (fun _ => true)).map (fun v => match v with | .int i => AV.str ⟨#[i.toNat]⟩ | _ => .none) = (chars l).map AV.str := by
      rw [List.filter_eq_self.mpr (fun _ _ => rfl)]
      unfold cds chars
      rw [List.map_map, List.map_map]
      rfl
    rw [e, List.nil_append]
    repeat' k_extra "step"
    refine OpL.join (by k_extra "thing") (join_ok l hz) ?_
    repeat' k_extra "step"
    rw [join_chars]
    exact .drop rfl rfl hL (.here h)
end
end

section
section
variable {g : Gd Mine.hp.heap_1}
/-- a word's end -/
inductive Word (l : List Nat) : Int → Int → Prop
  | stop {p c : Int} : cAt l p = c → ¬ alnum c → Word l p p
  | step {p q c : Int} : cAt l p = c → alnum c → Word l (p + 1) q → Word l p q
theorem alnum_pos {c : Int} (h : alnum c) : c ≠ -1 := by unfold alnum at h; lia
theorem Word.le {l : List Nat} {p q : Int} (w : Word l p q) : 0 ≤ p → p ≤ l.length → p ≤ q ∧ q ≤ l.length := by
  induction w with
  | stop => intro h0 h1; exact ⟨Int.le_refl _, h1⟩
  | step hc ha _ ih =>
    intro h0 h1
    have := cAt_lt h0 hc (alnum_pos ha)
    have := ih (by lia) this
    lia
noncomputable def runL (l : List Nat) (p q : Int) : List Nat := (l.drop p.toNat).take (q.toNat - p.toNat)
theorem cds_run (l : List Nat) (p q : Int) : ((cds l).drop p.toNat).take (q.toNat - p.toNat) = cds (runL l p q) := by
  unfold cds runL
  rw [← List.map_drop, ← List.map_take]
theorem runL_mem {l : List Nat} {p q : Int} {n : Nat} (h : n ∈ runL l p q) : n ∈ l := List.mem_of_mem_drop (List.mem_of_mem_take h)
theorem runL_len (l : List Nat) (p q : Int) : (runL l p q).length ≤ l.length := Nat.le_trans (List.length_take_le' _ _) (by rw [List.length_drop]; exact Nat.sub_le _ _)
theorem w3a : True := by
  (k_with "w3a" =>
    first
      | (with_reducible show OpL ..
         first
          | k_extra "call"
          | refine Cal.at (code_at_is (by k_extra "thing") (by assumption) (by lia) (by lia) (by assumption) ?_) (Ok.leB (by assumption) rfl)
          | refine Cal.at (is_layout_spec ?_) (Ok.leB (by assumption) rfl)
          | refine Cal.at (is_digit_spec ?_) (Ok.leB (by assumption) rfl)
          | refine Cal.at (is_small_spec ?_) (Ok.leB (by assumption) rfl)
          | refine Cal.at (is_capital_spec ?_) (Ok.leB (by assumption) rfl)
          | refine Cal.at (is_alnum_spec ?_) (Ok.leB (by assumption) rfl))
      | k_extra "step")
  trivial
theorem word_spec {H : AH} {t d cs : Addr} {a p q o : Int} {l : List Nat} {k x : AV → AH → Prop} (W : Word l p q) (hT : H t = some (tokO d cs a o)) (C : Cds H cs l) (h0 : 0 ≤ p) (hp : p ≤ l.length) (hl : l.length ≤ 1000000)
    (h : k (.str (txt (runL l p q))) (upd H t (tokO d cs q o))) : Cal g 3 true 311 [.ref t, .int p] H k x := by
  refine Cal.left ?_
  refine' Cal.enter (as' := [.ref t, .int p]) ["self", "at"] ?F ?B ?N ?_
  k_extra "enter"
  have hz := C.z
  have hCs := C.h
  have hr := W.le h0 hp
  repeat' k_extra "w3a"
  refine (?key : ∀ (e : Int), Word l e q → p ≤ e → e ≤ l.length → ∀ ρ : Loc, ρ (Str.ofString "self") = some (.ref t) → ρ (Str.ofString "at") = some (.int p) → ρ (Str.ofString "end") = some (.int e) → Lp g _ _ _ ρ H _ _) p W (Int.le_refl _) hp _ (by k_extra "name") (by k_extra "name") (by k_extra "name")
  intro e W'
  induction W' with
  | stop hc hn =>
    intro h1 h2 ρ hs ha he
    refine Lp.step ?_
    repeat' k_extra "w3a"
    refine ⟨_, _, _, rfl, by k_extra "thing", ?_, pick_runI h0 h1 (by rw [cds_len]; exact h2), fun b hb => ?_⟩
    · rw [cds_len]; lia
    rw [cds_run]
    repeat' k_extra "w3a"
    refine Cal.at (codes_text_spec (upd_same _ _ _) (fun n hn => C.b n (runL_mem hn)) (Nat.le_trans (runL_len ..) hl) ?_) (Ok.leB (by assumption) rfl)
    repeat' k_extra "w3a"
    exact .drop rfl rfl hb (.here h)
  | step hc ha' _ ih =>
    intro h1 h2 ρ hs ha he
    have := cAt_lt (by lia) hc (alnum_pos ha')
    refine Lp.step ?_
    repeat' k_extra "w3a"
    exact ih (by assumption) (by assumption) (by assumption) (by lia) (by lia) _ (by k_extra "name") (by k_extra "name") (by k_extra "name")
end
end

section
section
variable {g : Gd Mine.hp.heap_1}

theorem w4a : True := by
  (k_with "w4a" =>
    first
      | (with_reducible show OpL ..
         first
          | k_extra "call"
          | refine Cal.at (code_at_is (by k_extra "thing") (by first | assumption | exact Cds.upd (by assumption) (by assumption)) (by lia) (by lia) (by assumption) ?_) (Ok.leB (by assumption) rfl)
          | refine Cal.at (is_layout_spec ?_) (Ok.leB (by assumption) rfl)
          | refine Cal.at (is_digit_spec ?_) (Ok.leB (by assumption) rfl)
          | refine Cal.at (is_small_spec ?_) (Ok.leB (by assumption) rfl)
          | refine Cal.at (is_capital_spec ?_) (Ok.leB (by assumption) rfl)
          | refine Cal.at (is_alnum_spec ?_) (Ok.leB (by assumption) rfl))
      | k_extra "step")
  trivial
/-- a symbol character -/
noncomputable def symb (a : Int) : Prop := a = 43 ∨ a = 45 ∨ a = 42 ∨ a = 47 ∨ a = 92 ∨ a = 94 ∨ a = 60 ∨ a = 62 ∨ a = 61 ∨ a = 126 ∨ a = 58 ∨ a = 46 ∨ a = 63 ∨ a = 64 ∨ a = 35 ∨ a = 38 ∨ a = 36
noncomputable instance (a : Int) : Decidable (symb a) := by unfold symb; infer_instance
theorem symb_in : ∀ n < 128, (!(Builtin.Str.occurrences (Str.ofString "+-*/\\^<>=~:.?@#&$") ⟨#[n]⟩ 0 (Str.ofString "+-*/\\^<>=~:.?@#&$").length 1).isEmpty) = decide (symb (n : Int)) := by decide +kernel
theorem symb_range {a : Int} (h : symb a) : 0 ≤ a ∧ a < 128 := by
  unfold symb at h
  rcases h with rfl | rfl | rfl | rfl | rfl | rfl | rfl | rfl | rfl | rfl | rfl | rfl | rfl | rfl | rfl | rfl | rfl <;> decide
theorem is_symbol_spec {H : AH} {a : Int} {k x : AV → AH → Prop} (h : k (.bool (decide (symb a))) H) : Cal g 1 false 200 [.int a] H k x := by
  refine' Cal.enter (as' := [.int a]) ["code"] ?F ?B ?N ?_
  k_extra "enter"
  by_cases h0 : 0 ≤ a ∧ a < 128
  · repeat' k_extra "w4a"
    refine OpL.chr (by lia) (by lia) ?_
    repeat' k_extra "w4a"
    refine Op2.inS ?_
    have := symb_in a.toNat (by lia)
    rw [Int.toNat_of_nonneg h0.1] at this
    rw [this]
    repeat' k_extra "w4a"
    exact h
  · have e : decide (symb a) = false := decide_eq_false fun h => h0 (symb_range h)
    rw [e] at h
    by_cases h1 : 0 ≤ a
    · repeat' k_extra "w4a"
      rw [decide_eq_false (by lia)] 
      exact h
    · repeat' k_extra "w4a"
      rw [decide_eq_false (by lia)] 
      exact h
noncomputable instance (a : Int) : Decidable (layout a) := by unfold layout; infer_instance
theorem ends_at_spec {H : AH} {t d cs : Addr} {a i v o : Int} {l : List Nat} {k x : AV → AH → Prop} (hT : H t = some (tokO d cs a o)) (C : Cds H cs l) (h0 : 0 ≤ i) (hi : i < 2 ^ 41) (hv : cAt l i = v)
    (h : k (.bool (decide (v = -1 ∨ v = 37 ∨ layout v))) H) : Cal g 2 false 325 [.ref t, .int i] H k x := by
  unfold layout at h
  refine' Cal.enter (as' := [.ref t, .int i]) ["self", "index"] ?F ?B ?N ?_
  k_extra "enter"
  repeat' k_extra "w4a"
  all_goals k_extra "same"
/-- the token that ends a clause -/
theorem symbol_end_spec {H : AH} {t d cs : Addr} {a p o v : Int} {l : List Nat} {k x : AV → AH → Prop} (hT : H t = some (tokO d cs a o)) (C : Cds H cs l) (h0 : 0 ≤ p) (hi : p < 2 ^ 40) (hv : cAt l p = 46) (hv' : cAt l (p + 1) = v) (he : v = -1 ∨ v = 37 ∨ layout v)
    (h : k (.tup [.str (Str.ofString "end"), .str (Str.ofString "."), .int p]) (upd H t (tokO d cs (p + 1) o))) : Cal g 3 false 318 [.ref t, .int p] H k x := by
  refine' Cal.enter (as' := [.ref t, .int p]) ["self", "at"] ?F ?B ?N ?_
  k_extra "enter"
  repeat' k_extra "w4a"
  refine Cal.at (ends_at_spec (by k_extra "thing") (by assumption) (by lia) (by lia) hv' ?_) (Ok.leB (by assumption) rfl)
  rw [decide_eq_true he]
  repeat' k_extra "w4a"
  exact h
end
end

section
section
variable {g : Gd Mine.hp.heap_1}
theorem Gap.le {l : List Nat} {p q : Int} (w : Gap l p q) : 0 ≤ p → p ≤ l.length → p ≤ q ∧ q ≤ l.length := by
  induction w with
  | stop => intro h0 h1; exact ⟨Int.le_refl _, h1⟩
  | blank hc hl _ ih =>
    intro h0 h1
    have := cAt_lt h0 hc (by unfold layout at hl; lia)
    have := ih (by lia) this
    lia
theorem w5a : True := by
  (k_with "w5a" =>
    first
      | (with_reducible show OpL ..
         first
          | k_extra "call"
          | refine Cal.at (code_at_is (by k_extra "thing") (by first | assumption | exact Cds.upd (by assumption) (by assumption)) (by lia) (by lia) (by assumption) ?_) (Ok.leB (by assumption) rfl)
          | refine Cal.at (skip_layout_spec (by assumption) (by k_extra "thing") (by assumption) (by lia) (by lia) ?_) (Ok.leB (by assumption) rfl)
          | refine Cal.at (word_spec (by assumption) (by k_extra "thing") (by first | assumption | exact Cds.upd (by assumption) (by assumption)) (by lia) (by lia) (by lia) ?_) (Ok.leB (by assumption) rfl)
          | refine Cal.at (symbol_end_spec (by k_extra "thing") (by first | assumption | exact Cds.upd (by assumption) (by assumption)) (by lia) (by lia) (by assumption) (by assumption) (by assumption) ?_) (Ok.leB (by assumption) rfl)
          | refine Cal.at (is_layout_spec ?_) (Ok.leB (by assumption) rfl)
          | refine Cal.at (is_symbol_spec ?_) (Ok.leB (by assumption) rfl)
          | refine Cal.at (is_digit_spec ?_) (Ok.leB (by assumption) rfl)
          | refine Cal.at (is_small_spec ?_) (Ok.leB (by assumption) rfl)
          | refine Cal.at (is_capital_spec ?_) (Ok.leB (by assumption) rfl)
          | refine Cal.at (is_alnum_spec ?_) (Ok.leB (by assumption) rfl))
      | k_extra "step")
  trivial
section
variable {H : AH} {t d cs : Addr} {a p q o v c : Int} {l : List Nat} {k x : AV → AH → Prop}
theorem next_eof_spec (G : Gap l a p) (hp : (l.length : Int) ≤ p) (hT : H t = some (tokO d cs a o)) (C : Cds H cs l) (h0 : 0 ≤ a) (ha : a ≤ l.length) 
    (h : k (.tup [.str (Str.ofString "eof"), .str (Str.ofString ""), .int p]) (upd H t (tokO d cs p o))) : Cal g 4 true 276 [.ref t] H k x := by
  refine' Cal.enter (as' := [.ref t]) ["self"] ?F ?B ?N ?_
  k_extra "enter"
  have hz := C.z
  have hCs := C.h
  have hn := C.ne hT
  have hll : ((cds l).length : Int) = l.length := by rw [cds_len]
  have hr := G.le h0 ha
  repeat' k_extra "w5a"
  exact h
theorem next_open_spec (G : Gap l a p) (hc : cAt l p = 40) (hk : p > a ∨ p = o) (hT : H t = some (tokO d cs a o)) (C : Cds H cs l) (h0 : 0 ≤ a) (ha : a ≤ l.length) 
    (h : k (.tup [.str (Str.ofString "open"), .str (Str.ofString "("), .int p]) (upd H t (tokO d cs (p + 1) o))) : Cal g 4 true 276 [.ref t] H k x := by
  refine' Cal.enter (as' := [.ref t]) ["self"] ?F ?B ?N ?_
  k_extra "enter"
  have hz := C.z
  have hCs := C.h
  have hn := C.ne hT
  have hll : ((cds l).length : Int) = l.length := by rw [cds_len]
  have hr := G.le h0 ha
  have hlt := cAt_lt (by lia) hc (by decide)
  rw [← upd_upd H t (tokO d cs p o)] at h
  repeat' k_extra "w5a"
  all_goals first | exact h | lia
theorem next_open_ct_spec (G : Gap l p p) (hc : cAt l p = 40) (hk : p ≠ o) (hT : H t = some (tokO d cs p o)) (C : Cds H cs l) (h0 : 0 ≤ p) (ha : p ≤ l.length) 
    (h : k (.tup [.str (Str.ofString "open_ct"), .str (Str.ofString "("), .int p]) (upd H t (tokO d cs (p + 1) o))) : Cal g 4 true 276 [.ref t] H k x := by
  refine' Cal.enter (as' := [.ref t]) ["self"] ?F ?B ?N ?_
  k_extra "enter"
  have hz := C.z
  have hCs := C.h
  have hn := C.ne hT
  have hll : ((cds l).length : Int) = l.length := by rw [cds_len]
  have hr := G.le h0 ha
  have hlt := cAt_lt (by lia) hc (by decide)
  rw [← upd_upd H t (tokO d cs p o)] at h
  repeat' k_extra "w5a"
  all_goals first | exact h | lia
theorem next_name_spec (G : Gap l a p) (W : Word l p q) (hc : cAt l p = c) (hk : 97 ≤ c ∧ c ≤ 122) (hT : H t = some (tokO d cs a o)) (C : Cds H cs l) (h0 : 0 ≤ a) (ha : a ≤ l.length) (hl : l.length ≤ 1000000)
    (h : k (.tup [.str (Str.ofString "name"), .str (txt (runL l p q)), .int p]) (upd H t (tokO d cs q o))) : Cal g 4 true 276 [.ref t] H k x := by
  refine' Cal.enter (as' := [.ref t]) ["self"] ?F ?B ?N ?_
  k_extra "enter"
  have hz := C.z
  have hCs := C.h
  have hn := C.ne hT
  have hll : ((cds l).length : Int) = l.length := by rw [cds_len]
  have hr := G.le h0 ha
  have hlt := cAt_lt (by lia) hc (by lia)
  rw [← upd_upd H t (tokO d cs p o)] at h
  repeat' k_extra "w5a"
  all_goals first | exact h | lia
theorem next_var_spec (G : Gap l a p) (W : Word l p q) (hc : cAt l p = c) (hk : 65 ≤ c ∧ c ≤ 90 ∨ c = 95) (hT : H t = some (tokO d cs a o)) (C : Cds H cs l) (h0 : 0 ≤ a) (ha : a ≤ l.length) (hl : l.length ≤ 1000000)
    (h : k (.tup [.str (Str.ofString "var"), .str (txt (runL l p q)), .int p]) (upd H t (tokO d cs q o))) : Cal g 4 true 276 [.ref t] H k x := by
  refine' Cal.enter (as' := [.ref t]) ["self"] ?F ?B ?N ?_
  k_extra "enter"
  have hz := C.z
  have hCs := C.h
  have hn := C.ne hT
  have hll : ((cds l).length : Int) = l.length := by rw [cds_len]
  have hr := G.le h0 ha
  have hlt := cAt_lt (by lia) hc (by lia)
  rw [← upd_upd H t (tokO d cs p o)] at h
  repeat' k_extra "w5a"
  all_goals first | exact h | lia
theorem next_end_spec (G : Gap l a p) (hc : cAt l p = 46) (hv' : cAt l (p + 1) = v) (he : v = -1 ∨ v = 37 ∨ layout v) (hT : H t = some (tokO d cs a o)) (C : Cds H cs l) (h0 : 0 ≤ a) (ha : a ≤ l.length)
    (h : k (.tup [.str (Str.ofString "end"), .str (Str.ofString "."), .int p]) (upd H t (tokO d cs (p + 1) o))) : Cal g 4 true 276 [.ref t] H k x := by
  refine' Cal.enter (as' := [.ref t]) ["self"] ?F ?B ?N ?_
  k_extra "enter"
  have hz := C.z
  have hCs := C.h
  have hn := C.ne hT
  have hll : ((cds l).length : Int) = l.length := by rw [cds_len]
  have hr := G.le h0 ha
  have hlt := cAt_lt (by lia) hc (by decide)
  have hs : symb 46 := by decide
  rw [← upd_upd H t (tokO d cs p o)] at h
  repeat' k_extra "w5a"
  all_goals first | exact h | lia
noncomputable def punc (c : Int) : Prop := c = 41 ∨ c = 91 ∨ c = 93 ∨ c = 123 ∨ c = 125 ∨ c = 44 ∨ c = 124
theorem punc_in {c : Int} (h : punc c) : (!(Builtin.Str.occurrences (Str.ofString ")[]{},|") ⟨#[c.toNat]⟩ 0 (Str.ofString ")[]{},|").length 1).isEmpty) = true := by
  unfold punc at h
  rcases h with rfl | rfl | rfl | rfl | rfl | rfl | rfl <;> decide +kernel
theorem punc_facts {c : Int} (h : punc c) : ¬ symb c ∧ c ≠ 40 ∧ c < 128 ∧ 40 < c ∧ ¬ (97 ≤ c ∧ c ≤ 122) ∧ ¬ (65 ≤ c ∧ c ≤ 90) ∧ c ≠ 95 ∧ ¬ (48 ≤ c ∧ c ≤ 57) ∧ c ≠ 39 ∧ c ≠ 34 ∧ c ≠ 96 := by
  unfold punc at h
  rcases h with rfl | rfl | rfl | rfl | rfl | rfl | rfl <;> decide
theorem next_punct_spec (G : Gap l a p) (hc : cAt l p = c) (hk : punc c) (hT : H t = some (tokO d cs a o)) (C : Cds H cs l) (h0 : 0 ≤ a) (ha : a ≤ l.length)
    (h : k (.tup [.str (Str.ofString "punct"), .str ⟨#[c.toNat]⟩, .int p]) (upd H t (tokO d cs (p + 1) o))) : Cal g 4 true 276 [.ref t] H k x := by
  refine' Cal.enter (as' := [.ref t]) ["self"] ?F ?B ?N ?_
  k_extra "enter"
  have hz := C.z
  have hCs := C.h
  have hn := C.ne hT
  have hll : ((cds l).length : Int) = l.length := by rw [cds_len]
  have hr := G.le h0 ha
  have hin := punc_in hk
  obtain ⟨hns, f1, f2, f3, f4, f5, f6, f7, f8, f9, f10⟩ := punc_facts hk
  clear hk
  have hlt := cAt_lt (by lia) hc (by lia)
  rw [← upd_upd H t (tokO d cs p o)] at h
  repeat' k_extra "w5a"
  refine OpL.max2 (Ok.hand (by assumption) rfl) ?_
  rw [show (if (0 : Int) > c then (0 : Int) else c) = c by lia]
  repeat' k_extra "w5a"
  refine OpL.chr (by lia) (by lia) ?_
  repeat' k_extra "w5a"
  refine Op2.inS ?_
  rw [hin]
  repeat' k_extra "w5a"
  exact h
end
end
end

section
section
variable {g : Gd Mine.hp.heap_1}
/-! the symbol table -/
noncomputable def num {K : Type} : List K → Nat → List (K × AV)
  | [], _ => []
  | k :: l, n => (k, .int (n : Nat)) :: num l (n + 1)
theorem num_len {K : Type} : ∀ (l : List K) (n : Nat), (num l n).length = l.length
  | [], _ => rfl
  | k :: l, n => by unfold num; rw [List.length_cons, num_len l, List.length_cons]
noncomputable def posA {K : Type} [DecidableEq K] (l : List K) (k : K) : Nat := l.idxOf k
theorem posA_new {K : Type} [DecidableEq K] {l : List K} {k : K} (h : k ∉ l) : posA l k = l.length := List.idxOf_eq_length h
theorem getA_num {K : Type} [DecidableEq K] {k : K} : ∀ {l : List K} {n : Nat}, k ∈ l → getA (num l n) k = some (.int ((n + posA l k : Nat)))
  | [], _, h => by cases h
  | y :: l, n, h => by
    unfold num getA
    by_cases q : y = k
    · subst q
      simp only [List.find?_cons, decide_true, Option.map_some, posA, List.idxOf_cons_self, Nat.add_zero]
    · have hk : k ∈ l := by cases h with
        | head => exact absurd rfl q
        | tail _ h => exact h
      have ih := getA_num (n := n + 1) hk
      unfold getA at ih
      simp only [List.find?_cons, q, decide_false]
      unfold posA at ih ⊢
      rw [ih, List.idxOf_cons, show (y == k) = false from beq_eq_false_iff_ne.mpr q, cond_false, show n + 1 + l.idxOf k = n + (l.idxOf k + 1) by lia]
theorem getA_num_none {K : Type} [DecidableEq K] {k : K} : ∀ {l : List K} {n : Nat}, k ∉ l → getA (num l n) k = none
  | [], _, h => rfl
  | y :: l, n, h => by
    unfold num getA
    have q : y ≠ k := fun e => h (e ▸ .head _)
    have ih := getA_num_none (l := l) (n := n + 1) fun hk => h (.tail _ hk)
    unfold getA at ih
    simp only [List.find?_cons, q, decide_false]
    exact ih
theorem num_any {K : Type} [DecidableEq K] {k : K} : ∀ {l : List K} {n : Nat}, k ∉ l → (num l n).any (fun kv => kv.1 = k) = false
  | [], _, h => rfl
  | y :: l, n, h => by
    unfold num
    have q : y ≠ k := fun e => h (e ▸ .head _)
    simp only [List.any_cons, q, decide_false, Bool.false_or]
    exact num_any fun hk => h (.tail _ hk)
theorem num_append {K : Type} {k : K} : ∀ {l : List K} {n : Nat}, num (l ++ [k]) n = num l n ++ [(k, .int ((n + l.length : Nat)))]
  | [], n => rfl
  | y :: l, n => by
    rw [List.cons_append]
    unfold num
    rw [num_append, List.cons_append, List.length_cons, show n + 1 + l.length = n + (l.length + 1) by lia]
theorem putA_num {K : Type} [DecidableEq K] {k : K} {l : List K} (h : k ∉ l) : putA (num l 0) k (.int (l.length : Nat)) = num (l ++ [k]) 0 := by
  unfold putA
  rw [num_any h, if_neg Bool.false_ne_true, num_append, Nat.zero_add]
noncomputable def addA {K : Type} [DecidableEq K] (l : List K) (k : K) : List K := if k ∈ l then l else l ++ [k]
theorem addA_old {K : Type} [DecidableEq K] {l : List K} {k : K} (h : k ∈ l) : addA l k = l := if_pos h
theorem addA_new {K : Type} [DecidableEq K] {l : List K} {k : K} (h : k ∉ l) : addA l k = l ++ [k] := if_neg h
noncomputable abbrev symO (d tx an fn fnn : Addr) : AObj := .inst 154 d [(Str.ofString "texts", .ref tx), (Str.ofString "atom_numbers", .ref an), (Str.ofString "functors", .ref fn), (Str.ofString "functor_numbers", .ref fnn)]
theorem clsSym : ClsF (Mine.hp.heap_1 g.w.params) 154 := ⟨by k_extra "part", by k_extra "part", by k_extra "part", by k_extra "part", by k_extra "part"⟩
structure Sy (H : AH) (S d tx an fn fnn : Addr) (ts : List Str) (fs : List (List Int)) : Prop where
  o : H S = some (symO d tx an fn fnn)
  t : H tx = some (.list (ts.map .str))
  a : H an = some (.dictS (num ts 0))
  f : H fn = some (.list (fs.map fun k => .tup (intsAV k)))
  n : H fnn = some (.dictT (num fs 0))
  ne : tx ≠ fn
noncomputable abbrev putT (H : AH) (tx an : Addr) (ts : List Str) : AH := upd (upd H tx (.list (ts.map .str))) an (.dictS (num ts 0))
noncomputable abbrev putFn (H : AH) (fn fnn : Addr) (fs : List (List Int)) : AH := upd (upd H fn (.list (fs.map fun k => .tup (intsAV k)))) fnn (.dictT (num fs 0))
section
variable {H : AH} {S d tx an fn fnn : Addr} {ts : List Str} {fs : List (List Int)} {u : Str} {k x : AV → AH → Prop}
section
theorem w6a : True := by
  (k_with "w6a" =>
    first
      | with_reducible assumption
      | exact upd_same _ _ _
      | (apply upd_kind; (k_extra "w6a"); (k_extra "w6a"); rfl)
      | k_extra "thing")
  trivial
theorem Sy.putT (y : Sy H S d tx an fn fnn ts fs) (ts' : List Str) : Sy (Mine.putT H tx an ts') S d tx an fn fnn ts' fs := by
  obtain ⟨h1, h2, h3, h4, h5, h6⟩ := y
  exact ⟨by k_extra "w6a", by k_extra "w6a", by k_extra "w6a", by k_extra "w6a", by k_extra "w6a", h6⟩
theorem Sy.putF (y : Sy H S d tx an fn fnn ts fs) (fs' : List (List Int)) : Sy (Mine.putFn H fn fnn fs') S d tx an fn fnn ts fs' := by
  obtain ⟨h1, h2, h3, h4, h5, h6⟩ := y
  exact ⟨by k_extra "w6a", by k_extra "w6a", by k_extra "w6a", by k_extra "w6a", by k_extra "w6a", h6⟩
end
theorem atom_spec (y : Sy H S d tx an fn fnn ts fs) (hz : ts.length ≤ 100000) (h : k (.int (posA ts u : Nat)) (putT H tx an (addA ts u))) : Cal g 1 false 88 [.ref S, .str u] H k x := by
  have h1 := y.o
  have h2 := y.t
  have h3 := y.a
  have hl : (ts.map AV.str).length = ts.length := List.length_map ..
  have hn : (num ts 0).length = ts.length := num_len ts 0
  refine' Cal.enter (as' := [.ref S, .str u]) ["self", "text"] ?F ?B ?N ?_
  k_extra "enter"
  repeat' k_extra "step"
  refine OpL.getS2 (by k_extra "w6a") ?_
  by_cases hu : u ∈ ts
  · rw [getA_num hu, Option.getD_some]
    repeat' k_extra "step"
    rw [addA_old hu, putT, upd_self h2, upd_self h3] at h
    rw [Nat.zero_add]
    exact h
  · rw [getA_num_none hu, Option.getD_none]
    repeat' k_extra "step"
    refine OpS.dS (by k_extra "w6a") (by lia) ?_
    repeat' k_extra "step"
    rw [addA_new hu, posA_new hu] at h
    rw [hl, putA_num hu]
    rw [putT, List.map_append] at h
    exact h
end
end
end

section
section
variable {g : Gd Mine.hp.heap_1}
section
variable {H : AH} {S d tx an fn fnn : Addr} {ts : List Str} {fs : List (List Int)} {u : Str} {k x : AV → AH → Prop}
theorem functor_spec {a r : Int} (y : Sy H S d tx an fn fnn ts fs) (hz : fs.length ≤ 100000) (h : k (.int (posA fs [a, r] : Nat)) (putFn H fn fnn (addA fs [a, r]))) : Cal g 1 false 102 [.ref S, .int a, .int r] H k x := by
  have h1 := y.o
  have h2 := y.f
  have h3 := y.n
  have hl : (fs.map fun k => AV.tup (intsAV k)).length = fs.length := List.length_map ..
  have hn : (num fs 0).length = fs.length := num_len fs 0
  refine' Cal.enter (as' := [.ref S, .int a, .int r]) ["self", "atom", "arity"] ?F ?B ?N ?_
  k_extra "enter"
  repeat' k_extra "step"
  refine OpL.getT2 (u := [a, r]) (by have := Ok.units (by assumption : Ok _ _ _); show _ < 9900; simp only; lia) (by k_extra "thing") ?_
  by_cases hu : [a, r] ∈ fs
  · rw [getA_num hu, Option.getD_some]
    repeat' k_extra "step"
    rw [addA_old hu, putFn, upd_self h2, upd_self h3] at h
    rw [Nat.zero_add]
    exact h
  · rw [getA_num_none hu, Option.getD_none]
    repeat' k_extra "step"
    refine OpS.dT (u := [a, r]) (by have := Ok.units (by assumption : Ok _ _ _); show _ < 9900; simp only; lia) (by k_extra "thing") (by lia) ?_
    repeat' k_extra "step"
    rw [addA_new hu, posA_new hu] at h
    rw [hl, putA_num hu]
    rw [putFn, List.map_append] at h
    exact h
theorem w7a : True := by
  (k_with "w7a" =>
    first
      | (with_reducible show OpL ..
         first
          | k_extra "call"
          | refine Cal.at (atom_spec (by first | assumption | exact Sy.putT (by assumption) _) (by lia) ?_) (Ok.leB (by assumption) rfl)
          | refine Cal.at (functor_spec (by first | assumption | exact Sy.putT (by assumption) _) (by lia) ?_) (Ok.leB (by assumption) rfl))
      | k_extra "step")
  trivial
theorem func_spec {r : Int} (y : Sy H S d tx an fn fnn ts fs) (hz : ts.length ≤ 100000) (hz' : fs.length ≤ 100000)
    (h : k (.int (posA fs [(posA ts u : Int), r] : Nat)) (putFn (putT H tx an (addA ts u)) fn fnn (addA fs [(posA ts u : Int), r]))) : Cal g 2 false 109 [.ref S, .str u, .int r] H k x := by
  have h1 := y.o
  refine' Cal.enter (as' := [.ref S, .str u, .int r]) ["self", "text", "arity"] ?F ?B ?N ?_
  k_extra "enter"
  have y' := y.putT (addA ts u)
  repeat' k_extra "w7a"
  exact h
theorem text_spec {i : Nat} {v : Str} (y : Sy H S d tx an fn fnn ts fs) (hi : ts[i]? = some v) (hz : ts.length ≤ 100000) (h : k (.str v) H) : Cal g 1 false 95 [.ref S, .int i] H k x := by
  have h1 := y.o
  have h2 := y.t
  have hlt := (List.getElem?_eq_some_iff.mp hi).1
  refine' Cal.enter (as' := [.ref S, .int i]) ["self", "number"] ?F ?B ?N ?_
  k_extra "enter"
  repeat' k_extra "w7a"
  refine Op2.itemL (by k_extra "thing") (by lia) (by lia) (by rw [Int.toNat_natCast, List.getElem?_map, hi]; rfl) ?_
  repeat' k_extra "w7a"
  exact h
end
noncomputable def strOf : AV → Str
  | .str u => u
  | _ => Str.ofString ""
noncomputable def intOf : AV → Int
  | .int u => u
  | _ => 0
noncomputable def itsOf : AV → List AV
  | .tup u => u
  | _ => []
theorem fixed_atoms_ex : ∃ av : List AV, (∀ {g : Gd Mine.hp.heap_1} {H : AH} {k x : AV → AH → Prop}, k (.tup av) H → Cal g 1 false 60 [] H k x) ∧ av = (av.map strOf).map .str ∧ ((av.map strOf).foldl addA [])[7]? = some (Str.ofString ",") ∧ av.length ≤ 1000 := by
  refine' ⟨_, ?_, ?_⟩
  rotate_left
  · intro g H k x h
    refine' Cal.enter (as' := []) [] ?F ?B ?N ?_
    k_extra "enter"
    with_reducible refine Exs.cons ?_
    with_reducible refine Ex.ret ?_
    refine' (Pu.tup ?pu ?hz).1 ?hq
    rotate_left
    (case pu => (repeat' (with_reducible first | exact Pu.str | exact Pu.int | exact Pu.bool | refine' PuL.cons ?_ ?_ | exact PuL.nil | refine' Pu.tup ?_ ?_)); all_goals rfl)
    (case hz => rfl)
    repeat' k_extra "w7a"
    exact h
  exact ⟨rfl, by decide +kernel, Nat.le_of_ble_eq_true rfl⟩
theorem fixed_functors_ex : ∃ av : List AV, (∀ {g : Gd Mine.hp.heap_1} {H : AH} {k x : AV → AH → Prop}, k (.tup av) H → Cal g 1 false 67 [] H k x) ∧ av = (av.map fun v => (strOf ((itsOf v)[0]?.getD .none), intOf ((itsOf v)[1]?.getD .none))).map (fun p => .tup [.str p.1, .int p.2]) ∧ av.length ≤ 1000 := by
  refine' ⟨_, ?_, ?_⟩
  rotate_left
  · intro g H k x h
    refine' Cal.enter (as' := []) [] ?F ?B ?N ?_
    k_extra "enter"
    with_reducible refine Exs.cons ?_
    with_reducible refine Ex.ret ?_
    refine' (Pu.tup ?pu ?hz).1 ?hq
    rotate_left
    (case pu => (repeat' (with_reducible first | exact Pu.str | exact Pu.int | exact Pu.bool | refine' PuL.cons ?_ ?_ | exact PuL.nil | refine' Pu.tup ?_ ?_)); all_goals rfl)
    (case hz => rfl)
    repeat' k_extra "w7a"
    exact h
  exact ⟨rfl, Nat.le_of_ble_eq_true rfl⟩
end
end

section
section
variable {g : Gd Mine.hp.heap_1}
theorem addA_len {K : Type} [DecidableEq K] (l : List K) (k : K) : (addA l k).length ≤ l.length + 1 := by
  unfold addA
  split
  · lia
  · simp
theorem addA_ge {K : Type} [DecidableEq K] (l : List K) (k : K) : l.length ≤ (addA l k).length := by
  unfold addA
  split
  · lia
  · simp
theorem addA_get {K : Type} [DecidableEq K] {l : List K} {k u : K} {i : Nat} (h : l[i]? = some u) : (addA l k)[i]? = some u := by
  unfold addA
  split
  · exact h
  · rw [List.getElem?_append_left (List.getElem?_eq_some_iff.mp h).1]; exact h
theorem Keep.putT {H0 H : AH} {tx an : Addr} {ts : List Str} (y : Keep H0 H) (h1 : H0 tx = none) (h2 : H0 an = none) : Keep H0 (Mine.putT H tx an ts) := fun b o e => (upd_ne (ne_fresh h2 e)).trans ((upd_ne (ne_fresh h1 e)).trans (y b o e))
theorem Keep.putF {H0 H : AH} {tx an : Addr} {ts : List (List Int)} (y : Keep H0 H) (h1 : H0 tx = none) (h2 : H0 an = none) : Keep H0 (Mine.putFn H tx an ts) := fun b o e => (upd_ne (ne_fresh h2 e)).trans ((upd_ne (ne_fresh h1 e)).trans (y b o e))
theorem Symbols_spec {H : AH} {k x : AV → AH → Prop}
    (h : ∀ S d tx an fn fnn ts fs H', H S = none → H tx = none → H an = none → H fn = none → H fnn = none → Keep H H' → Sy H' S d tx an fn fnn ts fs → ts[7]? = some (Str.ofString ",") → ts.length ≤ 3000 → fs.length ≤ 1000 → k (.ref S) H') : Cal g 4 true 154 [] H k x := by
  refine Cal.make (fI := 81) ⟨by k_extra "part", by k_extra "part", by k_extra "part"⟩ ?_
  intro S d hS hd hne
  refine' Cal.enter (as' := [.ref S]) ["self"] ?F ?B ?N ?_
  k_extra "enter"
  obtain ⟨av, hav, eav, h7, lav⟩ := fixed_atoms_ex
  obtain ⟨fv, hfv, efv, lfv⟩ := fixed_functors_ex
  repeat' k_extra "step"
  intro tx htx
  repeat' k_extra "step"
  refine Ev.dictS (fun an han => ?_)
  repeat' k_extra "step"
  intro fn hfn
  repeat' k_extra "step"
  refine Ev.dictT (fun fnn hfnn => ?_)
  repeat' k_extra "step"
  have nS := uD htx
  have nd := uD (uN htx)
  have kS := uN (uN htx)
  have nan1 := uD (uN han)
  have nan2 := uD (uN (uN han))
  have nan3 := uD (uN (uN (uN han)))
  have kan := uN (uN (uN (uN han)))
  have nfn0 := uD (uN hfn)
  have nfn1 := uD (uN (uN (uN hfn)))
  have nfn2 := uD (uN (uN (uN (uN hfn))))
  have nfn3 := uD (uN (uN (uN (uN (uN hfn)))))
  have kfn := uN (uN (uN (uN (uN (uN hfn)))))
  have nfnn0 := uD (uN hfnn)
  have nfnn4 := uD (uN (uN (uN hfnn)))
  have nfnn1 := uD (uN (uN (uN (uN (uN hfnn)))))
  have nfnn2 := uD (uN (uN (uN (uN (uN (uN hfnn))))))
  have nfnn3 := uD (uN (uN (uN (uN (uN (uN (uN hfnn)))))))
  have kfnn := uN (uN (uN (uN (uN (uN (uN (uN hfnn)))))))
  refine EvIt.val ?_
  repeat' k_extra "step"
  refine Cal.at (hav ?_) (Ok.leB (by assumption) rfl)
  repeat' k_extra "step"
  rw [eav]
  rw [← List.length_map (f := strOf)] at lav
  generalize av.map strOf = as at h7 lav ⊢
  have y0 : Sy (upd (upd (upd (upd (upd (upd (upd (upd (upd (upd H d (AObj.own S)) S (AObj.inst 154 d [])) tx (AObj.list [])) S (AObj.inst 154 d [(Str.ofString "texts", AV.ref tx)])) an (AObj.dictS [])) S (AObj.inst 154 d [(Str.ofString "texts", AV.ref tx), (Str.ofString "atom_numbers", AV.ref an)])) fn (AObj.list [])) S (AObj.inst 154 d [(Str.ofString "texts", AV.ref tx), (Str.ofString "atom_numbers", AV.ref an), (Str.ofString "functors", AV.ref fn)])) fnn (AObj.dictT [])) S (symO d tx an fn fnn)) S d tx an fn fnn [] [] :=
    ⟨by k_extra "thing", (show _ = some (AObj.list []) by k_extra "thing"), (show _ = some (AObj.dictS []) by k_extra "thing"), (show _ = some (AObj.list []) by k_extra "thing"), (show _ = some (AObj.dictT []) by k_extra "thing"), Ne.symm (by assumption)⟩
  have kp0 : Keep H (upd (upd (upd (upd (upd (upd (upd (upd (upd (upd H d (AObj.own S)) S (AObj.inst 154 d [])) tx (AObj.list [])) S (AObj.inst 154 d [(Str.ofString "texts", AV.ref tx)])) an (AObj.dictS [])) S (AObj.inst 154 d [(Str.ofString "texts", AV.ref tx), (Str.ofString "atom_numbers", AV.ref an)])) fn (AObj.list [])) S (AObj.inst 154 d [(Str.ofString "texts", AV.ref tx), (Str.ofString "atom_numbers", AV.ref an), (Str.ofString "functors", AV.ref fn)])) fnn (AObj.dictT [])) S (symO d tx an fn fnn)) := by
    intro b o e
    have e1 := ne_fresh hS e
    have e2 := ne_fresh hd e
    have e3 := ne_fresh kS e
    have e4 := ne_fresh kan e
    have e5 := ne_fresh kfn e
    have e6 := ne_fresh kfnn e
    repeat (refine upd_other (by assumption) ?_)
    exact e
  revert y0 kp0
  generalize (upd (upd (upd (upd (upd (upd (upd (upd (upd (upd H d (AObj.own S)) S (AObj.inst 154 d [])) tx (AObj.list [])) S (AObj.inst 154 d [(Str.ofString "texts", AV.ref tx)])) an (AObj.dictS [])) S (AObj.inst 154 d [(Str.ofString "texts", AV.ref tx), (Str.ofString "atom_numbers", AV.ref an)])) fn (AObj.list [])) S (AObj.inst 154 d [(Str.ofString "texts", AV.ref tx), (Str.ofString "atom_numbers", AV.ref an), (Str.ofString "functors", AV.ref fn)])) fnn (AObj.dictT [])) S (symO d tx an fn fnn)) = H1
  intro y0 kp0
  refine (?key : ∀ (us : List Str) (ts : List Str) (H' : AH) (ρ : Loc), Sy H' S d tx an fn fnn ts [] → Keep H H' → (us.foldl addA ts)[7]? = some (Str.ofString ",") → ts.length + us.length ≤ 1000 → ρ (Str.ofString "self") = some (.ref S) → ForL g _ _ _ _ _ (us.map AV.str) ρ H') as [] _ _ y0 kp0 h7 (by simpa using lav) (by k_extra "name")
  intro us
  induction us with
  | nil =>
    intro ts H' ρ y kp h7 hl hs
    refine ForL.nil ?_
    repeat' k_extra "step"
    refine EvIt.val ?_
    repeat' k_extra "step"
    refine Cal.at (hfv ?_) (Ok.leB (by assumption) rfl)
    repeat' k_extra "step"
    rw [efv]
    rw [← List.length_map (f := fun v => (strOf ((itsOf v)[0]?.getD AV.none), intOf ((itsOf v)[1]?.getD AV.none)))] at lfv
    generalize (fv.map fun v => (strOf ((itsOf v)[0]?.getD AV.none), intOf ((itsOf v)[1]?.getD AV.none))) = fp at lfv ⊢
    refine (?key2 : ∀ (us : List (Str × Int)) (ts : List Str) (fs : List (List Int)) (H' : AH) (ρ : Loc), Sy H' S d tx an fn fnn ts fs → Keep H H' → ts[7]? = some (Str.ofString ",") → ts.length + us.length ≤ 2000 → fs.length + us.length ≤ 1000 → ρ (Str.ofString "self") = some (.ref S) → ForL g _ _ _ _ _ (us.map fun p => AV.tup [.str p.1, .int p.2]) ρ H') fp ts [] _ _ y kp h7 (by simp at hl; lia) (by simpa using lfv) (by k_extra "name")
    intro us
    induction us with
    | nil =>
      intro ts fs H' ρ y kp h7 hl hl' hs
      refine ForL.nil ?_
      repeat' k_extra "step"
      exact ⟨rfl, h S d tx an fn fnn ts fs H' hS kS kan kfn kfnn kp y h7 (by lia) (by simp at hl'; lia)⟩
    | cons u us ih =>
      intro ts fs H' ρ y kp h7 hl hl' hs
      rw [List.length_cons] at hl hl'
      have hy := y.o
      have l1 := addA_len ts u.1
      have l2 := addA_len fs [(posA ts u.1 : Int), u.2]
      rw [List.map_cons]
      repeat' k_extra "step"
      refine Cal.at (func_spec y (by lia) (by lia) ?_) (Ok.leB (by assumption) rfl)
      repeat' k_extra "step"
      exact turnF_next trivial (ih _ _ _ _ ((y.putT _).putF _) ((kp.putT kS kan).putF kfn kfnn) (addA_get h7) (by lia) (by lia) (by k_extra "name"))
  | cons u us ih =>
    intro ts H' ρ y kp h7 hl hs
    rw [List.length_cons] at hl
    have hy := y.o
    have l1 := addA_len ts u
    rw [List.map_cons]
    repeat' k_extra "step"
    refine Cal.at (atom_spec y (by lia) ?_) (Ok.leB (by assumption) rfl)
    repeat' k_extra "step"
    exact turnF_next trivial (ih _ _ _ (y.putT _) (kp.putT kS kan) h7 (by lia) (by k_extra "name"))
end
end

section
section
variable {g : Gd Mine.hp.heap_1}
theorem fixity_pre {H : AH} {ty : Str} {k x : AV → AH → Prop} (hp : ty = Str.ofString "fx" ∨ ty = Str.ofString "fy") (h : k (.str (Str.ofString "prefix")) H) : Cal g 1 false 435 [.str ty] H k x := by
  refine' Cal.enter (as' := [.str ty]) ["type_text"] ?F ?B ?N ?_
  k_extra "enter"
  repeat' k_extra "step"
  refine Op2.inK (ss := [Str.ofString "fx", Str.ofString "fy"]) (by k_extra "part") (fun h => .cons (.str _ _) (.cons (.str _ _) .nil)) ?_
  rw [decide_eq_true (by rcases hp with rfl | rfl <;> simp)]
  repeat' k_extra "step"
  exact h
theorem fixity_inf {H : AH} {ty : Str} {k x : AV → AH → Prop} (hp : ty = Str.ofString "xfx" ∨ ty = Str.ofString "xfy" ∨ ty = Str.ofString "yfx") (h : k (.str (Str.ofString "infix")) H) : Cal g 1 false 435 [.str ty] H k x := by
  refine' Cal.enter (as' := [.str ty]) ["type_text"] ?F ?B ?N ?_
  k_extra "enter"
  repeat' k_extra "step"
  refine Op2.inK (ss := [Str.ofString "fx", Str.ofString "fy"]) (by k_extra "part") (fun h => .cons (.str _ _) (.cons (.str _ _) .nil)) ?_
  rw [decide_eq_false (by rcases hp with rfl | rfl | rfl <;> decide)]
  repeat' k_extra "step"
  refine Op2.inK (ss := [Str.ofString "xfx", Str.ofString "xfy", Str.ofString "yfx"]) (by k_extra "part") (fun h => .cons (.str _ _) (.cons (.str _ _) (.cons (.str _ _) .nil))) ?_
  rw [decide_eq_true (by rcases hp with rfl | rfl | rfl <;> simp)]
  repeat' k_extra "step"
  exact h
theorem clsOp : ClsF (Mine.hp.heap_1 g.w.params) 509 := ⟨by k_extra "part", by k_extra "part", by k_extra "part", by k_extra "part", by k_extra "part"⟩
noncomputable abbrev opO (d S pr inf po : Addr) : AObj := .inst 509 d [(Str.ofString "symbols", .ref S), (Str.ofString "prefixes", .ref pr), (Str.ofString "infixes", .ref inf), (Str.ofString "postfixes", .ref po)]
section
variable {H : AH} {O d S pr inf po : Addr} {ty : Str} {p a : Int} {xs : List (Int × AV)} {k x : AV → AH → Prop}
theorem table_pre (hO : H O = some (opO d S pr inf po)) (hp : ty = Str.ofString "fx" ∨ ty = Str.ofString "fy") (h : k (.ref pr) H) : Cal g 2 false 492 [.ref O, .str ty] H k x := by
  refine' Cal.enter (as' := [.ref O, .str ty]) ["self", "type_text"] ?F ?B ?N ?_
  k_extra "enter"
  repeat' k_extra "step"
  refine Cal.at (fixity_pre hp ?_) (Ok.leB (by assumption) rfl)
  repeat' k_extra "step"
  exact h
theorem table_inf (hO : H O = some (opO d S pr inf po)) (hp : ty = Str.ofString "xfx" ∨ ty = Str.ofString "xfy" ∨ ty = Str.ofString "yfx") (h : k (.ref inf) H) : Cal g 2 false 492 [.ref O, .str ty] H k x := by
  refine' Cal.enter (as' := [.ref O, .str ty]) ["self", "type_text"] ?F ?B ?N ?_
  k_extra "enter"
  repeat' k_extra "step"
  refine Cal.at (fixity_inf hp ?_) (Ok.leB (by assumption) rfl)
  repeat' k_extra "step"
  exact h
theorem w9a : True := by
  (k_with "w9a" =>
    first
      | (with_reducible show OpL ..
         first
          | k_extra "call"
          | refine Cal.at (table_pre (by k_extra "thing") (by assumption) ?_) (Ok.leB (by assumption) rfl)
          | refine Cal.at (table_inf (by k_extra "thing") (by assumption) ?_) (Ok.leB (by assumption) rfl))
      | k_extra "step")
  trivial
theorem add_pre (hO : H O = some (opO d S pr inf po)) (hT : H pr = some (.dictI xs)) (hz : xs.length ≤ 100000) (h0 : 0 < p) (hp : ty = Str.ofString "fx" ∨ ty = Str.ofString "fy") (h : k .none (upd H pr (.dictI (putA xs a (.tup [.int p, .str ty]))))) : Cal g 3 false 499 [.ref O, .int p, .str ty, .int a] H k x := by
  refine' Cal.enter (as' := [.ref O, .int p, .str ty, .int a]) ["self", "priority", "type_text", "a"] ?F ?B ?N ?_
  k_extra "enter"
  repeat' k_extra "w9a"
  refine OpS.dI (by k_extra "thing") (by lia) ?_
  repeat' k_extra "w9a"
  exact h
theorem add_inf (hO : H O = some (opO d S pr inf po)) (hT : H inf = some (.dictI xs)) (hz : xs.length ≤ 100000) (h0 : 0 < p) (hp : ty = Str.ofString "xfx" ∨ ty = Str.ofString "xfy" ∨ ty = Str.ofString "yfx") (h : k .none (upd H inf (.dictI (putA xs a (.tup [.int p, .str ty]))))) : Cal g 3 false 499 [.ref O, .int p, .str ty, .int a] H k x := by
  refine' Cal.enter (as' := [.ref O, .int p, .str ty, .int a]) ["self", "priority", "type_text", "a"] ?F ?B ?N ?_
  k_extra "enter"
  repeat' k_extra "w9a"
  refine OpS.dI (by k_extra "thing") (by lia) ?_
  repeat' k_extra "w9a"
  exact h
end
noncomputable def rowOf (v : AV) : Int × Str × List Str := (intOf ((itsOf v)[0]?.getD .none), strOf ((itsOf v)[1]?.getD .none), (itsOf ((itsOf v)[2]?.getD .none)).map strOf)
noncomputable def rowAV (r : Int × Str × List Str) : AV := .tup [.int r.1, .str r.2.1, .tup (r.2.2.map .str)]
noncomputable def RowOk (r : Int × Str × List Str) : Prop := 0 < r.1 ∧ (r.2.1 = Str.ofString "fx" ∨ r.2.1 = Str.ofString "fy" ∨ r.2.1 = Str.ofString "xfx" ∨ r.2.1 = Str.ofString "xfy" ∨ r.2.1 = Str.ofString "yfx") ∧ (∀ u ∈ r.2.2, u ≠ Str.ofString ",") ∧ r.2.2.length ≤ 100
noncomputable instance (r : Int × Str × List Str) : Decidable (RowOk r) := by unfold RowOk; infer_instance
theorem standard_rows_ex : ∃ av : List AV, (∀ {g : Gd Mine.hp.heap_1} {H : AH} {k x : AV → AH → Prop}, k (.tup av) H → Cal g 1 false 421 [] H k x) ∧ av = (av.map rowOf).map rowAV ∧ (∀ r ∈ av.map rowOf, RowOk r) ∧ av.length ≤ 100 := by
  refine' ⟨_, ?_, ?_⟩
  rotate_left
  · intro g H k x h
    refine' Cal.enter (as' := []) [] ?F ?B ?N ?_
    k_extra "enter"
    with_reducible refine Exs.cons ?_
    with_reducible refine Ex.ret ?_
    refine' (Pu.tup ?pu ?hz).1 ?hq
    rotate_left
    (case pu => (repeat' (with_reducible first | exact Pu.str | exact Pu.int | exact Pu.bool | refine' PuL.cons ?_ ?_ | exact PuL.nil | refine' Pu.tup ?_ ?_)); all_goals rfl)
    (case hz => rfl)
    repeat' k_extra "w9a"
    exact h
  exact ⟨rfl, by decide +kernel, Nat.le_of_ble_eq_true rfl⟩
noncomputable def flagOf (v : AV) : Str × Str × List Str × Bool := (strOf ((itsOf v)[0]?.getD .none), strOf ((itsOf v)[1]?.getD .none), (itsOf ((itsOf v)[2]?.getD .none)).map strOf, match (itsOf v)[3]?.getD .none with | .bool b => b | _ => false)
noncomputable def flagAV (r : Str × Str × List Str × Bool) : AV := .tup [.str r.1, .str r.2.1, .tup (r.2.2.1.map .str), .bool r.2.2.2]
theorem flag_rows_ex : ∃ av : List AV, (∀ {g : Gd Mine.hp.heap_1} {H : AH} {k x : AV → AH → Prop}, k (.tup av) H → Cal g 1 false 428 [] H k x) ∧ av = (av.map flagOf).map flagAV ∧ (Str.ofString "double_quotes") ∈ (av.map flagOf).map (·.1) ∧ av.length ≤ 100 := by
  refine' ⟨_, ?_, ?_⟩
  rotate_left
  · intro g H k x h
    refine' Cal.enter (as' := []) [] ?F ?B ?N ?_
    k_extra "enter"
    with_reducible refine Exs.cons ?_
    with_reducible refine Ex.ret ?_
    refine' (Pu.tup ?pu ?hz).1 ?hq
    rotate_left
    (case pu => (repeat' (with_reducible first | exact Pu.str | exact Pu.int | exact Pu.bool | refine' PuL.cons ?_ ?_ | exact PuL.nil | refine' Pu.tup ?_ ?_)); all_goals rfl)
    (case hz => rfl)
    repeat' k_extra "w9a"
    exact h
  exact ⟨rfl, by decide +kernel, Nat.le_of_ble_eq_true rfl⟩
end
end

section
section
variable {g : Gd Mine.hp.heap_1}
theorem getA_put_ne {K : Type} [DecidableEq K] {k k' : K} {v : AV} (n : k ≠ k') : ∀ (xs : List (K × AV)), getA (putA xs k v) k' = getA xs k' := by
  intro xs
  unfold putA
  split
  · induction xs with
    | nil => rfl
    | cons p xs ih =>
      unfold getA at ih ⊢
      by_cases q : p.1 = k
      · simp only [List.map_cons, q, if_true, List.find?_cons, decide_eq_false n]
        rename_i h
        by_cases h' : (xs.any fun kv => decide (kv.1 = k)) = true
        · have := ih h'
          exact this
        · have e : xs.map (fun kv => if kv.1 = k then (kv.1, v) else kv) = xs := by
            conv => rhs; rw [← List.map_id xs]
            refine List.map_congr_left fun y hy => if_neg fun e => h' (List.any_eq_true.mpr ⟨y, hy, decide_eq_true e⟩)
          rw [e]
      · rename_i h
        simp only [List.any_cons, q, decide_false, Bool.false_or] at h
        have := ih h
        simp only [List.map_cons, q, if_false, List.find?_cons]
        split
        · rfl
        · exact this
  · unfold getA
    rw [List.find?_append]
    simp [n]
theorem posA_ne {l : List Str} {i : Nat} {u c : Str} (h : l[i]? = some c) (n : u ≠ c) : posA l u ≠ i := fun e => by
  unfold posA at e
  have hlt := (List.getElem?_eq_some_iff.mp h).1
  have := List.getElem_idxOf (x := u) (xs := l) (by lia)
  obtain ⟨_, h2⟩ := List.getElem?_eq_some_iff.mp h
  subst e
  exact n (this.symm.trans h2)
/-- kept, but for two -/
noncomputable def KeepB (a b : Addr) (H H' : AH) : Prop := ∀ y o, y ≠ a → y ≠ b → H y = some o → H' y = some o
theorem KeepB.putT {H0 H : AH} {tx an : Addr} {ts : List Str} (y : KeepB tx an H0 H) : KeepB tx an H0 (Mine.putT H tx an ts) := fun b o n1 n2 e => (upd_ne n2).trans ((upd_ne n1).trans (y b o n1 n2 e))
theorem KeepB.upd {H0 H : AH} {tx an a : Addr} {o : AObj} (y : KeepB tx an H0 H) (h : H0 a = none) : KeepB tx an H0 (Mine.upd H a o) := fun b o n1 n2 e => (upd_ne (ne_fresh h e)).trans (y b o n1 n2 e)
structure OpI (H0 H : AH) (S dS tx an fn fnn O d pr inf po : Addr) (ts : List Str) (fs : List (List Int)) (xp xi : List (Int × AV)) : Prop where
  y : Sy H S dS tx an fn fnn ts fs
  o : H O = some (opO d S pr inf po)
  p : H pr = some (.dictI xp)
  i : H inf = some (.dictI xi)
  q : H po = some (.dictI [])
  k : KeepB tx an H0 H
  c : ts[7]? = some (Str.ofString ",")
  e : getA xi 7 = some (.tup [.int 1000, .str (Str.ofString "xfy")])
  np : pr ≠ inf
  nq : pr ≠ po
  nr : inf ≠ po
section
variable {H0 H : AH} {S dS tx an fn fnn O d pr inf po : Addr} {ts : List Str} {fs : List (List Int)} {xp xi : List (Int × AV)}
theorem OpI.putT (I : OpI H0 H S dS tx an fn fnn O d pr inf po ts fs xp xi) (u : Str) : OpI H0 (Mine.putT H tx an (addA ts u)) S dS tx an fn fnn O d pr inf po (addA ts u) fs xp xi := by
  obtain ⟨y, h1, h2, h3, h4, h5, h6, h7, h8, h9, h10⟩ := I
  have a1 : O ≠ tx := ne_kind h1 y.t rfl
  have a2 : O ≠ an := ne_kind h1 y.a rfl
  have a3 : pr ≠ tx := ne_kind h2 y.t rfl
  have a4 : pr ≠ an := ne_kind h2 y.a rfl
  have a5 : inf ≠ tx := ne_kind h3 y.t rfl
  have a6 : inf ≠ an := ne_kind h3 y.a rfl
  have a7 : po ≠ tx := ne_kind h4 y.t rfl
  have a8 : po ≠ an := ne_kind h4 y.a rfl
  exact ⟨y.putT _, by k_extra "thing", by k_extra "thing", by k_extra "thing", by k_extra "thing", h5.putT, addA_get h6, h7, h8, h9, h10⟩
theorem OpI.putP (I : OpI H0 H S dS tx an fn fnn O d pr inf po ts fs xp xi) (f : H0 pr = none) (xp' : List (Int × AV)) : OpI H0 (Mine.upd H pr (.dictI xp')) S dS tx an fn fnn O d pr inf po ts fs xp' xi := by
  obtain ⟨⟨y1, y2, y3, y4, y5, y6⟩, h1, h2, h3, h4, h5, h6, h7, h8, h9, h10⟩ := I
  exact ⟨⟨by k_extra "thing", by k_extra "thing", by k_extra "thing", by k_extra "thing", by k_extra "thing", y6⟩, by k_extra "thing", by k_extra "thing", by k_extra "thing", by k_extra "thing", h5.upd f, h6, h7, h8, h9, h10⟩
theorem OpI.putI (I : OpI H0 H S dS tx an fn fnn O d pr inf po ts fs xp xi) (f : H0 inf = none) {a : Int} {v : AV} (ha : a ≠ 7) : OpI H0 (Mine.upd H inf (.dictI (putA xi a v))) S dS tx an fn fnn O d pr inf po ts fs xp (putA xi a v) := by
  obtain ⟨⟨y1, y2, y3, y4, y5, y6⟩, h1, h2, h3, h4, h5, h6, h7, h8, h9, h10⟩ := I
  exact ⟨⟨by k_extra "thing", by k_extra "thing", by k_extra "thing", by k_extra "thing", by k_extra "thing", y6⟩, by k_extra "thing", by k_extra "thing", by k_extra "thing", by k_extra "thing", h5.upd f, h6, (getA_put_ne ha _).trans h7, h8, h9, h10⟩
end
theorem OperatorTable_spec {H : AH} {S dS tx an fn fnn : Addr} {ts : List Str} {fs : List (List Int)} {k x : AV → AH → Prop} (y : Sy H S dS tx an fn fnn ts fs) (h7 : ts[7]? = some (Str.ofString ",")) (hz : ts.length ≤ 3000)
    (h : ∀ O d pr inf po ts' xp xi H', H O = none → H pr = none → H inf = none → H po = none → OpI H H' S dS tx an fn fnn O d pr inf po ts' fs xp xi → ts'.length ≤ 20000 → k (.ref O) H') : Cal g 5 true 509 [.ref S] H k x := by
  refine Cal.make (fI := 457) ⟨by k_extra "part", by k_extra "part", by k_extra "part"⟩ ?_
  intro O d hO hd hne
  obtain ⟨av, hav, eav, hrow, lav⟩ := standard_rows_ex
  refine' Cal.enter (as' := [.ref O, .ref S, .bool true]) ["self", "symbols", "standard"] ?F ?B ?N ?_
  (case F => exact ⟨⟨_, _, _, by k_extra "part"⟩, by k_extra "part"⟩)
  (case B =>
    intro s vs hv K
    obtain ⟨v, w, rfl, h1, h2⟩ := hv.inv2
    exact ⟨[v, w, .bool true], .cons h1 (.cons h2 (VRs.cons (.bool _) .nil)), binds_K K rfl (by k_extra "part") rfl rfl rfl⟩)
  (case N => kernel_rfl)
  intro A L ok
  dsimp only [locOf]
  have hS := y.o
  have nS := ne_fresh hO hS
  have nS' := ne_fresh hd hS
  repeat' k_extra "step"
  refine Ev.dictI (fun pr hpr => ?_)
  repeat' k_extra "step"
  refine Ev.dictI (fun inf hinf => ?_)
  repeat' k_extra "step"
  refine Ev.dictI (fun po hpo => ?_)
  repeat' k_extra "step"
  have p1 := uD hpr
  have p2 := uD (uN (uN hpr))
  have p3 := uN (uN (uN hpr))
  have i1 := uD hinf
  have i2 := uD (uN hinf)
  have i3 := uD (uN (uN (uN (uN hinf))))
  have i4 := uN (uN (uN (uN (uN hinf))))
  have q1 := uD hpo
  have q2 := uD (uN hpo)
  have q3 := uD (uN (uN (uN hpo)))
  have q4 := uD (uN (uN (uN (uN (uN (uN hpo))))))
  have q5 := uN (uN (uN (uN (uN (uN (uN hpo))))))
  refine Cal.at (add_inf (xs := []) (by k_extra "thing") (by k_extra "thing") (Nat.zero_le _) (by decide) (by simp) ?_) (Ok.leB (by assumption) rfl)
  repeat' k_extra "step"
  refine EvIt.val ?_
  repeat' k_extra "step"
  refine Cal.at (hav ?_) (Ok.leB (by assumption) rfl)
  repeat' k_extra "step"
  rw [eav]
  rw [← List.length_map (f := rowOf)] at lav
  generalize av.map rowOf = rows at hrow lav ⊢
  refine (?key : ∀ (rs : List (Int × Str × List Str)) (ts' : List Str) (xp xi : List (Int × AV)) (H' : AH) (ρ : Loc), OpI H H' S dS tx an fn fnn O d pr inf po ts' fs xp xi → (∀ r ∈ rs, RowOk r) → ts'.length + 100 * rs.length ≤ 20000 → xp.length + 100 * rs.length ≤ 20000 → xi.length + 100 * rs.length ≤ 20000 → ρ (Str.ofString "self") = some (.ref O) → ρ (Str.ofString "symbols") = some (.ref S) → ForL g _ _ _ _ _ (rs.map rowAV) ρ H') rows ts [] (putA [] 7 (.tup [.int 1000, .str (Str.ofString "xfy")])) _ _ ?I0 hrow (by lia) (by simp; lia) (by have := putA_len ([] : List (Int × AV)) 7 (.tup [.int 1000, .str (Str.ofString "xfy")]); simp at this; lia) (by k_extra "name") (by k_extra "name")
  case I0 =>
    obtain ⟨y1, y2, y3, y4, y5, y6⟩ := y
    exact ⟨⟨by k_extra "thing", by k_extra "thing", by k_extra "thing", by k_extra "thing", by k_extra "thing", y6⟩, by k_extra "thing", by k_extra "thing", by k_extra "thing", by k_extra "thing", fun b o n1 n2 e => by k_extra "thing", h7, rfl, Ne.symm i2, Ne.symm q3, Ne.symm q2⟩
  intro rs
  induction rs with
  | nil =>
    intro ts' xp xi H' ρ I _ l1 l2 l3 hs hs'
    refine ForL.nil ?_
    repeat' k_extra "step"
    exact ⟨rfl, h O d pr inf po ts' xp xi H' hO p3 i4 q5 I (by simp at l1; lia)⟩
  | cons r rs ih =>
    intro ts' xp xi H' ρ I hr l1 l2 l3 hs hs'
    obtain ⟨r1, r2, r3, r4⟩ := hr r (.head _)
    rw [List.length_cons] at l1 l2 l3
    rw [List.map_cons]
    refine ForL.cons ?_
    show As g _ _ (AV.tup [.int r.1, .str r.2.1, .tup (r.2.2.map .str)]) _ _ _
    repeat' k_extra "step"
    refine EvIt.val ?_
    repeat' k_extra "step"
    refine (?key2 : ∀ (us : List Str) (ts' : List Str) (xp xi : List (Int × AV)) (H' : AH) (ρ : Loc), OpI H H' S dS tx an fn fnn O d pr inf po ts' fs xp xi → (∀ u ∈ us, u ≠ Str.ofString ",") → ts'.length + us.length + 100 * rs.length ≤ 20000 → xp.length + us.length + 100 * rs.length ≤ 20000 → xi.length + us.length + 100 * rs.length ≤ 20000 → ρ (Str.ofString "self") = some (.ref O) → ρ (Str.ofString "symbols") = some (.ref S) → ρ (Str.ofString "priority") = some (.int r.1) → ρ (Str.ofString "type_text") = some (.str r.2.1) → ForL g _ _ _ _ _ (us.map AV.str) ρ H') r.2.2 ts' xp xi _ _ I r3 (by lia) (by lia) (by lia) (by k_extra "name") (by k_extra "name") (by k_extra "name") (by k_extra "name")
    intro us
    induction us with
    | nil =>
      intro ts' xp xi H' ρ I _ l1 l2 l3 hs hs' hs2 hs3
      refine ForL.nil ?_
      repeat' k_extra "step"
      exact turnF_next trivial (ih ts' xp xi H' ρ I (fun q hq => hr q (.tail _ hq)) (by simp at l1; lia) (by simp at l2; lia) (by simp at l3; lia) hs hs')
    | cons u us ih2 =>
      intro ts' xp xi H' ρ I hu l1 l2 l3 hs hs' hs2 hs3
      rw [List.length_cons] at l1 l2 l3
      have iO := I.o
      have iS := I.y.o
      have yy := I.y
      have g1 := addA_len ts' u
      have I2 := I.putT u
      have iO2 := I2.o
      have iP2 := I2.p
      have iI2 := I2.i
      have n7 := posA_ne I.c (hu u (.head _))
      rw [List.map_cons]
      repeat' k_extra "step"
      refine Cal.at (atom_spec I.y (by lia) ?_) (Ok.leB (by assumption) rfl)
      repeat' k_extra "step"
      rcases r2 with r2 | r2 | r2 | r2 | r2
      · refine Cal.at (add_pre iO2 iP2 (by lia) r1 (.inl r2) ?_) (Ok.leB (by assumption) rfl)
        repeat' k_extra "step"
        have g2 := putA_len xp (posA ts' u : Int) (.tup [.int r.1, .str r.2.1])
        exact turnF_next trivial (ih2 _ _ _ _ _ (I2.putP p3 _) (fun q hq => hu q (.tail _ hq)) (by lia) (by lia) (by lia) (by k_extra "name") (by k_extra "name") (by k_extra "name") (by k_extra "name"))
      · refine Cal.at (add_pre iO2 iP2 (by lia) r1 (.inr r2) ?_) (Ok.leB (by assumption) rfl)
        repeat' k_extra "step"
        have g2 := putA_len xp (posA ts' u : Int) (.tup [.int r.1, .str r.2.1])
        exact turnF_next trivial (ih2 _ _ _ _ _ (I2.putP p3 _) (fun q hq => hu q (.tail _ hq)) (by lia) (by lia) (by lia) (by k_extra "name") (by k_extra "name") (by k_extra "name") (by k_extra "name"))
      all_goals
        refine Cal.at (add_inf iO2 iI2 (by lia) r1 (by simp [r2]) ?_) (Ok.leB (by assumption) rfl)
        repeat' k_extra "step"
        have g2 := putA_len xi (posA ts' u : Int) (.tup [.int r.1, .str r.2.1])
        exact turnF_next trivial (ih2 _ _ _ _ _ (I2.putI i4 (by lia)) (fun q hq => hu q (.tail _ hq)) (by lia) (by lia) (by lia) (by k_extra "name") (by k_extra "name") (by k_extra "name") (by k_extra "name"))
end
end

section
section
variable {g : Gd Mine.hp.heap_1}
theorem clsFlags : ClsF (Mine.hp.heap_1 g.w.params) 565 := ⟨by k_extra "part", by k_extra "part", by k_extra "part", by k_extra "part", by k_extra "part"⟩
theorem getA_put_same {K : Type} [DecidableEq K] {k : K} {v : AV} (xs : List (K × AV)) : getA (putA xs k v) k = some v := by
  unfold putA
  split
  · rename_i h
    induction xs with
    | nil => cases h
    | cons p xs ih =>
      unfold getA at ih ⊢
      by_cases q : p.1 = k
      · simp only [List.map_cons, q, if_true, List.find?_cons, decide_true, Option.map_some]
      · simp only [List.any_cons, q, decide_false, Bool.false_or] at h
        simp only [List.map_cons, q, if_false, List.find?_cons, decide_false]
        exact ih h
  · rename_i h
    unfold getA
    rw [List.find?_append]
    have e : xs.find? (fun kv => decide (kv.1 = k)) = none := by
      rw [List.find?_eq_none]
      intro y hy e
      exact h (List.any_eq_true.mpr ⟨y, hy, e⟩)
    rw [e]
    simp
theorem posA_lt {l : List Str} {u : Str} : posA l u < (addA l u).length := by
  unfold addA posA
  split
  · exact List.idxOf_lt_length_iff.mpr (by assumption)
  · rw [List.idxOf_eq_length (by assumption)]; simp
noncomputable abbrev flO (d S va fi fx : Addr) : AObj := .inst 565 d [(Str.ofString "symbols", .ref S), (Str.ofString "values", .ref va), (Str.ofString "fitting", .ref fi), (Str.ofString "fixed", .ref fx)]
structure FlI (H0 H : AH) (S dS tx an fn fnn F d va fi fx : Addr) (ts : List Str) (fs : List (List Int)) (xv : List (Str × AV)) (yf : List (Str × AV)) (zf : List AV) (seen : List Str) : Prop where
  y : Sy H S dS tx an fn fnn ts fs
  o : H F = some (flO d S va fi fx)
  v : H va = some (.dictS xv)
  f : H fi = some (.dictS yf)
  x : H fx = some (.list zf)
  k : KeepB tx an H0 H
  g : ∀ u ∈ seen, ∃ i : Nat, getA xv u = some (.int i) ∧ i < ts.length
  n1 : va ≠ fi
  n2 : va ≠ an
  n3 : fi ≠ an
  n4 : fx ≠ tx
  n5 : fx ≠ fn
section
variable {H0 H : AH} {S dS tx an fn fnn F d va fi fx : Addr} {ts : List Str} {fs : List (List Int)} {xv yf : List (Str × AV)} {zf : List AV} {seen : List Str}
theorem FlI.turn (I : FlI H0 H S dS tx an fn fnn F d va fi fx ts fs xv yf zf seen) (h1 : H0 va = none) (h2 : H0 fi = none) (u s : Str) (w : AV) :
    FlI H0 (upd (upd (putT H tx an (addA ts s)) va (.dictS (putA xv u (.int (posA ts s : Nat))))) fi (.dictS (putA yf u w))) S dS tx an fn fnn F d va fi fx (addA ts s) fs (putA xv u (.int (posA ts s : Nat))) (putA yf u w) zf (u :: seen) := by
  obtain ⟨⟨y1, y2, y3, y4, y5, y6⟩, b1, b2, b3, b4, b5, b6, b7, b8, b9, b10, b11⟩ := I
  have a1 : F ≠ tx := ne_kind b1 y2 rfl
  have a2 : F ≠ an := ne_kind b1 y3 rfl
  have a3 : F ≠ va := ne_kind b1 b2 rfl
  have a4 : F ≠ fi := ne_kind b1 b3 rfl
  have a5 : S ≠ tx := ne_kind y1 y2 rfl
  have a6 : S ≠ an := ne_kind y1 y3 rfl
  have a7 : S ≠ va := ne_kind y1 b2 rfl
  have a8 : S ≠ fi := ne_kind y1 b3 rfl
  have a9 : tx ≠ an := ne_kind y2 y3 rfl
  have a10 : tx ≠ va := ne_kind y2 b2 rfl
  have a11 : tx ≠ fi := ne_kind y2 b3 rfl
  have a12 : fn ≠ an := ne_kind y4 y3 rfl
  have a13 : fn ≠ va := ne_kind y4 b2 rfl
  have a14 : fn ≠ fi := ne_kind y4 b3 rfl
  have a15 : fnn ≠ tx := ne_kind y5 y2 rfl
  have a16 : fnn ≠ an := ne_kind y5 y3 rfl
  have a17 : fnn ≠ va := ne_kind y5 b2 rfl
  have a18 : fnn ≠ fi := ne_kind y5 b3 rfl
  have a19 : fx ≠ an := ne_kind b4 y3 rfl
  have a20 : fx ≠ va := ne_kind b4 b2 rfl
  have a21 : fx ≠ fi := ne_kind b4 b3 rfl
  refine ⟨⟨by k_extra "thing", by k_extra "thing", by k_extra "thing", by k_extra "thing", by k_extra "thing", y6⟩, by k_extra "thing", by k_extra "thing", by k_extra "thing", by k_extra "thing", (b5.putT.upd h1).upd h2, fun z hz => ?_, b7, b8, b9, b10, b11⟩
  by_cases q : u = z
  · subst q
    exact ⟨_, getA_put_same _, posA_lt⟩
  · rw [getA_put_ne q]
    rcases List.mem_cons.mp hz with e | hz
    · exact absurd e.symm q
    · obtain ⟨i, e1, e2⟩ := b6 z hz
      exact ⟨i, e1, Nat.lt_of_lt_of_le e2 (addA_ge _ _)⟩
theorem FlI.app (I : FlI H0 H S dS tx an fn fnn F d va fi fx ts fs xv yf zf seen) (h1 : H0 fx = none) (w : AV) :
    FlI H0 (upd H fx (.list (zf ++ [w]))) S dS tx an fn fnn F d va fi fx ts fs xv yf (zf ++ [w]) seen := by
  obtain ⟨⟨y1, y2, y3, y4, y5, y6⟩, b1, b2, b3, b4, b5, b6, b7, b8, b9, b10, b11⟩ := I
  exact ⟨⟨by k_extra "thing", by k_extra "thing", by k_extra "thing", by k_extra "thing", by k_extra "thing", y6⟩, by k_extra "thing", by k_extra "thing", by k_extra "thing", by k_extra "thing", b5.upd h1, b6, b7, b8, b9, b10, b11⟩
end
theorem Flags_spec {H : AH} {S dS tx an fn fnn : Addr} {ts : List Str} {fs : List (List Int)} {k x : AV → AH → Prop} (y : Sy H S dS tx an fn fnn ts fs) (hz : ts.length ≤ 30000)
    (h : ∀ F d va fi fx ts' xv yf zf seen H', H F = none → H va = none → H fi = none → H fx = none → FlI H H' S dS tx an fn fnn F d va fi fx ts' fs xv yf zf seen → ts'.length ≤ 40000 → (Str.ofString "double_quotes") ∈ seen → k (.ref F) H') : Cal g 5 true 565 [.ref S] H k x := by
  refine Cal.make (fI := 527) ⟨by k_extra "part", by k_extra "part", by k_extra "part"⟩ ?_
  intro F d hF hd hne
  obtain ⟨av, hav, eav, hdq, lav⟩ := flag_rows_ex
  refine' Cal.enter (as' := [.ref F, .ref S]) ["self", "symbols"] ?F ?B ?N ?_
  k_extra "enter"
  have hS := y.o
  repeat' k_extra "step"
  refine Ev.dictS (fun va hva => ?_)
  repeat' k_extra "step"
  refine Ev.dictS (fun fi hfi => ?_)
  repeat' k_extra "step"
  intro fx hfx
  repeat' k_extra "step"
  refine EvIt.val ?_
  repeat' k_extra "step"
  refine Cal.at (hav ?_) (Ok.leB (by assumption) rfl)
  repeat' k_extra "step"
  have p1 := uD hva
  have p2 := uD (uN (uN hva))
  have p3 := uN (uN (uN hva))
  have i1 := uD hfi
  have i2 := uD (uN hfi)
  have i3 := uD (uN (uN (uN (uN hfi))))
  have i4 := uN (uN (uN (uN (uN hfi))))
  have q1 := uD hfx
  have q2 := uD (uN hfx)
  have q3 := uD (uN (uN (uN hfx)))
  have q4 := uD (uN (uN (uN (uN (uN (uN hfx))))))
  have q5 := uN (uN (uN (uN (uN (uN (uN hfx))))))
  rw [eav]
  rw [← List.length_map (f := flagOf)] at lav
  generalize av.map flagOf = rows at hdq lav ⊢
  refine (?key : ∀ (rs : List (Str × Str × List Str × Bool)) (ts' : List Str) (xv yf : List (Str × AV)) (zf : List AV) (seen : List Str) (H' : AH) (ρ : Loc), FlI H H' S dS tx an fn fnn F d va fi fx ts' fs xv yf zf seen → (Str.ofString "double_quotes" ∈ rs.map (·.1) ∨ Str.ofString "double_quotes" ∈ seen) → ts'.length + rs.length ≤ 40000 → xv.length + rs.length ≤ 40000 → yf.length + rs.length ≤ 40000 → zf.length + rs.length ≤ 40000 → ρ (Str.ofString "self") = some (.ref F) → ρ (Str.ofString "symbols") = some (.ref S) → ForL g _ _ _ _ _ (rs.map flagAV) ρ H') rows ts [] [] [] [] _ _ ?I0 (.inl hdq) (by lia) (by simp; lia) (by simp; lia) (by simp; lia) (by k_extra "name") (by k_extra "name")
  case I0 =>
    obtain ⟨y1, y2, y3, y4, y5, y6⟩ := y
    refine ⟨⟨by k_extra "thing", by k_extra "thing", by k_extra "thing", by k_extra "thing", by k_extra "thing", y6⟩, by k_extra "thing", by k_extra "thing", by k_extra "thing", by k_extra "thing", fun b o n1 n2 e => by k_extra "thing", (fun _ h => nomatch h), Ne.symm i2, Ne.symm (ne_fresh p3 y3), Ne.symm (ne_fresh i4 y3), Ne.symm (ne_fresh q5 y2), Ne.symm (ne_fresh q5 y4)⟩
  intro rs
  induction rs with
  | nil =>
    intro ts' xv yf zf seen H' ρ I hm l1 l2 l3 l4 hs hs'
    refine ForL.nil ?_
    repeat' k_extra "step"
    exact ⟨rfl, h F d va fi fx ts' xv yf zf seen H' hF p3 i4 q5 I (by simp at l1; lia) (by simpa using hm)⟩
  | cons r rs ih =>
    intro ts' xv yf zf seen H' ρ I hm l1 l2 l3 l4 hs hs'
    rw [List.length_cons] at l1 l2 l3 l4
    have iF := I.o
    have iS := I.y.o
    have iv := I.v
    have if' := I.f
    have g1 := addA_len ts' r.2.1
    have I2 := I.turn p3 i4 r.1 r.2.1 (.tup (r.2.2.1.map .str))
    have iF2 := I2.o
    have ix2 := I2.x
    have a1 : F ≠ tx := ne_kind iF I.y.t rfl
    have a2 : F ≠ an := ne_kind iF I.y.a rfl
    have a3 : F ≠ va := ne_kind iF iv rfl
    have a4 : F ≠ fi := ne_kind iF if' rfl
    have a10 : va ≠ tx := ne_kind iv I.y.t rfl
    have a11 : fi ≠ tx := ne_kind if' I.y.t rfl
    have n1 := I.n1
    have n2 := I.n2
    have n3 := I.n3
    have g2 := putA_len xv r.1 (.int (posA ts' r.2.1 : Nat))
    have g3 := putA_len yf r.1 (.tup (r.2.2.1.map .str))
    rw [List.map_cons]
    refine ForL.cons ?_
    show As g _ _ (AV.tup [.str r.1, .str r.2.1, .tup (r.2.2.1.map .str), .bool r.2.2.2]) _ _ _
    repeat' k_extra "step"
    refine Cal.at (atom_spec I.y (by lia) ?_) (Ok.leB (by assumption) rfl)
    repeat' k_extra "step"
    refine OpS.dS (by k_extra "thing") (by lia) ?_
    repeat' k_extra "step"
    refine OpS.dS (by k_extra "thing") (by lia) ?_
    repeat' k_extra "step"
    have hm' : Str.ofString "double_quotes" ∈ rs.map (·.1) ∨ Str.ofString "double_quotes" ∈ r.1 :: seen := by
      rw [List.map_cons, List.mem_cons] at hm
      rcases hm with (e | e) | e
      · exact .inr (e ▸ .head _)
      · exact .inl e
      · exact .inr (.tail _ e)
    generalize r.2.2.2 = free
    cases free with
    | true =>
      rw [if_neg (by decide)]
      repeat' k_extra "step"
      exact turnF_next trivial (ih _ _ _ _ _ _ _ I2 hm' (by lia) (by lia) (by lia) (by lia) (by k_extra "name") (by k_extra "name"))
    | false =>
      rw [if_pos (by decide)]
      revert I2 iF2 ix2
      generalize (upd (upd (putT H' tx an (addA ts' r.2.1)) va (AObj.dictS (putA xv r.1 (AV.int (posA ts' r.2.1 : Nat))))) fi (AObj.dictS (putA yf r.1 (AV.tup (List.map AV.str r.2.2.1))))) = H2
      intro I2 iF2 ix2
      repeat' k_extra "step"
      exact turnF_next trivial (ih _ _ _ _ _ _ _ (I2.app q5 _) hm' (by lia) (by lia) (by lia) (by simp; lia) (by k_extra "name") (by k_extra "name"))
section
variable {H : AH} {n : Int} {k x : AV → AH → Prop}
theorem var_spec (h : k (.tup [.str (Str.ofString "v"), .int n]) H) : Cal g 1 false 382 [.int n] H k x := by
  refine' Cal.enter (as' := [.int n]) ["number"] ?F ?B ?N ?_
  k_extra "enter"
  repeat' k_extra "step"
  exact h
theorem atomT_spec (h : k (.tup [.str (Str.ofString "a"), .int n]) H) : Cal g 1 false 389 [.int n] H k x := by
  refine' Cal.enter (as' := [.int n]) ["number"] ?F ?B ?N ?_
  k_extra "enter"
  repeat' k_extra "step"
  exact h
theorem struct_spec {us : List AV} (h : k (.tup [.str (Str.ofString "s"), .int n, .tup us]) H) : Cal g 1 false 403 [.int n, .tup us] H k x := by
  refine' Cal.enter (as' := [.int n, .tup us]) ["functor", "args"] ?F ?B ?N ?_
  k_extra "enter"
  repeat' k_extra "step"
  refine OpL.tupleT ?_
  repeat' k_extra "step"
  exact h
end
end
end

section
section
variable {g : Gd Mine.hp.heap_1}
/-! the parser -/
noncomputable def KeepL (l : List Addr) (H H' : AH) : Prop := ∀ b o, b ∉ l → H b = some o → H' b = some o
theorem KeepL.refl (l : List Addr) (H : AH) : KeepL l H H := fun _ _ _ e => e
theorem KeepL.trans {l : List Addr} {H H' H'' : AH} (x : KeepL l H H') (y : KeepL l H' H'') : KeepL l H H'' := fun b o n e => y b o n (x b o n e)
theorem KeepL.mono {l l' : List Addr} {H H' : AH} (x : KeepL l H H') (s : ∀ a ∈ l, a ∈ l') : KeepL l' H H' := fun b o n e => x b o (fun h => n (s b h)) e
theorem KeepL.upd {l : List Addr} {H H' : AH} {a : Addr} {o : AObj} (x : KeepL l H H') (h : a ∈ l) : KeepL l H (Mine.upd H' a o) := fun b ob n e => (upd_ne fun q => n (by rw [q]; exact h)).trans (x b ob n e)
theorem KeepL.fresh {l : List Addr} {H H' : AH} {a : Addr} {o : AObj} (x : KeepL l H H') (h : H a = none) : KeepL l H (Mine.upd H' a o) := fun b ob n e => (upd_ne (ne_fresh h e)).trans (x b ob n e)
structure PA where
  P : Addr
  d : Addr
  S : Addr
  dS : Addr
  tx : Addr
  an : Addr
  fn : Addr
  fnn : Addr
  O : Addr
  dO : Addr
  pr : Addr
  inf : Addr
  po : Addr
  tl : Addr
  fr : Addr
  nu : Addr
  nm : Addr
  co : Addr
  mode : AV
noncomputable abbrev parserO (a : PA) (pl lim pri nn : Int) (term : AV) : AObj := .inst 796 a.d [(Str.ofString "symbols", .ref a.S), (Str.ofString "operators", .ref a.O), (Str.ofString "mode", a.mode), (Str.ofString "tokens", .ref a.tl), (Str.ofString "place", .int pl), (Str.ofString "frames", .ref a.fr), (Str.ofString "limit", .int lim), (Str.ofString "term", term), (Str.ofString "priority", .int pri), (Str.ofString "numbers", .ref a.nu), (Str.ofString "names", .ref a.nm), (Str.ofString "counts", .ref a.co), (Str.ofString "next_number", .int nn)]
noncomputable abbrev frameO (d : Addr) (kind : Str) (lim fc name pri : Int) (left : AV) (il : Addr) : AObj := .inst 588 d [(Str.ofString "kind", .str kind), (Str.ofString "limit", .int lim), (Str.ofString "functor", .int fc), (Str.ofString "name", .int name), (Str.ofString "priority", .int pri), (Str.ofString "left", left), (Str.ofString "items", .ref il)]
noncomputable abbrev tk (kind text : Str) (p : Int) : AV := .tup [.str kind, .str text, .int p]
theorem clsFrame : ClsF (Mine.hp.heap_1 g.w.params) 588 := ⟨by k_extra "part", by k_extra "part", by k_extra "part", by k_extra "part", by k_extra "part"⟩
theorem clsParser : ClsF (Mine.hp.heap_1 g.w.params) 796 := ⟨by k_extra "part", by k_extra "part", by k_extra "part", by k_extra "part", by k_extra "part"⟩
theorem Frame_spec {H : AH} {kind : Str} {lim : Int} {k x : AV → AH → Prop} (h : ∀ f d il H', H f = none → H d = none → H il = none → Keep H H' → H' f = some (frameO d kind lim (-1) (-1) 0 .none il) → H' il = some (.list []) → k (.ref f) H') : Cal g 2 false 588 [.str kind, .int lim] H k x := by
  refine Cal.make (fI := 585) ⟨by k_extra "part", by k_extra "part", by k_extra "part"⟩ ?_
  intro f d hf hd hne
  refine' Cal.enter (as' := [.ref f, .str kind, .int lim]) ["self", "kind", "limit"] ?F ?B ?N ?_
  k_extra "enter"
  repeat' k_extra "step"
  intro il hil
  repeat' k_extra "step"
  simp only [upd_none] at hil
  obtain ⟨n1, -, -, -, -, -, -, n2, hil⟩ := hil
  exact ⟨rfl, h f d il _ hf hd hil (fun b o e => by k_extra "thing") (by k_extra "thing") (by k_extra "thing")⟩
section
variable {H : AH} {a : PA} {toks : List AV} {pl lim pri nn : Int} {term tok : AV} {u kd : Str} {p : Int} {frs : List AV} {k x : AV → AH → Prop}
theorem peek_spec (hP : H a.P = some (parserO a pl lim pri nn term)) (hT : H a.tl = some (.list toks)) (h0 : 0 ≤ pl) (hz : pl < 2 ^ 40) (ht : toks[pl.toNat]? = some tok) (h : k tok H) : Cal g 1 false 648 [.ref a.P] H k x := by
  refine' Cal.enter (as' := [.ref a.P]) ["self"] ?F ?B ?N ?_
  k_extra "enter"
  repeat' k_extra "step"
  refine Op2.itemL (by k_extra "thing") h0 (by lia) ht ?_
  repeat' k_extra "step"
  exact h
theorem take_spec (hP : H a.P = some (parserO a pl lim pri nn term)) (hT : H a.tl = some (.list toks)) (h0 : 0 ≤ pl) (hz : pl < 2 ^ 40) (ht : toks[pl.toNat]? = some tok) (h : k tok (upd H a.P (parserO a (pl + 1) lim pri nn term))) : Cal g 1 false 655 [.ref a.P] H k x := by
  refine' Cal.enter (as' := [.ref a.P]) ["self"] ?F ?B ?N ?_
  k_extra "enter"
  repeat' k_extra "step"
  refine Op2.itemL (by k_extra "thing") h0 (by lia) ht ?_
  repeat' k_extra "step"
  exact h
theorem settle_spec {pri' : Int} {term' : AV} (hP : H a.P = some (parserO a pl lim pri nn term)) (h : k (.int 1) (upd H a.P (parserO a pl lim pri' nn term'))) : Cal g 1 false 683 [.ref a.P, term', .int pri'] H k x := by
  refine' Cal.enter (as' := [.ref a.P, term', .int pri']) ["self", "term", "priority"] ?F ?B ?N ?_
  k_extra "enter"
  repeat' k_extra "step"
  rw [upd_upd]
  exact h
theorem enter_spec {kind : Str} {name most : Int} (hP : H a.P = some (parserO a pl lim pri nn term)) (hF : H a.fr = some (.list frs)) (hz : frs.length ≤ 100000)
    (h : ∀ f d il H', H f = none → H il = none → KeepL [a.P, a.fr] H H' → H' a.P = some (parserO a pl most pri nn term) → H' a.fr = some (.list (frs ++ [.ref f])) → H' f = some (frameO d kind lim (-1) name 0 .none il) → H' il = some (.list []) → k (.int 0) H') : Cal g 3 false 690 [.ref a.P, .str kind, .int name, .int most] H k x := by
  refine' Cal.enter (as' := [.ref a.P, .str kind, .int name, .int most]) ["self", "kind", "name", "most"] ?F ?B ?N ?_
  k_extra "enter"
  repeat' k_extra "step"
  refine Cal.at (Frame_spec ?_) (Ok.leB (by assumption) rfl)
  intro f d il H' hf hd hil kp hf' hil'
  have hP' := kp _ _ hP
  have hF' := kp _ _ hF
  have n1 : a.P ≠ f := ne_fresh hf hP
  have n2 : a.fr ≠ f := ne_fresh hf hF
  have n3 : a.P ≠ il := ne_fresh hil hP
  have n4 : a.fr ≠ il := ne_fresh hil hF
  have n5 : a.P ≠ a.fr := ne_kind hP hF rfl
  have n6 : f ≠ il := ne_kind hf' hil' rfl
  repeat' k_extra "step"
  refine h f d il _ hf hil (fun b o nb e => ?_) (by k_extra "thing") (by k_extra "thing") (by k_extra "thing") (by k_extra "thing")
  have m1 : b ≠ a.P := fun q => nb (q ▸ .head _)
  have m2 : b ≠ a.fr := fun q => nb (q ▸ .tail _ (.head _))
  have m3 := ne_fresh hf e
  have m4 := kp _ _ e
  k_extra "thing"
theorem is_punct_spec {v : Str} (h : k (.bool (decide (kd = Str.ofString "punct" ∧ u = v))) H) : Cal g 1 false 613 [tk kd u p, .str v] H k x := by
  refine' Cal.enter (as' := [tk kd u p, .str v]) ["token", "text"] ?F ?B ?N ?_
  k_extra "enter"
  repeat' k_extra "step"
  all_goals k_extra "same"
end
end
end

section
section
variable {g : Gd Mine.hp.heap_1}
section
variable {H : AH} {a : PA} {toks : List AV} {pl lim pri nn : Int} {term tok : AV} {u kd : Str} {p : Int} {frs : List AV} {k x : AV → AH → Prop}
theorem w13a : True := by
  (k_with "w13a" =>
    first
      | (with_reducible show OpL ..
         first
          | k_extra "call"
          | refine Cal.at (is_punct_spec ?_) (Ok.leB (by assumption) rfl)
          | refine Cal.at (var_spec ?_) (Ok.leB (by assumption) rfl)
          | refine Cal.at (peek_spec (by k_extra "thing") (by k_extra "thing") (by lia) (by lia) (by assumption) ?_) (Ok.leB (by assumption) rfl)
          | refine Cal.at (take_spec (by k_extra "thing") (by k_extra "thing") (by lia) (by lia) (by assumption) ?_) (Ok.leB (by assumption) rfl))
      | k_extra "step")
  trivial
theorem operator_name_comma (h : k (.int 7) H) : Cal g 2 false 737 [.ref a.P, tk (Str.ofString "punct") (Str.ofString ",") p] H k x := by
  refine' Cal.enter (as' := [.ref a.P, tk (Str.ofString "punct") (Str.ofString ",") p]) ["self", "token"] ?F ?B ?N ?_
  k_extra "enter"
  repeat' k_extra "w13a"
  exact h
theorem operator_name_other (h1 : kd = Str.ofString "punct" ∨ kd = Str.ofString "end") (h2 : u ≠ Str.ofString ",") (h3 : u ≠ Str.ofString "|") (h : k (.int (-1)) H) : Cal g 2 false 737 [.ref a.P, tk kd u p] H k x := by
  refine' Cal.enter (as' := [.ref a.P, tk kd u p]) ["self", "token"] ?F ?B ?N ?_
  k_extra "enter"
  have e1 : kd ≠ Str.ofString "name" := by rcases h1 with rfl | rfl <;> decide
  have e2 : kd ≠ Str.ofString "qname" := by rcases h1 with rfl | rfl <;> decide
  repeat' k_extra "w13a"
  · rename_i hc; exact absurd hc.2 h2
  · rename_i hc; exact absurd hc.2 h3
  · exact h
/-- a variable met before -/
theorem variable_old {nums : List (Str × AV)} {counts : List (Int × AV)} {n c : Int} (hP : H a.P = some (parserO a pl lim pri nn term)) (hu : u ≠ Str.ofString "_") (hN : H a.nu = some (.dictS nums)) (hC : H a.co = some (.dictI counts)) (en : getA nums u = some (.int n)) (ec : getA counts n = some (.int c)) (hz : counts.length ≤ 100000)
    (h : k (.tup [.str (Str.ofString "v"), .int n]) (upd H a.co (.dictI (putA counts n (.int (c + 1)))))) : Cal g 2 false 725 [.ref a.P, .str u] H k x := by
  refine' Cal.enter (as' := [.ref a.P, .str u]) ["self", "text"] ?F ?B ?N ?_
  k_extra "enter"
  repeat' k_extra "w13a"
  all_goals try (rename_i hc; exact absurd hc hu)
  all_goals (try rw [en])
  rw [if_pos (show (some (AV.int n)).isSome = true from rfl)]
  repeat' k_extra "w13a"
  refine Op2.itemDS (by k_extra "thing") en ?_
  repeat' k_extra "w13a"
  refine Op2.itemDI (by k_extra "thing") ec ?_
  repeat' k_extra "w13a"
  refine OpS.dI (by k_extra "thing") (by lia) ?_
  repeat' k_extra "w13a"
  exact h
/-- a new one -/
theorem variable_new {nums : List (Str × AV)} {counts : List (Int × AV)} {names : List AV} (hP : H a.P = some (parserO a pl lim pri nn term)) (hu : u ≠ Str.ofString "_") (hN : H a.nu = some (.dictS nums)) (hC : H a.co = some (.dictI counts)) (hM : H a.nm = some (.list names)) (en : getA nums u = none) (hz : counts.length ≤ 100000) (hz2 : nums.length ≤ 100000) (hz3 : names.length ≤ 100000)
    (h : k (.tup [.str (Str.ofString "v"), .int nn]) (upd (upd (upd (upd H a.P (parserO a pl lim pri (nn + 1) term)) a.nu (.dictS (putA nums u (.int nn)))) a.co (.dictI (putA counts nn (.int 1)))) a.nm (.list (names ++ [.tup [.str u, .int nn]])))) : Cal g 2 false 725 [.ref a.P, .str u] H k x := by
  refine' Cal.enter (as' := [.ref a.P, .str u]) ["self", "text"] ?F ?B ?N ?_
  k_extra "enter"
  have n1 : a.P ≠ a.nu := ne_kind hP hN rfl
  have n2 : a.P ≠ a.co := ne_kind hP hC rfl
  have n3 : a.nu ≠ a.co := ne_kind hN hC rfl
  have n4 : a.P ≠ a.nm := ne_kind hP hM rfl
  have n5 : a.nu ≠ a.nm := ne_kind hN hM rfl
  have n6 : a.co ≠ a.nm := ne_kind hC hM rfl
  repeat' k_extra "w13a"
  all_goals try (rename_i hc; exact absurd hc hu)
  all_goals (try rw [en])
  rw [if_neg (show ¬ (none : Option AV).isSome = true from Bool.false_ne_true)]
  repeat' k_extra "w13a"
  refine OpS.dS (by k_extra "thing") (by lia) ?_
  repeat' k_extra "w13a"
  refine OpS.dI (by k_extra "thing") (by lia) ?_
  repeat' k_extra "w13a"
  exact h
/-- a nameless one -/
theorem variable_none (hP : H a.P = some (parserO a pl lim pri nn term)) 
    (h : k (.tup [.str (Str.ofString "v"), .int nn]) (upd H a.P (parserO a pl lim pri (nn + 1) term))) : Cal g 2 false 725 [.ref a.P, .str (Str.ofString "_")] H k x := by
  refine' Cal.enter (as' := [.ref a.P, .str (Str.ofString "_")]) ["self", "text"] ?F ?B ?N ?_
  k_extra "enter"
  repeat' k_extra "w13a"
  exact h
end
end
end

section
section
variable {g : Gd Mine.hp.heap_1}
inductive VarStep (u : Str) (nn : Int) (nums : List (Str × AV)) (counts : List (Int × AV)) (names : List AV) : Int → Int → List (Str × AV) → List (Int × AV) → List AV → Prop
  | old {n c : Int} : u ≠ Str.ofString "_" → getA nums u = some (.int n) → getA counts n = some (.int c) → VarStep u nn nums counts names n nn nums (putA counts n (.int (c + 1))) names
  | new : u ≠ Str.ofString "_" → getA nums u = none → VarStep u nn nums counts names nn (nn + 1) (putA nums u (.int nn)) (putA counts nn (.int 1)) (names ++ [.tup [.str u, .int nn]])
  | wild : u = Str.ofString "_" → VarStep u nn nums counts names nn (nn + 1) nums counts names
section
variable {H : AH} {a : PA} {toks : List AV} {pl lim pri nn : Int} {term tok : AV} {u kd : Str} {p : Int} {frs : List AV} {k x : AV → AH → Prop}
  {n nn' : Int} {nums nums' : List (Str × AV)} {counts counts' : List (Int × AV)} {names names' : List AV} {xi : List (Int × AV)}
theorem variable_spec (V : VarStep u nn nums counts names n nn' nums' counts' names') (hP : H a.P = some (parserO a pl lim pri nn term)) (hN : H a.nu = some (.dictS nums)) (hC : H a.co = some (.dictI counts)) (hM : H a.nm = some (.list names)) (hz : counts.length ≤ 100000) (hz2 : nums.length ≤ 100000) (hz3 : names.length ≤ 100000)
    (h : ∀ H', KeepL [a.P, a.nu, a.co, a.nm] H H' → H' a.P = some (parserO a pl lim pri nn' term) → H' a.nu = some (.dictS nums') → H' a.co = some (.dictI counts') → H' a.nm = some (.list names') → k (.tup [.str (Str.ofString "v"), .int n]) H') : Cal g 2 false 725 [.ref a.P, .str u] H k x := by
  have n1 : a.P ≠ a.nu := ne_kind hP hN rfl
  have n2 : a.P ≠ a.co := ne_kind hP hC rfl
  have n3 : a.nu ≠ a.co := ne_kind hN hC rfl
  have n4 : a.P ≠ a.nm := ne_kind hP hM rfl
  have n5 : a.nu ≠ a.nm := ne_kind hN hM rfl
  have n6 : a.co ≠ a.nm := ne_kind hC hM rfl
  induction V with
  | old h1 h2 h3 => exact variable_old hP h1 hN hC h2 h3 hz (h _ ((KeepL.refl _ _).upd (by simp)) (by k_extra "thing") (by k_extra "thing") (by k_extra "thing") (by k_extra "thing"))
  | new h1 h2 => exact variable_new hP h1 hN hC hM h2 hz hz2 hz3 (h _ (((((KeepL.refl _ _).upd (by simp)).upd (by simp)).upd (by simp)).upd (by simp)) (by k_extra "thing") (by k_extra "thing") (by k_extra "thing") (by k_extra "thing"))
  | wild h1 => subst h1; exact variable_none hP (h _ ((KeepL.refl _ _).upd (by simp)) (by k_extra "thing") (by k_extra "thing") (by k_extra "thing") (by k_extra "thing"))
theorem w14a : True := by
  (k_with "w14a" =>
    first
      | (with_reducible show OpL ..
         first
          | k_extra "call"
          | refine Cal.at (is_punct_spec ?_) (Ok.leB (by assumption) rfl)
          | refine Cal.at (var_spec ?_) (Ok.leB (by assumption) rfl)
          | refine Cal.at (peek_spec (by k_extra "thing") (by k_extra "thing") (by lia) (by lia) (by assumption) ?_) (Ok.leB (by assumption) rfl)
          | refine Cal.at (take_spec (by k_extra "thing") (by k_extra "thing") (by lia) (by lia) (by assumption) ?_) (Ok.leB (by assumption) rfl))
      | k_extra "step")
  trivial
theorem operand_var (V : VarStep u nn nums counts names n nn' nums' counts' names') (hP : H a.P = some (parserO a pl lim pri nn term)) (hT : H a.tl = some (.list toks)) (h0 : 0 ≤ pl) (hz0 : pl < 2 ^ 39) (ht : toks[pl.toNat]? = some (tk (Str.ofString "var") u p)) (hN : H a.nu = some (.dictS nums)) (hC : H a.co = some (.dictI counts)) (hM : H a.nm = some (.list names)) (hz : counts.length ≤ 100000) (hz2 : nums.length ≤ 100000) (hz3 : names.length ≤ 100000)
    (h : ∀ H', KeepL [a.P, a.nu, a.co, a.nm] H H' → H' a.P = some (parserO a (pl + 1) lim 0 nn' (.tup [.str (Str.ofString "v"), .int n])) → H' a.nu = some (.dictS nums') → H' a.co = some (.dictI counts') → H' a.nm = some (.list names') → k (.int 1) H') : Cal g 3 false 697 [.ref a.P] H k x := by
  refine' Cal.enter (as' := [.ref a.P]) ["self"] ?F ?B ?N ?_
  k_extra "enter"
  have n1 : a.P ≠ a.nu := ne_kind hP hN rfl
  have n2 : a.P ≠ a.co := ne_kind hP hC rfl
  have n4 : a.P ≠ a.nm := ne_kind hP hM rfl
  have n5 : a.P ≠ a.tl := ne_kind hP hT rfl
  repeat' k_extra "w14a"
  refine Cal.at (variable_spec V (by k_extra "thing") (by k_extra "thing") (by k_extra "thing") (by k_extra "thing") hz hz2 hz3 ?_) (Ok.leB (by assumption) rfl)
  intro H' kp hP' hN' hC' hM'
  repeat' k_extra "w14a"
  refine Cal.at (settle_spec hP' ?_) (Ok.leB (by assumption) rfl)
  repeat' k_extra "w14a"
  exact h _ ((((KeepL.refl _ _).upd (by simp)).trans kp).upd (by simp)) (by k_extra "thing") (by k_extra "thing") (by k_extra "thing") (by k_extra "thing")
theorem operand_open (hP : H a.P = some (parserO a pl lim pri nn term)) (hT : H a.tl = some (.list toks)) (hF : H a.fr = some (.list frs)) (hz : frs.length ≤ 100000) (h0 : 0 ≤ pl) (hz0 : pl < 2 ^ 39) (hk : kd = Str.ofString "open" ∨ kd = Str.ofString "open_ct") (ht : toks[pl.toNat]? = some (tk kd u p))
    (h : ∀ f d il H', H f = none → H il = none → KeepL [a.P, a.fr] H H' → H' a.P = some (parserO a (pl + 1) 1200 pri nn term) → H' a.fr = some (.list (frs ++ [.ref f])) → H' f = some (frameO d (Str.ofString "round") lim (-1) (-1) 0 .none il) → H' il = some (.list []) → k (.int 0) H') : Cal g 4 false 697 [.ref a.P] H k x := by
  have n5 : a.P ≠ a.tl := ne_kind hP hT rfl
  have n6 : a.P ≠ a.fr := ne_kind hP hF rfl
  rcases hk with rfl | rfl
  · refine' Cal.enter (as' := [.ref a.P]) ["self"] ?F ?B ?N ?_
    k_extra "enter"
    repeat' k_extra "w14a"
    refine Cal.at (enter_spec (by k_extra "thing") (by k_extra "thing") hz ?_) (Ok.leB (by assumption) rfl)
    intro f d il H' hf hil kp e1 e2 e3 e4
    repeat' k_extra "w14a"
    exact h f d il H' (upd_none.mp hf).2 (upd_none.mp hil).2 (((KeepL.refl _ _).upd (by simp)).trans kp) e1 e2 e3 e4
  · refine' Cal.enter (as' := [.ref a.P]) ["self"] ?F ?B ?N ?_
    k_extra "enter"
    repeat' k_extra "w14a"
    refine Cal.at (enter_spec (by k_extra "thing") (by k_extra "thing") hz ?_) (Ok.leB (by assumption) rfl)
    intro f d il H' hf hil kp e1 e2 e3 e4
    repeat' k_extra "w14a"
    exact h f d il H' (upd_none.mp hf).2 (upd_none.mp hil).2 (((KeepL.refl _ _).upd (by simp)).trans kp) e1 e2 e3 e4
theorem operand_list {u' kd' : Str} {p' : Int} (hP : H a.P = some (parserO a pl lim pri nn term)) (hT : H a.tl = some (.list toks)) (hF : H a.fr = some (.list frs)) (hz : frs.length ≤ 100000) (h0 : 0 ≤ pl) (hz0 : pl < 2 ^ 39) (ht : toks[pl.toNat]? = some (tk (Str.ofString "punct") (Str.ofString "[") p)) (ht' : toks[(pl + 1).toNat]? = some (tk kd' u' p')) (hk : kd' ≠ Str.ofString "punct")
    (h : ∀ f d il H', H f = none → H il = none → KeepL [a.P, a.fr] H H' → H' a.P = some (parserO a (pl + 1) 999 pri nn term) → H' a.fr = some (.list (frs ++ [.ref f])) → H' f = some (frameO d (Str.ofString "list") lim (-1) (-1) 0 .none il) → H' il = some (.list []) → k (.int 0) H') : Cal g 4 false 697 [.ref a.P] H k x := by
  have n5 : a.P ≠ a.tl := ne_kind hP hT rfl
  have n6 : a.P ≠ a.fr := ne_kind hP hF rfl
  refine' Cal.enter (as' := [.ref a.P]) ["self"] ?F ?B ?N ?_
  k_extra "enter"
  repeat' k_extra "w14a"
  · rename_i hc; exact absurd hc.1 hk
  refine Cal.at (enter_spec (by k_extra "thing") (by k_extra "thing") hz ?_) (Ok.leB (by assumption) rfl)
  intro f d il H' hf hil kp e1 e2 e3 e4
  repeat' k_extra "w14a"
  exact h f d il H' (upd_none.mp hf).2 (upd_none.mp hil).2 (((KeepL.refl _ _).upd (by simp)).trans kp) e1 e2 e3 e4
end
end
end

section
section
variable {g : Gd Mine.hp.heap_1}
section
variable {H : AH} {a : PA} {toks : List AV} {pl lim pri nn : Int} {term tok : AV} {u kd : Str} {p : Int} {frs : List AV} {k x : AV → AH → Prop}
  {xi : List (Int × AV)} {ts : List Str} {fs : List (List Int)} {items : List AV} {f d0 il : Addr} {l0 nm0 : Int} {left : AV}
theorem w15a : True := by
  (k_with "w15a" =>
    first
      | (with_reducible show OpL ..
         first
          | k_extra "call"
          | refine Cal.at (is_punct_spec ?_) (Ok.leB (by assumption) rfl)
          | refine Cal.at (peek_spec (by k_extra "thing") (by k_extra "thing") (by lia) (by lia) (by assumption) ?_) (Ok.leB (by assumption) rfl)
          | refine Cal.at (take_spec (by k_extra "thing") (by k_extra "thing") (by lia) (by lia) (by assumption) ?_) (Ok.leB (by assumption) rfl))
      | k_extra "step")
  trivial
theorem Sy.keepL {l : List Addr} {H H' : AH} {S d tx an fn fnn : Addr} (y : Sy H S d tx an fn fnn ts fs) (kp : KeepL l H H') (h1 : S ∉ l) (h2 : tx ∉ l) (h3 : an ∉ l) (h4 : fn ∉ l) (h5 : fnn ∉ l) : Sy H' S d tx an fn fnn ts fs :=
  ⟨kp _ _ h1 y.o, kp _ _ h2 y.t, kp _ _ h3 y.a, kp _ _ h4 y.f, kp _ _ h5 y.n, y.ne⟩
theorem named_spec {u' : Str} {p' i : Int} (hP : H a.P = some (parserO a pl lim pri nn term)) (hT : H a.tl = some (.list toks)) (hF : H a.fr = some (.list frs)) (hz : frs.length ≤ 100000) (h0 : 0 ≤ pl) (hz0 : pl ≤ 2 ^ 39) (ht' : toks[pl.toNat]? = some (tk (Str.ofString "open_ct") u' p'))
    (h : ∀ f d il H', H f = none → H il = none → KeepL [a.P, a.fr] H H' → H' a.P = some (parserO a (pl + 1) 999 pri nn term) → H' a.fr = some (.list (frs ++ [.ref f])) → H' f = some (frameO d (Str.ofString "args") lim (-1) i 0 .none il) → H' il = some (.list []) → k (.int 0) H') : Cal g 4 false 704 [.ref a.P, .int i, tk (Str.ofString "name") u p] H k x := by
  have n5 : a.P ≠ a.tl := ne_kind hP hT rfl
  have n6 : a.P ≠ a.fr := ne_kind hP hF rfl
  refine' Cal.enter (as' := [.ref a.P, .int i, tk (Str.ofString "name") u p]) ["self", "a", "token"] ?F ?B ?N ?_
  k_extra "enter"
  repeat' k_extra "w15a"
  refine Cal.at (enter_spec (by k_extra "thing") (by k_extra "thing") hz ?_) (Ok.leB (by assumption) rfl)
  intro f d il H' hf hil kp e1 e2 e3 e4
  repeat' k_extra "w15a"
  exact h f d il H' (upd_none.mp hf).2 (upd_none.mp hil).2 (((KeepL.refl _ _).upd (by simp)).trans kp) e1 e2 e3 e4
theorem operand_name {u' : Str} {p' : Int} (hP : H a.P = some (parserO a pl lim pri nn term)) (hT : H a.tl = some (.list toks)) (hF : H a.fr = some (.list frs)) (hz : frs.length ≤ 100000) (y : Sy H a.S a.dS a.tx a.an a.fn a.fnn ts fs) (hzt : ts.length ≤ 100000) (m1 : a.tl ≠ a.tx) (m2 : a.fr ≠ a.tx) (m3 : a.fr ≠ a.fn) (h0 : 0 ≤ pl) (hz0 : pl < 2 ^ 39) (ht : toks[pl.toNat]? = some (tk (Str.ofString "name") u p)) (ht' : toks[(pl + 1).toNat]? = some (tk (Str.ofString "open_ct") u' p'))
    (h : ∀ f d il H', H f = none → H il = none → KeepL [a.P, a.fr, a.tx, a.an] H H' → Sy H' a.S a.dS a.tx a.an a.fn a.fnn (addA ts u) fs → H' a.P = some (parserO a (pl + 1 + 1) 999 pri nn term) → H' a.fr = some (.list (frs ++ [.ref f])) → H' f = some (frameO d (Str.ofString "args") lim (-1) (posA ts u : Nat) 0 .none il) → H' il = some (.list []) → k (.int 0) H') : Cal g 5 false 697 [.ref a.P] H k x := by
  have yo := y.o
  have yt := y.t
  have ya := y.a
  have n5 : a.P ≠ a.tl := ne_kind hP hT rfl
  have n6 : a.P ≠ a.fr := ne_kind hP hF rfl
  have n7 : a.P ≠ a.S := ne_kind hP yo rfl
  have n8 : a.P ≠ a.tx := ne_kind hP yt rfl
  have n9 : a.P ≠ a.an := ne_kind hP ya rfl
  have n10 : a.tl ≠ a.an := ne_kind hT ya rfl
  have n11 : a.fr ≠ a.an := ne_kind hF ya rfl
  have y1 : Sy (upd H a.P (parserO a (pl + 1) lim pri nn term)) a.S a.dS a.tx a.an a.fn a.fnn ts fs := by
    obtain ⟨h1, h2, h3, h4, h5, h6⟩ := y
    have n12 : a.P ≠ a.fn := ne_kind hP h4 rfl
    have n13 : a.P ≠ a.fnn := ne_kind hP h5 rfl
    exact ⟨by k_extra "thing", by k_extra "thing", by k_extra "thing", by k_extra "thing", by k_extra "thing", h6⟩
  have y2 := y1.putT (addA ts u)
  refine' Cal.enter (as' := [.ref a.P]) ["self"] ?F ?B ?N ?_
  k_extra "enter"
  repeat' k_extra "w15a"
  refine Cal.at (atom_spec y1 hzt ?_) (Ok.leB (by assumption) rfl)
  repeat' k_extra "w15a"
  have n1 : a.tx ≠ a.P := Ne.symm n8
  refine Cal.at (named_spec (pl := pl + 1) (by k_extra "thing") (by k_extra "thing") (by k_extra "thing") hz (by lia) (by lia) ht' ?_) (Ok.leB (by assumption) rfl)
  intro f d il H' hf hil kp e1 e2 e3 e4
  repeat' k_extra "w15a"
  simp only [upd_none] at hf hil
  refine h f d il H' hf.2.2.2 hil.2.2.2 (((((KeepL.refl _ _).upd (by simp)).upd (by simp)).upd (by simp)).trans (kp.mono (by k_extra "subs"))) (y2.keepL kp ?_ ?_ ?_ ?_ ?_) e1 e2 e3 e4
  all_goals
    simp only [List.mem_cons, List.not_mem_nil, or_false, not_or]
  · exact ⟨Ne.symm n7, ne_kind yo hF rfl⟩
  · exact ⟨n1, Ne.symm m2⟩
  · exact ⟨Ne.symm n9, Ne.symm n11⟩
  · exact ⟨ne_kind y.f hP rfl, Ne.symm m3⟩
  · exact ⟨ne_kind y.n hP rfl, ne_kind y.n hF rfl⟩
/-! between operands -/
theorem infix_spec {O dO S pr inf po : Addr} {i : Int} {v : AV} (hO : H O = some (opO dO S pr inf po)) (hI : H inf = some (.dictI xi)) (e : (getA xi i).getD .none = v) (h : k v H) : Cal g 1 false 471 [.ref O, .int i] H k x := by
  subst e
  refine' Cal.enter (as' := [.ref O, .int i]) ["self", "a"] ?F ?B ?N ?_
  k_extra "enter"
  repeat' k_extra "w15a"
  refine OpL.getI1 (by k_extra "thing") ?_
  repeat' k_extra "w15a"
  exact h
theorem postfix_spec {O dO S pr inf po : Addr} {i : Int} {v : AV} (hO : H O = some (opO dO S pr inf po)) (hI : H po = some (.dictI xi)) (e : (getA xi i).getD .none = v) (h : k v H) : Cal g 1 false 478 [.ref O, .int i] H k x := by
  subst e
  refine' Cal.enter (as' := [.ref O, .int i]) ["self", "a"] ?F ?B ?N ?_
  k_extra "enter"
  repeat' k_extra "w15a"
  refine OpL.getI1 (by k_extra "thing") ?_
  repeat' k_extra "w15a"
  exact h
theorem admits_none (h : k (.bool false) H) : Cal g 2 false 751 [.ref a.P, .none] H k x := by
  refine' Cal.enter (as' := [.ref a.P, .none]) ["self", "entry"] ?F ?B ?N ?_
  k_extra "enter"
  repeat' k_extra "w15a"
  exact h
theorem admits_high {e : Int} (hP : H a.P = some (parserO a pl lim pri nn term)) (he : lim < e) (h : k (.bool false) H) : Cal g 2 false 751 [.ref a.P, .tup [.int e, .str u]] H k x := by
  refine' Cal.enter (as' := [.ref a.P, .tup [.int e, .str u]]) ["self", "entry"] ?F ?B ?N ?_
  k_extra "enter"
  repeat' k_extra "w15a"
  exact h
theorem shift_no {e i : Int} (hP : H a.P = some (parserO a pl lim pri nn term)) (hO : H a.O = some (opO a.dO a.S a.pr a.inf a.po)) (hI : H a.inf = some (.dictI xi)) (ee : getA xi i = some (.tup [.int e, .str u])) (he : lim < e) (h : k (.bool false) H) : Cal g 3 false 758 [.ref a.P, .int i] H k x := by
  refine' Cal.enter (as' := [.ref a.P, .int i]) ["self", "a"] ?F ?B ?N ?_
  k_extra "enter"
  repeat' k_extra "w15a"
  refine Cal.at (infix_spec hO hI (by rw [ee, Option.getD_some]) ?_) (Ok.leB (by assumption) rfl)
  repeat' k_extra "w15a"
  refine Cal.at (admits_high hP he ?_) (Ok.leB (by assumption) rfl)
  repeat' k_extra "w15a"
  exact h
theorem apply_no {i : Int} (hP : H a.P = some (parserO a pl lim pri nn term)) (hO : H a.O = some (opO a.dO a.S a.pr a.inf a.po)) (hI : H a.po = some (.dictI [])) (h : k (.bool false) H) : Cal g 3 false 765 [.ref a.P, .int i] H k x := by
  refine' Cal.enter (as' := [.ref a.P, .int i]) ["self", "a"] ?F ?B ?N ?_
  k_extra "enter"
  repeat' k_extra "w15a"
  refine Cal.at (postfix_spec hO hI rfl ?_) (Ok.leB (by assumption) rfl)
  repeat' k_extra "w15a"
  refine Cal.at (admits_none ?_) (Ok.leB (by assumption) rfl)
  repeat' k_extra "w15a"
  exact h
theorem closed_spec {term' : AV} {kind : Str} {fc lim' : Int} (hP : H a.P = some (parserO a pl lim pri nn term)) (hT : H a.tl = some (.list toks)) (hF : H a.fr = some (.list (frs ++ [.ref f]))) (hz : frs.length ≤ 100000) (hf : H f = some (frameO d0 kind lim' fc nm0 0 left il)) (h0 : 0 ≤ pl) (hz0 : pl < 2 ^ 39) (ht : toks[pl.toNat]? = some tok)
    (h : ∀ H', KeepL [a.P, a.fr] H H' → H' a.P = some (parserO a (pl + 1) lim' 0 nn term') → H' a.fr = some (.list frs) → k (.int 1) H') : Cal g 2 false 793 [.ref a.P, term'] H k x := by
  have n5 : a.P ≠ a.tl := ne_kind hP hT rfl
  have n6 : a.P ≠ a.fr := ne_kind hP hF rfl
  have n7 : a.P ≠ f := ne_kind hP hf rfl
  have n8 : f ≠ a.fr := ne_kind hf hF rfl
  refine' Cal.enter (as' := [.ref a.P, term']) ["self", "term"] ?F ?B ?N ?_
  k_extra "enter"
  repeat' k_extra "w15a"
  refine OpL.pop (by k_extra "thing") (by lia) ?_
  repeat' k_extra "w15a"
  refine Cal.at (settle_spec (by k_extra "thing") ?_) (Ok.leB (by assumption) rfl)
  repeat' k_extra "w15a"
  exact h _ (((((KeepL.refl _ _).upd (by simp)).upd (by simp)).upd (by simp)).upd (by simp)) (by k_extra "thing") (by k_extra "thing")
theorem separated_spec (hb : notBi term = true) (hP : H a.P = some (parserO a pl lim pri nn term)) (hT : H a.tl = some (.list toks)) (hF : H a.fr = some (.list (frs ++ [.ref f]))) (hz : frs.length ≤ 100000) (hf : H f = some (frameO d0 (Str.ofString "args") l0 (-1) nm0 0 left il)) (hi : H il = some (.list items)) (hzi : items.length ≤ 100000) (m : il ≠ a.fr) (h0 : 0 ≤ pl) (hz0 : pl < 2 ^ 39) (ht : toks[pl.toNat]? = some tok)
    (h : ∀ H', KeepL [a.P, f, il] H H' → H' a.P = some (parserO a (pl + 1) 999 pri nn term) → H' f = some (frameO d0 (Str.ofString "args") l0 (-1) nm0 0 left il) → H' il = some (.list (items ++ [term])) → k (.int 0) H') : Cal g 2 false 786 [.ref a.P, .str (Str.ofString "args")] H k x := by
  have n5 : a.P ≠ a.tl := ne_kind hP hT rfl
  have n6 : a.P ≠ a.fr := ne_kind hP hF rfl
  have n7 : a.P ≠ f := ne_kind hP hf rfl
  have n8 : f ≠ a.fr := ne_kind hf hF rfl
  have n9 : a.P ≠ il := ne_kind hP hi rfl
  have n10 : f ≠ il := ne_kind hf hi rfl
  refine' Cal.enter (as' := [.ref a.P, .str (Str.ofString "args")]) ["self", "kind"] ?F ?B ?N ?_
  k_extra "enter"
  repeat' k_extra "w15a"
  refine h _ ?_ (by k_extra "thing") (by k_extra "thing") (by k_extra "thing")
  repeat' (first | exact KeepL.refl _ _ | refine KeepL.upd ?_ (by simp))
end
end
end

section
section
variable {g : Gd Mine.hp.heap_1}
noncomputable abbrev nilT : AV := .tup [.str (Str.ofString "a"), .int 0]
noncomputable abbrev dotT (t r : AV) : AV := .tup [.str (Str.ofString "s"), .int 0, .tup [t, r]]
section
variable {H : AH} {a : PA} {toks : List AV} {pl lim pri nn : Int} {term tok : AV} {u kd : Str} {p : Int} {frs : List AV} {k x : AV → AH → Prop}
  {xi : List (Int × AV)} {ts : List Str} {fs : List (List Int)} {items : List AV} {f d0 il : Addr} {l0 nm0 fc : Int} {left : AV}
theorem w16a : True := by
  (k_with "w16a" =>
    first
      | (with_reducible show OpL ..
         first
          | k_extra "call"
          | refine Cal.at (is_punct_spec ?_) (Ok.leB (by assumption) rfl)
          | refine Cal.at (peek_spec (by k_extra "thing") (by k_extra "thing") (by lia) (by lia) (by assumption) ?_) (Ok.leB (by assumption) rfl)
          | refine Cal.at (take_spec (by k_extra "thing") (by k_extra "thing") (by lia) (by lia) (by assumption) ?_) (Ok.leB (by assumption) rfl))
      | k_extra "step")
  trivial
section
theorem w16b : True := by
  (k_with "w16b" =>
    first
      | (first
          | ((with_reducible show Tri _ _ _ (eval (Expr.IfExp _ _ _ _) _) _ _ _ _); refine Ev.ifexp ?_)
          | ((with_reducible show Tri _ _ _ (eval (Expr.Name (Str.ofString "NIL") _) _) _ _ _ _); refine Ev.global (y := Str.ofString "NIL") (by k_extra "part") (GV.tup (ds := [.str (Str.ofString "a"), .int 0]) (by k_extra "part") (fun h => .cons (.str _ _) (.cons (.int _ _) .nil))) ?_))
      | (with_reducible show OpL ..
         first
          | k_extra "call"
          | refine Cal.at (is_punct_spec ?_) (Ok.leB (by assumption) rfl)
          | refine Cal.at (peek_spec (by k_extra "thing") (by k_extra "thing") (by lia) (by lia) (by assumption) ?_) (Ok.leB (by assumption) rfl)
          | refine Cal.at (take_spec (by k_extra "thing") (by k_extra "thing") (by lia) (by lia) (by assumption) ?_) (Ok.leB (by assumption) rfl))
      | k_extra "step")
  trivial
theorem list_term_one {t : AV} (hi : H il = some (.list [t])) (h : k (dotT t nilT) H) : Cal g 1 true 411 [.ref il] H k x := by
  refine' Cal.enter (as' := [.ref il, .none]) ["items", "tail"] ?F ?B ?N ?_
  (case F => exact ⟨⟨_, _, _, by k_extra "part"⟩, by k_extra "part"⟩)
  (case B =>
    intro s vs hv K
    obtain ⟨v, rfl, h1⟩ := hv.inv1
    exact ⟨[v, .none], .cons h1 (VRs.cons .none .nil), binds_K K rfl (by k_extra "part") rfl rfl rfl⟩)
  (case N => kernel_rfl)
  intro A L ok
  dsimp only [locOf]
  repeat' k_extra "w16b"
  refine EvIt.call ?_ (by kernel_rfl)
  repeat' k_extra "w16b"
  refine And.intro rfl ?_
  repeat' k_extra "w16b"
  refine ItC.reversed (Ok.hand ok rfl) (by k_extra "thing") ?_
  show ForL g _ _ _ _ _ [t] _ _
  repeat' k_extra "w16b"
  refine turnF_next (by k_extra "thing") ?_
  refine ForL.nil ?_
  repeat' k_extra "w16b"
  exact h
end
theorem close_round (hb : notBi term = true) (hP : H a.P = some (parserO a pl lim pri nn term)) (hT : H a.tl = some (.list toks)) (hF : H a.fr = some (.list (frs ++ [.ref f]))) (hz : frs.length ≤ 100000) (hf : H f = some (frameO d0 (Str.ofString "round") l0 fc nm0 0 left il)) (h0 : 0 ≤ pl) (hz0 : pl < 2 ^ 39) (ht : toks[pl.toNat]? = some tok)
    (h : ∀ H', KeepL [a.P, a.fr] H H' → H' a.P = some (parserO a (pl + 1) l0 0 nn term) → H' a.fr = some (.list frs) → k (.int 1) H') : Cal g 4 true 779 [.ref a.P, tk (Str.ofString "punct") (Str.ofString ")") p] H k x := by
  refine' Cal.enter (as' := [.ref a.P, tk (Str.ofString "punct") (Str.ofString ")") p]) ["self", "token"] ?F ?B ?N ?_
  k_extra "enter"
  repeat' k_extra "w16b"
  refine Cal.at (closed_spec hP hT hF hz hf h0 hz0 ht ?_) (Ok.leB (by assumption) rfl)
  intro H' kp e1 e2
  repeat' k_extra "w16b"
  exact h H' kp e1 e2
theorem close_comma (hb : notBi term = true) (hP : H a.P = some (parserO a pl lim pri nn term)) (hT : H a.tl = some (.list toks)) (hF : H a.fr = some (.list (frs ++ [.ref f]))) (hz : frs.length ≤ 100000) (hf : H f = some (frameO d0 (Str.ofString "args") l0 (-1) nm0 0 left il)) (hi : H il = some (.list items)) (hzi : items.length ≤ 100000) (m : il ≠ a.fr) (h0 : 0 ≤ pl) (hz0 : pl < 2 ^ 39) (ht : toks[pl.toNat]? = some tok)
    (h : ∀ H', KeepL [a.P, f, il] H H' → H' a.P = some (parserO a (pl + 1) 999 pri nn term) → H' f = some (frameO d0 (Str.ofString "args") l0 (-1) nm0 0 left il) → H' il = some (.list (items ++ [term])) → k (.int 0) H') : Cal g 4 true 779 [.ref a.P, tk (Str.ofString "punct") (Str.ofString ",") p] H k x := by
  refine' Cal.enter (as' := [.ref a.P, tk (Str.ofString "punct") (Str.ofString ",") p]) ["self", "token"] ?F ?B ?N ?_
  k_extra "enter"
  repeat' k_extra "w16b"
  refine Cal.at (separated_spec hb hP hT hF hz hf hi hzi m h0 hz0 ht ?_) (Ok.leB (by assumption) rfl)
  intro H' kp e1 e2 e3
  repeat' k_extra "w16b"
  exact h H' kp e1 e2 e3
theorem close_list (hb : notBi term = true) (hP : H a.P = some (parserO a pl lim pri nn term)) (hT : H a.tl = some (.list toks)) (hF : H a.fr = some (.list (frs ++ [.ref f]))) (hz : frs.length ≤ 100000) (hf : H f = some (frameO d0 (Str.ofString "list") l0 fc nm0 0 left il)) (hi : H il = some (.list [])) (h0 : 0 ≤ pl) (hz0 : pl < 2 ^ 39) (ht : toks[pl.toNat]? = some tok)
    (h : ∀ H', KeepL [a.P, a.fr] H H' → H' a.P = some (parserO a (pl + 1) l0 0 nn (dotT term nilT)) → H' a.fr = some (.list frs) → k (.int 1) H') : Cal g 4 true 779 [.ref a.P, tk (Str.ofString "punct") (Str.ofString "]") p] H k x := by
  refine' Cal.enter (as' := [.ref a.P, tk (Str.ofString "punct") (Str.ofString "]") p]) ["self", "token"] ?F ?B ?N ?_
  k_extra "enter"
  repeat' k_extra "w16b"
  intro l1 hl1
  refine Op2.addL (us := []) (ws := [term]) (by k_extra "thing") (by k_extra "thing") (by simp) ?_
  intro l2 hl2
  repeat' k_extra "w16b"
  refine Cal.at (list_term_one (t := term) (upd_same _ _ _) ?_) (Ok.leB (by assumption) rfl)
  repeat' k_extra "w16b"
  have q2 := (upd_none.mp hl2).2
  have n1 := ne_fresh hl1 hP
  have n2 := ne_fresh q2 hP
  have n3 := ne_fresh hl1 hT
  have n4 := ne_fresh q2 hT
  have n5 := ne_fresh hl1 hF
  have n6 := ne_fresh q2 hF
  have n7 := ne_fresh hl1 hf
  have n8 := ne_fresh q2 hf
  refine Cal.at (closed_spec (f := f) (by k_extra "thing") (by k_extra "thing") (by k_extra "thing") hz (by k_extra "thing") h0 hz0 ht ?_) (Ok.leB (by assumption) rfl)
  intro H' kp e1 e2
  repeat' k_extra "w16b"
  exact h H' (((KeepL.refl _ _).fresh hl1).fresh q2 |>.trans kp) e1 e2
theorem close_args (hb : notBi term = true) (hP : H a.P = some (parserO a pl lim pri nn term)) (hT : H a.tl = some (.list toks)) (hF : H a.fr = some (.list (frs ++ [.ref f]))) (hz : frs.length ≤ 100000) (hf : H f = some (frameO d0 (Str.ofString "args") l0 fc nm0 0 left il)) (hi : H il = some (.list items)) (hzi : items.length ≤ 100000) (y : Sy H a.S a.dS a.tx a.an a.fn a.fnn ts fs) (hzf : fs.length ≤ 100000) (m1 : a.fn ≠ a.fr) (m2 : a.fn ≠ a.tl) (m3 : a.tx ≠ a.fr) (h0 : 0 ≤ pl) (hz0 : pl < 2 ^ 39) (ht : toks[pl.toNat]? = some tok)
    (h : ∀ H', KeepL [a.P, a.fr, a.fn, a.fnn] H H' → Sy H' a.S a.dS a.tx a.an a.fn a.fnn ts (addA fs [nm0, ((items.length + 1 : Nat) : Int)]) → H' a.P = some (parserO a (pl + 1) l0 0 nn (.tup [.str (Str.ofString "s"), .int (posA fs [nm0, ((items.length + 1 : Nat) : Int)] : Nat), .tup (items ++ [term])])) → H' a.fr = some (.list frs) → k (.int 1) H') : Cal g 4 true 779 [.ref a.P, tk (Str.ofString "punct") (Str.ofString ")") p] H k x := by
  refine' Cal.enter (as' := [.ref a.P, tk (Str.ofString "punct") (Str.ofString ")") p]) ["self", "token"] ?F ?B ?N ?_
  k_extra "enter"
  repeat' k_extra "w16b"
  intro l1 hl1
  refine Op2.addL (us := items) (ws := [term]) (by k_extra "thing") (by k_extra "thing") (by simp; lia) ?_
  intro l2 hl2
  have q2 := (upd_none.mp hl2).2
  have kp0 : ∀ l, KeepL l H (upd (upd H l1 (.list [term])) l2 (.list (items ++ [term]))) := fun l => ((KeepL.refl l H).fresh hl1).fresh q2
  have y' := y.keepL (kp0 []) (by simp) (by simp) (by simp) (by simp) (by simp)
  have hP' := kp0 [] _ _ (by simp) hP
  have hT' := kp0 [] _ _ (by simp) hT
  have hF' := kp0 [] _ _ (by simp) hF
  have hf' := kp0 [] _ _ (by simp) hf
  have hl' : upd (upd H l1 (.list [term])) l2 (.list (items ++ [term])) l2 = some (.list (items ++ [term])) := upd_same _ _ _
  have n0 : l2 ≠ a.fn := Ne.symm (ne_fresh q2 y.f)
  have kp0 := kp0 [a.P, a.fr, a.fn, a.fnn]
  revert y' hP' hT' hF' hf' hl' kp0
  generalize upd (upd H l1 (.list [term])) l2 (.list (items ++ [term])) = H1
  intro y' hP' hT' hF' hf' hl' kp0
  have yo := y'.o
  have yf := y'.f
  have yn := y'.n
  have hll : (items ++ [term]).length = items.length + 1 := by simp
  repeat' k_extra "w16b"
  rw [hll]
  refine Cal.at (functor_spec y' hzf ?_) (Ok.leB (by assumption) rfl)
  have n1 : a.P ≠ a.fn := ne_kind hP' yf rfl
  have n2 : a.P ≠ a.fnn := ne_kind hP' yn rfl
  have n3 : f ≠ a.fn := ne_kind hf' yf rfl
  have n4 : f ≠ a.fnn := ne_kind hf' yn rfl
  have n5 : a.tl ≠ a.fnn := ne_kind hT' yn rfl
  have n6 : a.fr ≠ a.fnn := ne_kind hF' yn rfl
  have n7 : l2 ≠ a.fnn := ne_kind hl' yn rfl
  have m1' := Ne.symm m1
  have m2' := Ne.symm m2
  repeat' k_extra "w16b"
  refine Cal.at (struct_spec ?_) (Ok.leB (by assumption) rfl)
  repeat' k_extra "w16b"
  have y2 := y'.putF (addA fs [nm0, ((items.length + 1 : Nat) : Int)])
  refine Cal.at (closed_spec (f := f) (by k_extra "thing") (by k_extra "thing") (by k_extra "thing") hz (by k_extra "thing") h0 hz0 ht ?_) (Ok.leB (by assumption) rfl)
  intro H' kp e1 e2
  repeat' k_extra "w16b"
  refine h H' (kp0.trans ((((KeepL.refl _ _).upd (by simp)).upd (by simp)).trans (kp.mono (by k_extra "subs")))) (y2.keepL kp ?_ ?_ ?_ ?_ ?_) e1 e2
  all_goals
    simp only [List.mem_cons, List.not_mem_nil, or_false, not_or]
  · exact ⟨ne_kind yo hP' rfl, ne_kind yo hF' rfl⟩
  · exact ⟨ne_kind y'.t hP' rfl, m3⟩
  · exact ⟨ne_kind y'.a hP' rfl, ne_kind y'.a hF' rfl⟩
  · exact ⟨Ne.symm n1, m1⟩
  · exact ⟨Ne.symm n2, Ne.symm n6⟩
end
end
end

section
section
variable {g : Gd Mine.hp.heap_1}
section
variable {H : AH} {a : PA} {toks : List AV} {pl lim pri nn : Int} {term tok : AV} {u kd kind : Str} {p : Int} {frs : List AV} {k x : AV → AH → Prop}
  {xi : List (Int × AV)} {f d0 il : Addr} {l0 nm0 fc fpri : Int} {left : AV}
theorem w17a : True := by
  (k_with "w17a" =>
    first
      | (with_reducible show OpL ..
         first
          | k_extra "call"
          | refine Cal.at (operator_name_comma ?_) (Ok.leB (by assumption) rfl)
          | refine Cal.at (operator_name_other (.inl rfl) (by assumption) (by assumption) ?_) (Ok.leB (by assumption) rfl)
          | refine Cal.at (shift_no (by assumption) (by assumption) (by assumption) (by assumption) (by assumption) ?_) (Ok.leB (by assumption) rfl)
          | refine Cal.at (apply_no (by assumption) (by assumption) (by assumption) ?_) (Ok.leB (by assumption) rfl)
          | refine Cal.at (peek_spec (by k_extra "thing") (by k_extra "thing") (by lia) (by lia) (by assumption) ?_) (Ok.leB (by assumption) rfl))
      | k_extra "step")
  trivial
theorem operator_close (hcl : Cal g 4 true 779 [.ref a.P, tk (Str.ofString "punct") u p] H k (fun _ _ => False)) (hu : u ≠ Str.ofString ",") (hu' : u ≠ Str.ofString "|") (hk : kind ≠ Str.ofString "operator") (hP : H a.P = some (parserO a pl lim pri nn term)) (hT : H a.tl = some (.list toks)) (hF : H a.fr = some (.list (frs ++ [.ref f]))) (hz : frs.length ≤ 100000) (hf : H f = some (frameO d0 kind l0 fc nm0 fpri left il)) (h0 : 0 ≤ pl) (hz0 : pl < 2 ^ 39) (ht : toks[pl.toNat]? = some (tk (Str.ofString "punct") u p)) : Cal g 5 true 744 [.ref a.P] H k x := by
  have hz2 : (frs ++ [AV.ref f]).length < 2 ^ 60 := by simp; lia
  have hem : (frs ++ [AV.ref f]).isEmpty = false := by simp
  refine' Cal.enter (as' := [.ref a.P]) ["self"] ?F ?B ?N ?_
  k_extra "enter"
  repeat' k_extra "w17a"
  rw [hem]
  refine ifF Bool.false_ne_true ?_
  repeat' k_extra "w17a"
  refine Cal.at (Cal.mono hcl (fun d H' hk => ?_) (fun _ _ z => z.elim) (Nat.le_refl _) id) (Ok.leB (by assumption) rfl)
  repeat' k_extra "w17a"
  exact hk
theorem operator_comma {e : Int} (hcl : Cal g 4 true 779 [.ref a.P, tk (Str.ofString "punct") (Str.ofString ",") p] H k (fun _ _ => False)) (hO : H a.O = some (opO a.dO a.S a.pr a.inf a.po)) (hI : H a.inf = some (.dictI xi)) (ee : getA xi 7 = some (.tup [.int e, .str u])) (he : lim < e) (hpo : H a.po = some (.dictI [])) (hk : kind ≠ Str.ofString "operator") (hP : H a.P = some (parserO a pl lim pri nn term)) (hT : H a.tl = some (.list toks)) (hF : H a.fr = some (.list (frs ++ [.ref f]))) (hz : frs.length ≤ 100000) (hf : H f = some (frameO d0 kind l0 fc nm0 fpri left il)) (h0 : 0 ≤ pl) (hz0 : pl < 2 ^ 39) (ht : toks[pl.toNat]? = some (tk (Str.ofString "punct") (Str.ofString ",") p)) : Cal g 5 true 744 [.ref a.P] H k x := by
  have hz2 : (frs ++ [AV.ref f]).length < 2 ^ 60 := by simp; lia
  have hem : (frs ++ [AV.ref f]).isEmpty = false := by simp
  refine' Cal.enter (as' := [.ref a.P]) ["self"] ?F ?B ?N ?_
  k_extra "enter"
  repeat' k_extra "w17a"
  rw [hem]
  refine ifF Bool.false_ne_true ?_
  repeat' k_extra "w17a"
  refine Cal.at (Cal.mono hcl (fun d H' hk => ?_) (fun _ _ z => z.elim) (Nat.le_refl _) id) (Ok.leB (by assumption) rfl)
  repeat' k_extra "w17a"
  exact hk
theorem operator_done (hP : H a.P = some (parserO a pl lim pri nn term)) (hT : H a.tl = some (.list toks)) (hF : H a.fr = some (.list [])) (h0 : 0 ≤ pl) (hz0 : pl < 2 ^ 39) (ht : toks[pl.toNat]? = some (tk (Str.ofString "end") (Str.ofString ".") p)) (h : k (.int 2) H) : Cal g 5 true 744 [.ref a.P] H k x := by
  have hz2 : ([] : List AV).length < 2 ^ 60 := by simp
  refine' Cal.enter (as' := [.ref a.P]) ["self"] ?F ?B ?N ?_
  k_extra "enter"
  repeat' k_extra "w17a"
  refine Cal.at (operator_name_other (.inr rfl) (by decide) (by decide) ?_) (Ok.leB (by assumption) rfl)
  repeat' k_extra "w17a"
  exact h
/-! the parser's loop -/
noncomputable def RunL {KF : Params → Frag} (g : Gd KF) (a : PA) (K : AH → Prop) : Nat → Int → AH → Prop
  | 0, _, _ => False
  | n + 1, st, H => (∃ pl lim pri nn term, H a.P = some (parserO a pl lim pri nn term)) ∧ ((st = 2 ∧ K H) ∨ (st = 0 ∧ Cal g 5 true 697 [.ref a.P] H (fun v H' => ∃ i, v = .int i ∧ RunL g a K n i H') (fun _ _ => False)) ∨ (st = 1 ∧ Cal g 5 true 744 [.ref a.P] H (fun v H' => ∃ i, v = .int i ∧ RunL g a K n i H') (fun _ _ => False)))
theorem RunL.mono {K : AH → Prop} : ∀ {n : Nat} {st : Int} {H : AH}, RunL g a K n st H → RunL g a K (n + 1) st H
  | 0, _, _, h => h.elim
  | n + 1, st, H, h => by
    obtain ⟨hP, h⟩ := h
    refine ⟨hP, ?_⟩
    rcases h with h | ⟨h1, h2⟩ | ⟨h1, h2⟩
    · exact .inl h
    · exact .inr (.inl ⟨h1, h2.mono (fun v H' ⟨i, e, r⟩ => ⟨i, e, RunL.mono r⟩) (fun _ _ z => z) (Nat.le_refl _) id⟩)
    · exact .inr (.inr ⟨h1, h2.mono (fun v H' ⟨i, e, r⟩ => ⟨i, e, RunL.mono r⟩) (fun _ _ z => z) (Nat.le_refl _) id⟩)
theorem parse_spec {n : Nat} {most : Int} (hP : H a.P = some (parserO a pl lim pri nn term)) (R : RunL g a (fun H => ∃ pl lim pri nn term, notBi term = true ∧ H a.P = some (parserO a pl lim pri nn term) ∧ k (.tup [term, .int pri]) H) n 0 (upd H a.P (parserO a pl most pri nn term))) : Cal g 6 true 676 [.ref a.P, .int most] H k x := by
  refine' Cal.enter (as' := [.ref a.P, .int most]) ["self", "most"] ?F ?B ?N ?_
  k_extra "enter"
  repeat' k_extra "w17a"
  refine (?key : ∀ (n : Nat) (st : Int) (H : AH) (ρ : Loc), RunL g a (fun H => ∃ pl lim pri nn term, notBi term = true ∧ H a.P = some (parserO a pl lim pri nn term) ∧ k (.tup [term, .int pri]) H) n st H → ρ (Str.ofString "self") = some (.ref a.P) → ρ (Str.ofString "state") = some (.int st) → Lp g _ _ _ ρ H _ _) n 0 _ _ R (by k_extra "name") (by k_extra "name")
  intro n
  induction n with
  | zero => intro st H ρ h; exact h.elim
  | succ n ih =>
    intro st H ρ h hs ht
    obtain ⟨⟨_, _, _, _, _, hP'⟩, h⟩ := h
    rcases h with ⟨rfl, pl, lim, pri, nn, term, hb, e1, e2⟩ | ⟨rfl, h2⟩ | ⟨rfl, h2⟩
    · refine Lp.step ?_
      repeat' k_extra "w17a"
      exact e2
    · refine Lp.step ?_
      repeat' k_extra "w17a"
      refine Cal.at (Cal.mono h2 (fun d H' hk => ?_) (fun _ _ z => z.elim) (Nat.le_refl _) id) (Ok.leB (by assumption) rfl)
      obtain ⟨i, rfl, hk⟩ := hk
      repeat' k_extra "w17a"
      exact ih i H' _ hk (by k_extra "name") (by k_extra "name")
    · refine Lp.step ?_
      repeat' k_extra "w17a"
      refine Cal.at (Cal.mono h2 (fun d H' hk => ?_) (fun _ _ z => z.elim) (Nat.le_refl _) id) (Ok.leB (by assumption) rfl)
      obtain ⟨i, rfl, hk⟩ := hk
      repeat' k_extra "w17a"
      exact ih i H' _ hk (by k_extra "name") (by k_extra "name")
end
end
end

section
section
variable {g : Gd Mine.hp.heap_1}
structure PS where
  j : Nat
  lim : Int
  pri : Int
  nn : Int
  term : AV
  frs : List AV
  items : List AV
  nums : List (Str × AV)
  counts : List (Int × AV)
  names : List AV
structure PF where
  f : Addr
  d : Addr
  il : Addr
  nm : Int
  ts : List Str
  fs : List (List Int)
  xi : List (Int × AV)
  toks : List AV
/-- lists and dicts that are not one -/
structure PN (a : PA) (e : PF) : Prop where
  n1 : a.fr ≠ a.tl
  n2 : a.fr ≠ a.nm
  n3 : a.fr ≠ a.tx
  n4 : a.fr ≠ a.fn
  n5 : a.nm ≠ a.tl
  n6 : a.nm ≠ a.tx
  n7 : a.nm ≠ a.fn
  n8 : a.tl ≠ a.tx
  n9 : a.tl ≠ a.fn
  n10 : a.nu ≠ a.an
  n11 : a.co ≠ a.inf
  n12 : a.co ≠ a.po
  m1 : e.il ≠ a.fr
  m2 : e.il ≠ a.tl
  m3 : e.il ≠ a.nm
  m4 : e.il ≠ a.tx
  m5 : e.il ≠ a.fn
  z1 : e.ts.length ≤ 100000
  z2 : e.fs.length ≤ 100000
  c : getA e.xi 7 = some (.tup [.int 1000, .str (Str.ofString "xfy")])
structure PQ (H : AH) (a : PA) (e : PF) (s : PS) : Prop where
  o : H a.P = some (parserO a s.j s.lim s.pri s.nn s.term)
  t : H a.tl = some (.list e.toks)
  f : H a.fr = some (.list s.frs)
  af : H e.f = some (frameO e.d (Str.ofString "args") 1200 (-1) e.nm 0 .none e.il)
  ai : H e.il = some (.list s.items)
  nu : H a.nu = some (.dictS s.nums)
  co : H a.co = some (.dictI s.counts)
  nm : H a.nm = some (.list s.names)
  y : Sy H a.S a.dS a.tx a.an a.fn a.fnn e.ts e.fs
  op : H a.O = some (opO a.dO a.S a.pr a.inf a.po)
  hi : H a.inf = some (.dictI e.xi)
  hq : H a.po = some (.dictI [])
section
variable {H H' : AH} {a : PA} {e : PF} {s : PS} {j' : Nat} {lim' pri' nn' : Int} {term' : AV}
theorem PQ.stepA {nums' : List (Str × AV)} {counts' : List (Int × AV)} {names' : List AV} (q : PQ H a e s) (n : PN a e) (kp : KeepL [a.P, a.nu, a.co, a.nm] H H') (o : H' a.P = some (parserO a j' lim' pri' nn' term')) (nu : H' a.nu = some (.dictS nums')) (co : H' a.co = some (.dictI counts')) (nm : H' a.nm = some (.list names')) :
    PQ H' a e { s with j := j', lim := lim', pri := pri', nn := nn', term := term', nums := nums', counts := counts', names := names' } := by
  obtain ⟨q1, q2, q3, q4, q5, q6, q7, q8, ⟨y1, y2, y3, y4, y5, y6⟩, q10, q11, q12⟩ := q
  obtain ⟨n1, n2, n3, n4, n5, n6, n7, n8, n9, n10, n11, n12, m1, m2, m3, m4, m5, -, -, -⟩ := n
  exact ⟨o, kp _ _ (by k_extra "nes") q2, kp _ _ (by k_extra "nes") q3, kp _ _ (by k_extra "nes") q4, kp _ _ (by k_extra "nes") q5, nu, co, nm, ⟨kp _ _ (by k_extra "nes") y1, kp _ _ (by k_extra "nes") y2, kp _ _ (by k_extra "nes") y3, kp _ _ (by k_extra "nes") y4, kp _ _ (by k_extra "nes") y5, y6⟩, kp _ _ (by k_extra "nes") q10, kp _ _ (by k_extra "nes") q11, kp _ _ (by k_extra "nes") q12⟩
theorem PQ.stepB {frs' : List AV} (q : PQ H a e s) (n : PN a e) (kp : KeepL [a.P, a.fr] H H') (o : H' a.P = some (parserO a j' lim' pri' nn' term')) (f : H' a.fr = some (.list frs')) :
    PQ H' a e { s with j := j', lim := lim', pri := pri', nn := nn', term := term', frs := frs' } := by
  obtain ⟨q1, q2, q3, q4, q5, q6, q7, q8, ⟨y1, y2, y3, y4, y5, y6⟩, q10, q11, q12⟩ := q
  obtain ⟨n1, n2, n3, n4, n5, n6, n7, n8, n9, n10, n11, n12, m1, m2, m3, m4, m5, -, -, -⟩ := n
  exact ⟨o, kp _ _ (by k_extra "nes") q2, f, kp _ _ (by k_extra "nes") q4, kp _ _ (by k_extra "nes") q5, kp _ _ (by k_extra "nes") q6, kp _ _ (by k_extra "nes") q7, kp _ _ (by k_extra "nes") q8, ⟨kp _ _ (by k_extra "nes") y1, kp _ _ (by k_extra "nes") y2, kp _ _ (by k_extra "nes") y3, kp _ _ (by k_extra "nes") y4, kp _ _ (by k_extra "nes") y5, y6⟩, kp _ _ (by k_extra "nes") q10, kp _ _ (by k_extra "nes") q11, kp _ _ (by k_extra "nes") q12⟩
theorem PQ.stepC {items' : List AV} (q : PQ H a e s) (n : PN a e) (kp : KeepL [a.P, e.f, e.il] H H') (o : H' a.P = some (parserO a j' lim' pri' nn' term')) (af : H' e.f = some (frameO e.d (Str.ofString "args") 1200 (-1) e.nm 0 .none e.il)) (ai : H' e.il = some (.list items')) :
    PQ H' a e { s with j := j', lim := lim', pri := pri', nn := nn', term := term', items := items' } := by
  obtain ⟨q1, q2, q3, q4, q5, q6, q7, q8, ⟨y1, y2, y3, y4, y5, y6⟩, q10, q11, q12⟩ := q
  obtain ⟨n1, n2, n3, n4, n5, n6, n7, n8, n9, n10, n11, n12, m1, m2, m3, m4, m5, -, -, -⟩ := n
  exact ⟨o, kp _ _ (by k_extra "nes") q2, kp _ _ (by k_extra "nes") q3, af, ai, kp _ _ (by k_extra "nes") q6, kp _ _ (by k_extra "nes") q7, kp _ _ (by k_extra "nes") q8, ⟨kp _ _ (by k_extra "nes") y1, kp _ _ (by k_extra "nes") y2, kp _ _ (by k_extra "nes") y3, kp _ _ (by k_extra "nes") y4, kp _ _ (by k_extra "nes") y5, y6⟩, kp _ _ (by k_extra "nes") q10, kp _ _ (by k_extra "nes") q11, kp _ _ (by k_extra "nes") q12⟩
end
end
end

section
section
variable {g : Gd Mine.hp.heap_1}
noncomputable abbrev vT (n : Int) : AV := .tup [.str (Str.ofString "v"), .int n]
noncomputable def sideT (s : Nat) (n : Int) : AV := if s = 2 then dotT (vT n) nilT else vT n
/-- the tokens of one argument -/
inductive WTok (w : Str) : Nat → List AV → Prop
  | plain {p : Int} : WTok w 0 [tk (Str.ofString "var") w p]
  | round {kd : Str} {p q r : Int} : kd = Str.ofString "open" ∨ kd = Str.ofString "open_ct" → WTok w 1 [tk kd (Str.ofString "(") p, tk (Str.ofString "var") w q, tk (Str.ofString "punct") (Str.ofString ")") r]
  | list {p q r : Int} : WTok w 2 [tk (Str.ofString "punct") (Str.ofString "[") p, tk (Str.ofString "var") w q, tk (Str.ofString "punct") (Str.ofString "]") r]
noncomputable abbrev own (a : PA) : List Addr := [a.P, a.fr, a.nu, a.co, a.nm]
section
variable {H : AH} {a : PA} {e : PF} {j m sh : Nat} {nn n nn' pri : Int} {term : AV} {items names names' : List AV} {nums nums' : List (Str × AV)} {counts counts' : List (Int × AV)} {w : Str} {l rest : List AV} {K : AH → Prop}
theorem run_word (W : WTok w sh l) (hd : e.toks.drop j = l ++ rest) (hj : j < 2 ^ 30) (V : VarStep w nn nums counts names n nn' nums' counts' names') (z1 : counts.length ≤ 100000) (z2 : nums.length ≤ 100000) (z3 : names.length ≤ 100000) (N : PN a e) (q : PQ H a e ⟨j, 999, pri, nn, term, [.ref e.f], items, nums, counts, names⟩)
    (next : ∀ H', KeepL (own a) H H' → PQ H' a e ⟨j + l.length, 999, 0, nn', sideT sh n, [.ref e.f], items, nums', counts', names'⟩ → RunL g a K m 1 H') : RunL g a K (m + 3) 0 H := by
  induction W with
  | plain =>
    refine RunL.mono (RunL.mono ⟨⟨_, _, _, _, _, q.o⟩, .inr (.inl ⟨rfl, ?_⟩)⟩)
    obtain ⟨h1, h2⟩ := drop_eq hd
    refine Cal.mono (operand_var V q.o q.t (Int.natCast_nonneg _) (by simp only; lia) (by rw [Int.toNat_natCast]; exact h1) q.nu q.co q.nm z1 z2 z3 (k := fun v H' => ∃ i, v = .int i ∧ RunL g a K m i H') ?_) (fun _ _ z => z) (fun _ _ z => z) (by decide) (by simp)
    intro H' kp e1 e2 e3 e4
    exact ⟨1, rfl, next H' (kp.mono (by k_extra "subs")) (q.stepA N kp (j' := j + 1) e1 e2 e3 e4)⟩
  | round hk =>
    refine ⟨⟨_, _, _, _, _, q.o⟩, .inr (.inl ⟨rfl, ?_⟩)⟩
    obtain ⟨h1, h2⟩ := drop_eq hd
    obtain ⟨h3, h4⟩ := drop_eq h2
    obtain ⟨h5, h6⟩ := drop_eq h4
    refine Cal.mono (operand_open q.o q.t q.f (by simp) (Int.natCast_nonneg _) (by simp only; lia) hk (by rw [Int.toNat_natCast]; exact h1) (k := fun v H' => ∃ i, v = .int i ∧ RunL g a K (m + 2) i H') ?_) (fun _ _ z => z) (fun _ _ z => z) (by decide) (by simp)
    intro f d il H1 hf hil kp e1 e2 e3 e4
    have q1 := q.stepB N kp (j' := j + 1) e1 e2
    refine ⟨0, rfl, ⟨_, _, _, _, _, q1.o⟩, .inr (.inl ⟨rfl, ?_⟩)⟩
    refine Cal.mono (operand_var V q1.o q1.t (Int.natCast_nonneg _) (by simp only; lia) (by rw [Int.toNat_natCast]; exact h3) q1.nu q1.co q1.nm z1 z2 z3 (k := fun v H' => ∃ i, v = .int i ∧ RunL g a K (m + 1) i H') ?_) (fun _ _ z => z) (fun _ _ z => z) (by decide) (by simp)
    intro H2 kp2 b1 b2 b3 b4
    have q2 := q1.stepA N kp2 (j' := j + 2) b1 b2 b3 b4
    refine ⟨1, rfl, ⟨_, _, _, _, _, q2.o⟩, .inr (.inr ⟨rfl, ?_⟩)⟩
    have qo := q1.o
    have qnu := q1.nu
    have qco := q1.co
    have qnm := q1.nm
    have hf2 := kp2 _ _ (by k_extra "nes") e3
    refine operator_close (f := f) (frs := [.ref e.f]) (close_round rfl q2.o q2.t q2.f (by simp) hf2 (Int.natCast_nonneg _) (by simp only; lia) (by rw [Int.toNat_natCast]; exact h5) ?_) (by decide) (by decide) (by decide) q2.o q2.t q2.f (by simp) hf2 (Int.natCast_nonneg _) (by simp only; lia) (by rw [Int.toNat_natCast]; exact h5)
    intro H3 kp3 c1 c2
    exact ⟨1, rfl, next H3 (((kp.mono (by k_extra "subs")).trans (kp2.mono (by k_extra "subs"))).trans (kp3.mono (by k_extra "subs"))) (q2.stepB N kp3 (j' := j + 3) c1 c2)⟩
  | list =>
    refine ⟨⟨_, _, _, _, _, q.o⟩, .inr (.inl ⟨rfl, ?_⟩)⟩
    obtain ⟨h1, h2⟩ := drop_eq hd
    obtain ⟨h3, h4⟩ := drop_eq h2
    obtain ⟨h5, h6⟩ := drop_eq h4
    refine Cal.mono (operand_list q.o q.t q.f (by simp) (Int.natCast_nonneg _) (by simp only; lia) (by rw [Int.toNat_natCast]; exact h1) (by rw [show ((j : Nat) : Int) + 1 = ((j + 1 : Nat) : Int) from rfl, Int.toNat_natCast]; exact h3) (by decide) (k := fun v H' => ∃ i, v = .int i ∧ RunL g a K (m + 2) i H') ?_) (fun _ _ z => z) (fun _ _ z => z) (by decide) (by simp)
    intro f d il H1 hf hil kp e1 e2 e3 e4
    have q1 := q.stepB N kp (j' := j + 1) e1 e2
    refine ⟨0, rfl, ⟨_, _, _, _, _, q1.o⟩, .inr (.inl ⟨rfl, ?_⟩)⟩
    refine Cal.mono (operand_var V q1.o q1.t (Int.natCast_nonneg _) (by simp only; lia) (by rw [Int.toNat_natCast]; exact h3) q1.nu q1.co q1.nm z1 z2 z3 (k := fun v H' => ∃ i, v = .int i ∧ RunL g a K (m + 1) i H') ?_) (fun _ _ z => z) (fun _ _ z => z) (by decide) (by simp)
    intro H2 kp2 b1 b2 b3 b4
    have q2 := q1.stepA N kp2 (j' := j + 2) b1 b2 b3 b4
    refine ⟨1, rfl, ⟨_, _, _, _, _, q2.o⟩, .inr (.inr ⟨rfl, ?_⟩)⟩
    have qo := q1.o
    have qnu := q1.nu
    have qco := q1.co
    have qnm := q1.nm
    have qnm0 := q.nm
    have hf2 := kp2 _ _ (by k_extra "nes") e3
    have hi2 := kp2 _ _ (by k_extra "nes") e4
    refine operator_close (f := f) (frs := [.ref e.f]) (close_list rfl q2.o q2.t q2.f (by simp) hf2 hi2 (Int.natCast_nonneg _) (by simp only; lia) (by rw [Int.toNat_natCast]; exact h5) ?_) (by decide) (by decide) (by decide) q2.o q2.t q2.f (by simp) hf2 (Int.natCast_nonneg _) (by simp only; lia) (by rw [Int.toNat_natCast]; exact h5)
    intro H3 kp3 c1 c2
    exact ⟨1, rfl, next H3 (((kp.mono (by k_extra "subs")).trans (kp2.mono (by k_extra "subs"))).trans (kp3.mono (by k_extra "subs"))) (q2.stepB N kp3 (j' := j + 3) c1 c2)⟩
end
end
end

section
section
variable {g : Gd Mine.hp.heap_1}
/-- the tokens of the arguments, to the clause's end -/
inductive ArgsTok : List (Str × Nat) → List AV → Prop
  | one {w : Str} {sh : Nat} {l : List AV} {p r : Int} : WTok w sh l → ArgsTok [(w, sh)] (l ++ [tk (Str.ofString "punct") (Str.ofString ")") p, tk (Str.ofString "end") (Str.ofString ".") r])
  | more {w : Str} {sh : Nat} {l l' : List AV} {p : Int} {ws : List (Str × Nat)} : WTok w sh l → ArgsTok ws l' → ArgsTok ((w, sh) :: ws) (l ++ tk (Str.ofString "punct") (Str.ofString ",") p :: l')
inductive VarRun : List (Str × Nat) → Int → List (Str × AV) → List (Int × AV) → List AV → List AV → Int → List (Str × AV) → List (Int × AV) → List AV → Prop
  | nil {nn : Int} {nums : List (Str × AV)} {counts : List (Int × AV)} {names : List AV} : VarRun [] nn nums counts names [] nn nums counts names
  | cons {w : Str} {sh : Nat} {ws : List (Str × Nat)} {nn n nn1 nn2 : Int} {nums nums1 nums2 : List (Str × AV)} {counts counts1 counts2 : List (Int × AV)} {names names1 names2 sides : List AV} :
      VarStep w nn nums counts names n nn1 nums1 counts1 names1 → VarRun ws nn1 nums1 counts1 names1 sides nn2 nums2 counts2 names2 → VarRun ((w, sh) :: ws) nn nums counts names (sideT sh n :: sides) nn2 nums2 counts2 names2
theorem VarStep.len {u : Str} {nn n nn' : Int} {nums nums' : List (Str × AV)} {counts counts' : List (Int × AV)} {names names' : List AV} (V : VarStep u nn nums counts names n nn' nums' counts' names') : counts'.length ≤ counts.length + 1 ∧ nums'.length ≤ nums.length + 1 ∧ names'.length ≤ names.length + 1 := by
  induction V with
  | old => exact ⟨putA_len _ _ _, by lia, by lia⟩
  | new => exact ⟨putA_len _ _ _, putA_len _ _ _, by simp⟩
  | wild => exact ⟨by lia, by lia, by lia⟩
theorem notBi_side (sh : Nat) (n : Int) : notBi (sideT sh n) = true := by unfold sideT; split <;> rfl
section
variable {a : PA} {e : PF} {K : AH → Prop}
theorem WTok.le3 {w : Str} {sh : Nat} {l : List AV} (h : WTok w sh l) : l.length ≤ 3 := by induction h <;> exact Nat.le_of_ble_eq_true rfl
theorem run_args (N : PN a e) : ∀ {ws : List (Str × Nat)} {l : List AV} {j : Nat} {nn nn' pri : Int} {term : AV} {items names names' sides : List AV} {nums nums' : List (Str × AV)} {counts counts' : List (Int × AV)} {H : AH}, ArgsTok ws l → e.toks.drop j = l → j + 4 * ws.length < 2 ^ 29 → VarRun ws nn nums counts names sides nn' nums' counts' names' → counts.length + ws.length ≤ 90000 → nums.length + ws.length ≤ 90000 → names.length + ws.length ≤ 90000 → items.length + ws.length ≤ 90000 →
    PQ H a e ⟨j, 999, pri, nn, term, [.ref e.f], items, nums, counts, names⟩ →
    (∀ H' j' tok, KeepL (own a ++ [e.f, e.il, a.fn, a.fnn]) H H' → Sy H' a.S a.dS a.tx a.an a.fn a.fnn e.ts (addA e.fs [e.nm, ((items.length + ws.length : Nat) : Int)]) →
      H' a.P = some (parserO a ((j' : Nat) : Int) 1200 0 nn' (.tup [.str (Str.ofString "s"), .int (posA e.fs [e.nm, ((items.length + ws.length : Nat) : Int)] : Nat), .tup (items ++ sides)])) → H' a.nm = some (.list names') → H' a.co = some (.dictI counts') → H' a.tl = some (.list e.toks) → j' < 2 ^ 30 → e.toks[j']? = some (tk (Str.ofString "end") (Str.ofString ".") tok) → K H') →
    RunL g a K (4 * ws.length + 3) 0 H := by
  intro ws
  induction ws with
  | nil => intro l j nn nn' pri term items names names' sides nums nums' counts counts' H A; cases A
  | cons wd ws ih =>
    intro l j nn nn' pri term items names names' sides nums nums' counts counts' H A hd hj V z1 z2 z3 z4 q fin
    cases V with
    | cons V1 V2 =>
      rename_i w sh n nn1 nums1 counts1 names1 sides
      rw [List.length_cons] at hj z1 z2 z3 z4 ⊢
      have hV := V1.len
      cases A with
      | one W =>
        rename_i l p r
        cases V2
        have hl : l.length ≤ 3 := W.le3
        refine RunL.mono (n := 4 + 2) (run_word (m := 3) W hd (by lia) V1 (by lia) (by lia) (by lia) N q fun H1 kp q1 => ?_)
        have hd1 : e.toks.drop (j + l.length) = [tk (Str.ofString "punct") (Str.ofString ")") p, tk (Str.ofString "end") (Str.ofString ".") r] := by
          rw [← List.drop_drop, hd, List.drop_left]
        obtain ⟨h1, h2⟩ := drop_eq hd1
        obtain ⟨h3, -⟩ := drop_eq h2
        refine ⟨⟨_, _, _, _, _, q1.o⟩, .inr (.inr ⟨rfl, ?_⟩)⟩
        refine operator_close (f := e.f) (frs := []) (close_args (frs := []) (notBi_side sh n) q1.o q1.t q1.f (by simp) q1.af q1.ai (by simp only; lia) q1.y N.z2 (Ne.symm N.n4) (Ne.symm N.n9) (Ne.symm N.n3) (Int.natCast_nonneg _) (by simp only; lia) (by rw [Int.toNat_natCast]; exact h1) ?_) (by decide) (by decide) (by decide) q1.o q1.t q1.f (by simp) q1.af (Int.natCast_nonneg _) (by simp only; lia) (by rw [Int.toNat_natCast]; exact h1)
        intro H2 kp2 y2 b1 b2
        have qo := q1.o
        have qt := q1.t
        have qf := q1.f
        have qnm := q1.nm
        have qco := q1.co
        obtain ⟨n1, n2, n3, n4, n5, n6, n7, n8, n9, n10, n11, n12, m1, m2, m3, m4, m5, -, -, -⟩ := N
        have y4 := q1.y.f
        have y5 := q1.y.n
        have hT := kp2 _ _ (by k_extra "nes") qt
        have hN := kp2 _ _ (by k_extra "nes") qnm
        have hC := kp2 _ _ (by k_extra "nes") qco
        refine ⟨1, rfl, ⟨_, _, _, _, _, b1⟩, .inr (.inr ⟨rfl, ?_⟩)⟩
        dsimp only at b1 hN hC y2
        refine operator_done b1 hT b2 (by lia) (by lia) (by rw [show ((j + l.length : Nat) : Int) + 1 = ((j + l.length + 1 : Nat) : Int) from rfl, Int.toNat_natCast]; exact h3) ?_
        refine ⟨2, rfl, ⟨_, _, _, _, _, b1⟩, .inl ⟨rfl, ?_⟩⟩
        exact fin H2 (j + l.length + 1) r ((kp.mono (by k_extra "subs")).trans (kp2.mono (by k_extra "subs"))) y2 b1 hN hC hT (by lia) h3
      | more W A =>
        rename_i l l' p
        have hl : l.length ≤ 3 := W.le3
        rw [show 4 * (ws.length + 1) + 3 = (4 * ws.length + 3 + 1) + 3 by lia]
        refine run_word (m := 4 * ws.length + 3 + 1) W hd (by lia) V1 (by lia) (by lia) (by lia) N q fun H1 kp q1 => ?_
        have hd1 : e.toks.drop (j + l.length) = tk (Str.ofString "punct") (Str.ofString ",") p :: l' := by
          rw [← List.drop_drop, hd, List.drop_left]
        obtain ⟨h1, h2⟩ := drop_eq hd1
        refine ⟨⟨_, _, _, _, _, q1.o⟩, .inr (.inr ⟨rfl, ?_⟩)⟩
        refine operator_comma (f := e.f) (frs := []) (close_comma (frs := []) (notBi_side sh n) q1.o q1.t q1.f (by simp) q1.af q1.ai (by simp only; lia) N.m1 (Int.natCast_nonneg _) (by simp only; lia) (by rw [Int.toNat_natCast]; exact h1) ?_) q1.op q1.hi N.c (show (999 : Int) < 1000 by decide) q1.hq (by decide) q1.o q1.t q1.f (by simp) q1.af (Int.natCast_nonneg _) (by simp only; lia) (by rw [Int.toNat_natCast]; exact h1)
        intro H2 kp2 b1 b2 b3
        have q2 := q1.stepC N kp2 (j' := j + l.length + 1) b1 b2 b3
        refine ⟨0, rfl, ih A h2 (by lia) V2 (by lia) (by lia) (by lia) (by simp; lia) q2 fun H' j' tok kp3 y3 c1 c2 c3 c4 c5 c6 => ?_⟩
        have e1 : (items ++ [sideT sh n]).length + ws.length = items.length + (ws.length + 1) := by simp; lia
        rw [e1] at y3 c1
        rw [List.append_assoc] at c1
        exact fin H' j' tok (((kp.mono (by k_extra "subs")).trans (kp2.mono (by k_extra "subs"))).trans kp3) y3 c1 c2 c3 c4 c5 c6
end
end
end

section
section
variable {g : Gd Mine.hp.heap_1}
theorem Parser_spec {H : AH} {S O tl : Addr} {mode : AV} {k x : AV → AH → Prop}
    (h : ∀ P d fr nu nm co H', H P = none → H fr = none → H nu = none → H nm = none → H co = none → fr ≠ nm → Keep H H' →
      H' P = some (.inst 796 d [(Str.ofString "symbols", .ref S), (Str.ofString "operators", .ref O), (Str.ofString "mode", mode), (Str.ofString "tokens", .ref tl), (Str.ofString "place", .int 0), (Str.ofString "frames", .ref fr), (Str.ofString "limit", .int 1200), (Str.ofString "term", .none), (Str.ofString "priority", .int 0), (Str.ofString "numbers", .ref nu), (Str.ofString "names", .ref nm), (Str.ofString "counts", .ref co), (Str.ofString "next_number", .int 0)]) →
      H' fr = some (.list []) → H' nu = some (.dictS []) → H' nm = some (.list []) → H' co = some (.dictI []) → k (.ref P) H') : Cal g 2 false 796 [.ref S, .ref O, mode, .ref tl] H k x := by
  refine Cal.make (fI := 627) ⟨by k_extra "part", by k_extra "part", by k_extra "part"⟩ ?_
  intro P d hP hd hne
  refine' Cal.enter (as' := [.ref P, .ref S, .ref O, mode, .ref tl]) ["self", "symbols", "operators", "mode", "tokens"] ?F ?B ?N ?_
  k_extra "enter"
  repeat' k_extra "step"
  intro fr hfr
  repeat' k_extra "step"
  refine Ev.dictS (fun nu hnu => ?_)
  repeat' k_extra "step"
  intro nm hnm
  repeat' k_extra "step"
  refine Ev.dictI (fun co hco => ?_)
  repeat' k_extra "step"
  have f1 := uD hfr
  have f2 := uD (uN (uN (uN (uN (uN (uN hfr))))))
  have f3 := uN (uN (uN (uN (uN (uN (uN hfr))))))
  have u1 := uD hnu
  have u2 := uD (uN (uN (uN (uN hnu))))
  have u3 := uD (uN (uN (uN (uN (uN (uN (uN (uN (uN (uN (uN hnu)))))))))))
  have u4 := uN (uN (uN (uN (uN (uN (uN (uN (uN (uN (uN (uN hnu)))))))))))
  have v1 := uD hnm
  have v2 := uD (uN hnm)
  have v3 := uD (uN (uN (uN (uN (uN (uN hnm))))))
  have v4 := uD (uN (uN (uN (uN (uN (uN (uN (uN (uN (uN (uN (uN (uN hnm)))))))))))))
  have v5 := uN (uN (uN (uN (uN (uN (uN (uN (uN (uN (uN (uN (uN (uN hnm)))))))))))))
  have w1 := uD hco
  have w2 := uD (uN hco)
  have w3 := uD (uN (uN (uN hco)))
  have w4 := uD (uN (uN (uN (uN (uN (uN (uN (uN hco))))))))
  have w5 := uD (uN (uN (uN (uN (uN (uN (uN (uN (uN (uN (uN (uN (uN (uN (uN hco)))))))))))))))
  have w6 := uN (uN (uN (uN (uN (uN (uN (uN (uN (uN (uN (uN (uN (uN (uN (uN hco)))))))))))))))
  refine ⟨rfl, h P d fr nu nm co _ hP f3 u4 v5 w6 (Ne.symm v3) (fun b o e => ?_) (by k_extra "thing") (by k_extra "thing") (by k_extra "thing") (by k_extra "thing") (by k_extra "thing")⟩
  have e1 := ne_fresh hP e
  have e2 := ne_fresh hd e
  have e3 := ne_fresh f3 e
  have e4 := ne_fresh u4 e
  have e5 := ne_fresh v5 e
  have e6 := ne_fresh w6 e
  repeat (refine upd_other (by assumption) ?_)
  exact e
/-- the first tokens of a clause -/
theorem clause_run {H : AH} {a : PA} {ts : List Str} {fs : List (List Int)} {xi : List (Int × AV)} {u u' : Str} {p p' : Int} {l sides names' : List AV} {ws : List (Str × Nat)} {nn' : Int} {nums' : List (Str × AV)} {counts' : List (Int × AV)} {K : AH → Prop}
    (hP : H a.P = some (parserO a 0 1200 0 0 .none)) (hT : H a.tl = some (.list (tk (Str.ofString "name") u p :: tk (Str.ofString "open_ct") u' p' :: l))) (hF : H a.fr = some (.list [])) (hN : H a.nu = some (.dictS [])) (hM : H a.nm = some (.list [])) (hC : H a.co = some (.dictI [])) (y : Sy H a.S a.dS a.tx a.an a.fn a.fnn ts fs) (hO : H a.O = some (opO a.dO a.S a.pr a.inf a.po)) (hI : H a.inf = some (.dictI xi)) (ee : getA xi 7 = some (.tup [.int 1000, .str (Str.ofString "xfy")])) (hq : H a.po = some (.dictI []))
    (n1 : a.fr ≠ a.tl) (n2 : a.fr ≠ a.nm) (n3 : a.fr ≠ a.tx) (n4 : a.fr ≠ a.fn) (n5 : a.nm ≠ a.tl) (n6 : a.nm ≠ a.tx) (n7 : a.nm ≠ a.fn) (n8 : a.tl ≠ a.tx) (n9 : a.tl ≠ a.fn) (n10 : a.nu ≠ a.an) (n11 : a.co ≠ a.inf) (n12 : a.co ≠ a.po) (z1 : ts.length ≤ 90000) (z2 : fs.length ≤ 90000)
    (A : ArgsTok ws l) (V : VarRun ws 0 [] [] [] sides nn' nums' counts' names') (hz : ws.length ≤ 1000)
    (fin : ∀ H' j' tok, KeepL [a.P, a.fr, a.nu, a.co, a.nm, a.tx, a.an, a.fn, a.fnn] H H' → Sy H' a.S a.dS a.tx a.an a.fn a.fnn (addA ts u) (addA fs [(posA ts u : Int), ((ws.length : Nat) : Int)]) →
      H' a.P = some (parserO a ((j' : Nat) : Int) 1200 0 nn' (.tup [.str (Str.ofString "s"), .int (posA fs [(posA ts u : Int), ((ws.length : Nat) : Int)] : Nat), .tup sides])) → H' a.nm = some (.list names') → H' a.co = some (.dictI counts') → H' a.tl = some (.list (tk (Str.ofString "name") u p :: tk (Str.ofString "open_ct") u' p' :: l)) → j' < 2 ^ 30 →
      (tk (Str.ofString "name") u p :: tk (Str.ofString "open_ct") u' p' :: l)[j']? = some (tk (Str.ofString "end") (Str.ofString ".") tok) → K H') : RunL g a K (4 * ws.length + 4) 0 H := by
  refine ⟨⟨_, _, _, _, _, hP⟩, .inr (.inl ⟨rfl, ?_⟩)⟩
  refine Cal.mono (operand_name hP hT hF (by simp) y (by lia) n8 n3 n4 (by decide) (by decide) rfl rfl (k := fun v H' => ∃ i, v = .int i ∧ RunL g a K (4 * ws.length + 3) i H') ?_) (fun _ _ z => z) (fun _ _ z => z) (by decide) (by simp)
  intro f d il H1 hf hil kp y1 e1 e2 e3 e4
  have hp1 := y.o
  have hp2 := y.t
  have hp3 := y.a
  have hp4 := y.f
  have hp5 := y.n
  have g1 := addA_len ts u
  refine ⟨0, rfl, run_args (e := ⟨f, d, il, (posA ts u : Nat), addA ts u, fs, xi, tk (Str.ofString "name") u p :: tk (Str.ofString "open_ct") u' p' :: l⟩) (j := 2) (items := []) (pri := 0) (term := .none) ?N A rfl (by lia) V (by simp; lia) (by simp; lia) (by simp; lia) (by simp; lia) ?Q ?F⟩
  case N => exact ⟨n1, n2, n3, n4, n5, n6, n7, n8, n9, n10, n11, n12, Ne.symm (ne_fresh hil hF), Ne.symm (ne_fresh hil hT), Ne.symm (ne_fresh hil hM), Ne.symm (ne_fresh hil hp2), Ne.symm (ne_fresh hil hp4), by simp only; lia, by simp only; lia, ee⟩
  case Q => exact ⟨e1, kp _ _ (by k_extra "nes") hT, e2, e3, e4, kp _ _ (by k_extra "nes") hN, kp _ _ (by k_extra "nes") hC, kp _ _ (by k_extra "nes") hM, y1, kp _ _ (by k_extra "nes") hO, kp _ _ (by k_extra "nes") hI, kp _ _ (by k_extra "nes") hq⟩
  case F =>
    intro H' j' tok kp2 y2 b1 b2 b3 b4 b5 b6
    refine fin H' j' tok (fun b o nb e => ?_) (by simpa using y2) (by simpa using b1) b2 b3 b4 b5 b6
    have c1 := ne_fresh hf e
    have c2 := ne_fresh hil e
    simp only [List.mem_cons, List.not_mem_nil, or_false, not_or] at nb
    obtain ⟨d1, d2, d3, d4, d5, d6, d7, d8, d9⟩ := nb
    exact kp2 b o (by simp [*]) (kp b o (by simp [*]) e)
end
end

section
section
variable {g : Gd Mine.hp.heap_1}

theorem w22a : True := by
  (k_with "w22a" =>
    first
      | (with_reducible show OpL ..
         first
          | k_extra "call"
          | refine Cal.at (peek_spec (by k_extra "thing") (by k_extra "thing") (by lia) (by lia) (by assumption) ?_) (Ok.leB (by assumption) rfl))
      | k_extra "step")
  trivial
theorem clause_spec {H : AH} {a : PA} {ts : List Str} {fs : List (List Int)} {xi : List (Int × AV)} {u u' : Str} {p p' : Int} {l sides names' : List AV} {ws : List (Str × Nat)} {nn' : Int} {nums' : List (Str × AV)} {counts' : List (Int × AV)} {k x : AV → AH → Prop}
    (hP : H a.P = some (parserO a 0 1200 0 0 .none)) (hT : H a.tl = some (.list (tk (Str.ofString "name") u p :: tk (Str.ofString "open_ct") u' p' :: l))) (hF : H a.fr = some (.list [])) (hN : H a.nu = some (.dictS [])) (hM : H a.nm = some (.list [])) (hC : H a.co = some (.dictI [])) (y : Sy H a.S a.dS a.tx a.an a.fn a.fnn ts fs) (hO : H a.O = some (opO a.dO a.S a.pr a.inf a.po)) (hI : H a.inf = some (.dictI xi)) (ee : getA xi 7 = some (.tup [.int 1000, .str (Str.ofString "xfy")])) (hq : H a.po = some (.dictI []))
    (n1 : a.fr ≠ a.tl) (n2 : a.fr ≠ a.nm) (n3 : a.fr ≠ a.tx) (n4 : a.fr ≠ a.fn) (n5 : a.nm ≠ a.tl) (n6 : a.nm ≠ a.tx) (n7 : a.nm ≠ a.fn) (n8 : a.tl ≠ a.tx) (n9 : a.tl ≠ a.fn) (n10 : a.nu ≠ a.an) (n11 : a.co ≠ a.inf) (n12 : a.co ≠ a.po) (z1 : ts.length ≤ 90000) (z2 : fs.length ≤ 90000)
    (A : ArgsTok ws l) (V : VarRun ws 0 [] [] [] sides nn' nums' counts' names') (hz : ws.length ≤ 1000)
    (h : ∀ H' pl, KeepL [a.P, a.fr, a.nu, a.co, a.nm, a.tx, a.an, a.fn, a.fnn] H H' → Sy H' a.S a.dS a.tx a.an a.fn a.fnn (addA ts u) (addA fs [(posA ts u : Int), ((ws.length : Nat) : Int)]) →
      H' a.P = some (parserO a pl 1200 0 nn' (.tup [.str (Str.ofString "s"), .int (posA fs [(posA ts u : Int), ((ws.length : Nat) : Int)] : Nat), .tup sides])) → H' a.nm = some (.list names') → H' a.co = some (.dictI counts') → k (.tup [.str (Str.ofString "s"), .int (posA fs [(posA ts u : Int), ((ws.length : Nat) : Int)] : Nat), .tup sides]) H') : Cal g 7 true 634 [.ref a.P] H k x := by
  refine' Cal.enter (as' := [.ref a.P]) ["self"] ?F ?B ?N ?_
  k_extra "enter"
  repeat' k_extra "w22a"
  refine Cal.at (parse_spec (n := 4 * ws.length + 4) hP ?_) (Ok.leB (by assumption) rfl)
  rw [upd_self hP]
  refine clause_run hP hT hF hN hM hC y hO hI ee hq n1 n2 n3 n4 n5 n6 n7 n8 n9 n10 n11 n12 z1 z2 A V hz ?_
  intro H' j' tok kp y' e1 e2 e3 e4 e5 e6
  refine ⟨_, _, _, _, _, rfl, e1, ?_⟩
  repeat' k_extra "w22a"
  exact h H' _ kp y' e1 e2 e3
noncomputable def nameAV (q : Str × Int) : AV := .tup [.str q.1, .int q.2]
theorem singles_spec {H : AH} {a : PA} {pl lim pri nn : Int} {term : AV} {ns : List (Str × Int)} {counts : List (Int × AV)} {cn : Int → Int} {k x : AV → AH → Prop}
    (hP : H a.P = some (parserO a pl lim pri nn term)) (hM : H a.nm = some (.list (ns.map nameAV))) (hC : H a.co = some (.dictI counts)) (hc : ∀ q ∈ ns, getA counts q.2 = some (.int (cn q.2)) ∧ 0 < q.1.length) (hz : ns.length ≤ 10000)
    (h : ∀ b, H b = none → k (.ref b) (upd H b (.list ((ns.filter fun q => decide (cn q.2 = 1) && !decide (Txt.item q.1 0 = Str.ofString "_")).map nameAV)))) : Cal g 3 true 641 [.ref a.P] H k x := by
  refine' Cal.enter (as' := [.ref a.P]) ["self"] ?F ?B ?N ?_
  k_extra "enter"
  repeat' k_extra "w22a"
  intro b hb
  repeat' k_extra "w22a"
  refine EvIt.val ?_
  repeat' k_extra "w22a"
  have n1 := ne_fresh hb hP
  have n2 := ne_fresh hb hM
  have n3 := ne_fresh hb hC
  refine (?key : ∀ (ms : List (Str × Int)) (us : List (Str × Int)) (ρ : Loc), (∀ q ∈ ms, getA counts q.2 = some (.int (cn q.2)) ∧ 0 < q.1.length) → us.length + ms.length ≤ 10000 → ns.filter (fun q => decide (cn q.2 = 1) && !decide (Txt.item q.1 0 = Str.ofString "_")) = us ++ ms.filter (fun q => decide (cn q.2 = 1) && !decide (Txt.item q.1 0 = Str.ofString "_")) → ρ (Str.ofString "self") = some (.ref a.P) → ρ (Str.ofString "found") = some (.ref b) → ForL g _ _ _ _ _ (ms.map nameAV) ρ (upd H b (.list (us.map nameAV)))) ns [] _ hc (by simpa using hz) rfl (by k_extra "name") (by k_extra "name")
  intro ms
  induction ms with
  | nil =>
    intro us ρ _ hl he hs hf
    refine ForL.nil ?_
    repeat' k_extra "w22a"
    have h' := h b hb
    rw [he, List.filter_nil, List.append_nil] at h'
    exact h'
  | cons q ms ih =>
    intro us ρ hm hl he hs hf
    obtain ⟨c1, c2⟩ := hm q (.head _)
    rw [List.length_cons] at hl
    have hlen : (us.map nameAV).length = us.length := List.length_map ..
    rw [List.map_cons]
    refine ForL.cons ?_
    show As g _ _ (AV.tup [.str q.1, .int q.2]) _ _ _
    repeat' k_extra "w22a"
    refine Op2.itemDI (by k_extra "thing") c1 ?_
    repeat' k_extra "w22a"
    · refine Op2.itemS (by decide) (by lia) (by decide) ?_
      repeat' k_extra "w22a"
      · refine turnF_next (by k_extra "thing") ?_
        rw [upd_upd]
        have e1 : us.map nameAV ++ [AV.tup [.str q.1, .int q.2]] = (us ++ [q]).map nameAV := by rw [List.map_append]; rfl
        rw [e1]
        rename_i hc1 hc2
        exact ih _ _ (fun r hr => hm r (.tail _ hr)) (by simp; lia) (by rw [he, List.filter_cons_of_pos (by simp [*])]; simp) (by k_extra "name") (by k_extra "name")
      · refine turnF_next (by k_extra "thing") ?_
        rename_i hc1 hc2
        exact ih _ _ (fun r hr => hm r (.tail _ hr)) (by lia) (by rw [he, List.filter_cons_of_neg (by simp [*])]) (by k_extra "name") (by k_extra "name")
    · refine turnF_next (by k_extra "thing") ?_
      rename_i hc1
      exact ih _ _ (fun r hr => hm r (.tail _ hr)) (by lia) (by rw [he, List.filter_cons_of_neg (by simp [*])]) (by k_extra "name") (by k_extra "name")
end
end

section
section
variable {g : Gd Mine.hp.heap_1}
theorem clsReader : ClsF (Mine.hp.heap_1 g.w.params) 839 := ⟨by k_extra "part", by k_extra "part", by k_extra "part", by k_extra "part", by k_extra "part"⟩
theorem Tokenizer_spec {H : AH} {cs : Addr} {i : Int} {k x : AV → AH → Prop} (h : ∀ t d H', H t = none → Keep H H' → H' t = some (tokO d cs i i) → k (.ref t) H') : Cal g 2 false 370 [.ref cs, .int i] H k x := by
  refine Cal.make (fI := 248) ⟨by k_extra "part", by k_extra "part", by k_extra "part"⟩ ?_
  intro t d ht hd hne
  refine' Cal.enter (as' := [.ref t, .ref cs, .int i]) ["self", "codes", "at"] ?F ?B ?N ?_
  (case F => exact ⟨⟨_, _, _, by k_extra "part"⟩, by k_extra "part"⟩)
  (case B =>
    intro s vs hv K
    obtain ⟨v, w, u, rfl, -⟩ := hv.inv3
    exact ⟨[v, w, u], hv, binds_K K rfl (by k_extra "part") rfl rfl rfl⟩)
  (case N => kernel_rfl)
  intro A L ok
  dsimp only [locOf]
  repeat' k_extra "step"
  refine ⟨rfl, h t d _ ht (fun b o e => ?_) (by k_extra "thing")⟩
  have e1 := ne_fresh ht e
  have e2 := ne_fresh hd e
  repeat (refine upd_other (by assumption) ?_)
  exact e
noncomputable abbrev readerO (d S O F t : Addr) (i : Int) : AObj := .inst 839 d [(Str.ofString "symbols", .ref S), (Str.ofString "operators", .ref O), (Str.ofString "flags", .ref F), (Str.ofString "tokenizer", .ref t), (Str.ofString "at", .int i)]
theorem Reader_spec {H : AH} {S O F cs : Addr} {k x : AV → AH → Prop} (h : ∀ r d t dt H', H r = none → H t = none → Keep H H' → H' r = some (readerO d S O F t 0) → H' t = some (tokO dt cs 0 0) → k (.ref r) H') : Cal g 4 false 839 [.ref S, .ref O, .ref F, .ref cs] H k x := by
  refine Cal.make (fI := 815) ⟨by k_extra "part", by k_extra "part", by k_extra "part"⟩ ?_
  intro r d hr hd hne
  refine' Cal.enter (as' := [.ref r, .ref S, .ref O, .ref F, .ref cs, .int 0]) ["self", "symbols", "operators", "flags", "codes", "at"] ?F ?B ?N ?_
  (case F => exact ⟨⟨_, _, _, by k_extra "part"⟩, by k_extra "part"⟩)
  (case B =>
    intro s vs hv K
    cases hv with | cons h1 hv => cases hv with | cons h2 hv => cases hv with | cons h3 hv => cases hv with | cons h4 hv => cases hv with | cons h5 hv => cases hv; exact ⟨[_, _, _, _, _, .int 0 _], .cons h1 (.cons h2 (.cons h3 (.cons h4 (.cons h5 (VRs.cons (.int _ _) .nil))))), binds_K K rfl (by k_extra "part") rfl rfl rfl⟩)
  (case N => kernel_rfl)
  intro A L ok
  dsimp only [locOf]
  repeat' k_extra "step"
  refine Cal.at (Tokenizer_spec ?_) (Ok.leB (by assumption) rfl)
  intro t dt H' ht kp e1
  have hr' : H' r = some (.inst 839 d [(Str.ofString "symbols", .ref S), (Str.ofString "operators", .ref O), (Str.ofString "flags", .ref F)]) := kp _ _ (upd_same _ _ _)
  have n1 : t ≠ r := ne_kind e1 hr' rfl
  repeat' k_extra "step"
  simp only [upd_none] at ht
  refine ⟨rfl, h r d t dt _ hr ht.2.2.2.2.2 (fun b o e => ?_) (by k_extra "thing") (by k_extra "thing")⟩
  have f1 := ne_fresh hr e
  have f2 := ne_fresh hd e
  have e' := kp b o (by repeat (first | exact e | refine upd_other (by assumption) ?_))
  k_extra "thing"
/-- what comes next -/
inductive NStep (l : List Nat) (o : Int) : Int → AV → Int → Prop
  | eof {a p : Int} : Gap l a p → (l.length : Int) ≤ p → NStep l o a (tk (Str.ofString "eof") (Str.ofString "") p) p
  | «open» {a p : Int} : Gap l a p → cAt l p = 40 → p > a ∨ p = o → NStep l o a (tk (Str.ofString "open") (Str.ofString "(") p) (p + 1)
  | open_ct {p : Int} : Gap l p p → cAt l p = 40 → p ≠ o → NStep l o p (tk (Str.ofString "open_ct") (Str.ofString "(") p) (p + 1)
  | name {a p q c : Int} : Gap l a p → Word l p q → cAt l p = c → 97 ≤ c ∧ c ≤ 122 → NStep l o a (tk (Str.ofString "name") (txt (runL l p q)) p) q
  | var {a p q c : Int} : Gap l a p → Word l p q → cAt l p = c → 65 ≤ c ∧ c ≤ 90 ∨ c = 95 → NStep l o a (tk (Str.ofString "var") (txt (runL l p q)) p) q
  | «end» {a p v : Int} : Gap l a p → cAt l p = 46 → cAt l (p + 1) = v → v = -1 ∨ v = 37 ∨ layout v → NStep l o a (tk (Str.ofString "end") (Str.ofString ".") p) (p + 1)
  | punct {a p c : Int} : Gap l a p → cAt l p = c → punc c → NStep l o a (tk (Str.ofString "punct") ⟨#[c.toNat]⟩ p) (p + 1)
theorem next_spec {H : AH} {t d cs : Addr} {a b o : Int} {l : List Nat} {tok : AV} {k x : AV → AH → Prop} (N : NStep l o a tok b) (hT : H t = some (tokO d cs a o)) (C : Cds H cs l) (h0 : 0 ≤ a) (ha : a ≤ l.length) (hl : l.length ≤ 1000000) (h : k tok (upd H t (tokO d cs b o))) : Cal g 4 true 276 [.ref t] H k x := by
  induction N with
  | eof G h1 => exact next_eof_spec G h1 hT C h0 ha h
  | «open» G h1 h2 => exact next_open_spec G h1 h2 hT C h0 ha h
  | open_ct G h1 h2 => exact next_open_ct_spec G h1 h2 hT C h0 ha h
  | name G W h1 h2 => exact next_name_spec G W h1 h2 hT C h0 ha hl h
  | var G W h1 h2 => exact next_var_spec G W h1 h2 hT C h0 ha hl h
  | «end» G h1 h2 h3 => exact next_end_spec G h1 h2 h3 hT C h0 ha h
  | punct G h1 h2 => exact next_punct_spec G h1 h2 hT C h0 ha h
theorem NStep.le {l : List Nat} {o a b : Int} {tok : AV} (N : NStep l o a tok b) (h0 : 0 ≤ a) (ha : a ≤ l.length) : 0 ≤ b ∧ b ≤ l.length := by
  induction N with
  | eof G h1 => have := G.le h0 ha; lia
  | «open» G h1 h2 => have := G.le h0 ha; have := cAt_lt (by lia) h1 (by decide); lia
  | open_ct G h1 h2 => have := G.le h0 ha; have := cAt_lt (by lia) h1 (by decide); lia
  | name G W h1 h2 => have := G.le h0 ha; have := W.le (by lia) (by lia); lia
  | var G W h1 h2 => have := G.le h0 ha; have := W.le (by lia) (by lia); lia
  | «end» G h1 h2 h3 => have := G.le h0 ha; have := cAt_lt (by lia) h1 (by decide); lia
  | punct G h1 h2 => have := G.le h0 ha; have := cAt_lt (by lia) h1 (by unfold punc at h2; lia); lia
end
end

section
section
variable {g : Gd Mine.hp.heap_1}
/-- the tokens from the one in hand -/
inductive GCur (l : List Nat) (o : Int) : AV → Int → List AV → AV → Int → Prop
  | stop {kd u : Str} {p b : Int} : kd = Str.ofString "end" ∨ kd = Str.ofString "eof" → GCur l o (tk kd u p) b [] (tk kd u p) b
  | more {kd u : Str} {p b b' c : Int} {tok' last : AV} {ts : List AV} : kd ≠ Str.ofString "end" → kd ≠ Str.ofString "eof" → NStep l o b tok' b' → GCur l o tok' b' ts last c → GCur l o (tk kd u p) b (tk kd u p :: ts) last c
theorem gather_spec {H : AH} {r d S O F t dt cs : Addr} {i a b c o : Int} {l : List Nat} {tok last : AV} {ts out : List AV} {k x : AV → AH → Prop} (hR : H r = some (readerO d S O F t i)) (hT : H t = some (tokO dt cs a o)) (C : Cds H cs l) (h0 : 0 ≤ a) (ha : a ≤ l.length) (hl : l.length ≤ 1000000) (N : NStep l o a tok b) (G : GCur l o tok b ts last c) (hz : ts.length ≤ 100000)
    (ho : (∃ u p, last = tk (Str.ofString "end") u p ∧ out = ts ++ [last]) ∨ ((∃ u p, last = tk (Str.ofString "eof") u p) ∧ ts = [] ∧ out = []))
    (h : ∀ q H', H q = none → KeepL [t, r] H H' → H' t = some (tokO dt cs c o) → H' r = some (readerO d S O F t c) → H' q = some (.list out) → k (.ref q) H') : Cal g 6 true 836 [.ref r] H k x := by
  have hn := C.ne hT
  have hCs := C.h
  have nrt : r ≠ t := ne_kind hR hT rfl
  refine' Cal.enter (as' := [.ref r]) ["self"] ?F ?B ?N ?_
  k_extra "enter"
  repeat' k_extra "step"
  intro q hq
  have q1 := ne_fresh hq hR
  have q2 := ne_fresh hq hT
  have q3 := ne_fresh hq hCs
  have C1 : Cds (upd H q (.list [])) cs l := C.upd q3
  repeat' k_extra "step"
  refine Cal.at (next_spec N (by k_extra "thing") C1 h0 ha hl ?_) (Ok.leB (by assumption) rfl)
  have hb := N.le h0 ha
  repeat' k_extra "step"
  refine (?key : ∀ (tok : AV) (b : Int) (ts' : List AV) (us : List AV) (H' : AH) (ρ : Loc), GCur l o tok b ts' last c → us ++ ts' = ts → 0 ≤ b → b ≤ l.length → KeepL [t, q] H H' → H' t = some (tokO dt cs b o) → H' q = some (.list us) → ρ (Str.ofString "self") = some (.ref r) → ρ (Str.ofString "tokens") = some (.ref q) → ρ (Str.ofString "token") = some tok → Lp g _ _ _ ρ H' _ _) tok b ts [] _ _ G rfl hb.1 hb.2 (((KeepL.refl _ _).upd (by simp)).upd (by simp)) (by k_extra "thing") (by k_extra "thing") (by k_extra "name") (by k_extra "name") (by k_extra "name")
  intro tok b ts' us H' ρ G
  induction G generalizing us H' ρ with
  | stop hk =>
    intro he hb0 hb1 kp e1 e2 s1 s2 s3
    have e3 := kp _ _ (by simp; exact ⟨nrt, q1⟩) hR
    rw [List.append_nil] at he
    subst he
    rcases ho with ⟨u', p', e4, rfl⟩ | ⟨⟨u', p', e4⟩, rfl, rfl⟩
    · cases e4
      refine Lp.step ?_
      repeat' k_extra "step"
      refine h q _ hq (fun y oy ny ey => ?_) (by k_extra "thing") (by k_extra "thing") (by k_extra "thing")
      simp only [List.mem_cons, List.not_mem_nil, or_false, not_or] at ny
      have f1 := ne_fresh hq ey
      exact (upd_ne f1).trans ((upd_ne ny.2).trans (kp y oy (by simp; exact ⟨ny.1, f1⟩) ey))
    · cases e4
      refine Lp.step ?_
      repeat' k_extra "step"
      refine ifF (show ¬ false = true from Bool.false_ne_true) ?_
      repeat' k_extra "step"
      refine h q _ hq (fun y oy ny ey => ?_) (by k_extra "thing") (by k_extra "thing") (by k_extra "thing")
      simp only [List.mem_cons, List.not_mem_nil, or_false, not_or] at ny
      have f1 := ne_fresh hq ey
      exact (upd_ne ny.2).trans (kp y oy (by simp; exact ⟨ny.1, f1⟩) ey)
  | more h1 h2 N' G' ih =>
    intro he hb0 hb1 kp e1 e2 s1 s2 s3
    have e3 := kp _ _ (by simp; exact ⟨nrt, q1⟩) hR
    have e4 := kp _ _ (by simp; exact ⟨hn, q3⟩) hCs
    have C2 : Cds H' cs l := ⟨e4, C.b, C.z⟩
    have hlen : us.length ≤ 100000 := by rw [← he] at hz; simp at hz; lia
    refine Lp.step ?_
    repeat' k_extra "step"
    refine Cal.at (next_spec N' (by k_extra "thing") (C2.upd q3) hb0 hb1 hl ?_) (Ok.leB (by assumption) rfl)
    have hb' := N'.le hb0 hb1
    repeat' k_extra "step"
    refine ih ?_ ?_ ?_ (us ++ [_]) _ _ (by simpa using he) hb'.1 hb'.2 ((kp.upd (by simp)).upd (by simp)) (by k_extra "thing") (by k_extra "thing") (by k_extra "name") (by k_extra "name") (by k_extra "name") <;> assumption
end
end

section
section
variable {g : Gd Mine.hp.heap_1}
section
variable {H : AH} {r d S dS tx an fn fnn O dO pr inf po F dF va fi fx t dt cs : Addr} {i a b c o : Int} {m : Nat} {l : List Nat} {ts : List Str} {fs : List (List Int)} {xv : List (Str × AV)} {v u : Str} {k x : AV → AH → Prop}
theorem value_raw (iF : H F = some (flO dF S va fi fx)) (iv : H va = some (.dictS xv)) (e1 : getA xv u = some (.int m)) (h : k (.tup [.str (Str.ofString "a"), .int m]) H) : Cal g 2 true 534 [.ref F, .str u] H k x := by
  refine' Cal.enter (as' := [.ref F, .str u]) ["self", "name"] ?F ?B ?N ?_
  k_extra "enter"
  repeat' k_extra "step"
  refine Op2.notInDS (by k_extra "thing") ?_
  rw [e1]
  simp only [Option.isSome_some, Bool.not_true]
  repeat' k_extra "step"
  refine Op2.itemDS (by k_extra "thing") e1 ?_
  repeat' k_extra "step"
  refine Cal.at (atomT_spec ?_) (Ok.leB (by assumption) rfl)
  repeat' k_extra "step"
  exact h
theorem string_mode_spec (hR : H r = some (readerO d S O F t i)) (iF : H F = some (flO dF S va fi fx)) (iv : H va = some (.dictS xv)) (e1 : getA xv (Str.ofString "double_quotes") = some (.int m)) (y : Sy H S dS tx an fn fnn ts fs) (em : ts[m]? = some v) (hz : ts.length ≤ 100000) (h : k (.str v) H) : Cal g 3 true 829 [.ref r] H k x := by
  have yo := y.o
  refine' Cal.enter (as' := [.ref r]) ["self"] ?F ?B ?N ?_
  k_extra "enter"
  repeat' k_extra "step"
  refine Cal.at (value_raw iF iv e1 ?_) (Ok.leB (by assumption) rfl)
  repeat' k_extra "step"
  refine Cal.at (text_spec y em hz ?_) (Ok.leB (by assumption) rfl)
  repeat' k_extra "step"
  exact h
theorem read_eof (hR : H r = some (readerO d S O F t i)) (hT : H t = some (tokO dt cs a o)) (C : Cds H cs l) (h0 : 0 ≤ a) (ha : a ≤ l.length) (hl : l.length ≤ 1000000) {p : Int} (N : NStep l o a (tk (Str.ofString "eof") u p) b) 
    (h : ∀ H', KeepL [t, r] H H' → k .none H') : Cal g 8 true 822 [.ref r] H k x := by
  refine' Cal.enter (as' := [.ref r]) ["self"] ?F ?B ?N ?_
  k_extra "enter"
  repeat' k_extra "step"
  refine Cal.at (gather_spec hR hT C h0 ha hl N (.stop (.inr rfl)) (by simp) (.inr ⟨⟨_, _, rfl⟩, rfl, rfl⟩) ?_) (Ok.leB (by assumption) rfl)
  intro q H' hq kp e1 e2 e3
  have hz2 : ([] : List AV).length < 2 ^ 60 := by simp
  repeat' k_extra "step"
  exact h H' kp
theorem read_clause {xi : List (Int × AV)} {tok last : AV} {tts : List AV} {u' : Str} {p p' : Int} {l' sides : List AV} {ws : List (Str × Nat)} {nn' : Int} {nums' : List (Str × AV)} {counts' : List (Int × AV)} {ns : List (Str × Int)} {cn : Int → Int}
    (hR : H r = some (readerO d S O F t i)) (hT : H t = some (tokO dt cs a o)) (C : Cds H cs l) (h0 : 0 ≤ a) (ha : a ≤ l.length) (hl : l.length ≤ 1000000) (N : NStep l o a tok b) (G : GCur l o tok b tts last c) (hz : tts.length ≤ 100000) {ul : Str} {pl : Int} (hlast : last = tk (Str.ofString "end") ul pl)
    (etok : tts ++ [last] = tk (Str.ofString "name") u p :: tk (Str.ofString "open_ct") u' p' :: l') (A : ArgsTok ws l') (V : VarRun ws 0 [] [] [] sides nn' nums' counts' (ns.map nameAV)) (hws : ws.length ≤ 1000)
    (hc : ∀ q ∈ ns, getA counts' q.2 = some (.int (cn q.2)) ∧ 0 < q.1.length) (hns : ns.length ≤ 10000)
    (iF : H F = some (flO dF S va fi fx)) (iv : H va = some (.dictS xv)) (e1 : getA xv (Str.ofString "double_quotes") = some (.int m)) (y : Sy H S dS tx an fn fnn ts fs) (em : ts[m]? = some v) (hO : H O = some (opO dO S pr inf po)) (hI : H inf = some (.dictI xi)) (ee : getA xi 7 = some (.tup [.int 1000, .str (Str.ofString "xfy")])) (hq : H po = some (.dictI [])) (z1 : ts.length ≤ 90000) (z2 : fs.length ≤ 90000)
    (h : ∀ nm sg H', H nm = none → H sg = none → nm ≠ sg → KeepL [t, r, tx, an, fn, fnn] H H' → Sy H' S dS tx an fn fnn (addA ts u) (addA fs [(posA ts u : Int), ((ws.length : Nat) : Int)]) → H' t = some (tokO dt cs c o) → H' r = some (readerO d S O F t c) → H' nm = some (.list (ns.map nameAV)) →
      H' sg = some (.list ((ns.filter fun q => decide (cn q.2 = 1) && !decide (Txt.item q.1 0 = Str.ofString "_")).map nameAV)) → k (.tup [.tup [.str (Str.ofString "s"), .int (posA fs [(posA ts u : Int), ((ws.length : Nat) : Int)] : Nat), .tup sides], .ref nm, .ref sg]) H') : Cal g 9 true 822 [.ref r] H k x := by
  have y1 := y.o
  have y2 := y.t
  have y3 := y.a
  have y4 := y.f
  have y5 := y.n
  refine' Cal.enter (as' := [.ref r]) ["self"] ?F ?B ?N ?_
  k_extra "enter"
  repeat' k_extra "step"
  refine Cal.at (gather_spec hR hT C h0 ha hl N G hz (.inl ⟨_, _, hlast, etok.symm⟩) ?_) (Ok.leB (by assumption) rfl)
  intro q H1 hq1 kp1 b1 b2 b3
  have hlen : (tk (Str.ofString "name") u p :: tk (Str.ofString "open_ct") u' p' :: l').length < 2 ^ 60 := by rw [← etok]; simp; lia
  repeat' k_extra "step"
  refine ifF (show ¬ false = true from Bool.false_ne_true) ?_
  repeat' k_extra "step"
  have c1 := kp1 _ _ (by k_extra "nes") iF
  have c2 := kp1 _ _ (by k_extra "nes") iv
  have c3 := y.keepL kp1 (by k_extra "nes") (by k_extra "nes") (by k_extra "nes") (by k_extra "nes") (by k_extra "nes")
  have c4 := kp1 _ _ (by k_extra "nes") hO
  have c5 := kp1 _ _ (by k_extra "nes") hI
  have c6 := kp1 _ _ (by k_extra "nes") hq
  refine Cal.at (string_mode_spec b2 c1 c2 e1 c3 em (by lia) ?_) (Ok.leB (by assumption) rfl)
  repeat' k_extra "step"
  refine Cal.at (Parser_spec ?_) (Ok.leB (by assumption) rfl)
  intro P dP fr nu nm co H2 f1 f2 f3 f4 f5 n0 kp2 g1 g2 g3 g4 g5
  have m1 := c3.t
  have m2 := c3.f
  have m3 := c3.a
  have m4 := c3.o
  have m5 := c3.n
  have t1 : q ≠ tx := Ne.symm (ne_fresh hq1 y2)
  have t2 : q ≠ fn := Ne.symm (ne_fresh hq1 y4)
  have c3' : Sy H2 S dS tx an fn fnn ts fs := ⟨kp2 _ _ c3.o, kp2 _ _ c3.t, kp2 _ _ c3.a, kp2 _ _ c3.f, kp2 _ _ c3.n, c3.ne⟩
  have g6 := kp2 _ _ b3
  repeat' k_extra "step"
  refine Cal.at (clause_spec (a := ⟨P, dP, S, dS, tx, an, fn, fnn, O, dO, pr, inf, po, q, fr, nu, nm, co, .str v⟩) g1 g6 g2 g3 g4 g5 c3' (kp2 _ _ c4) (kp2 _ _ c5) ee (kp2 _ _ c6) (by k_extra "ne") n0 (by k_extra "ne") (by k_extra "ne") (by k_extra "ne") (by k_extra "ne") (by k_extra "ne") t1 t2 (by k_extra "ne") (by k_extra "ne") (by k_extra "ne") z1 z2 A V hws ?_) (Ok.leB (by assumption) rfl)
  intro H3 pl3 kp3 y3' d1 d2 d3
  dsimp only at kp3 d1 d2 d3 y3'
  repeat' k_extra "step"
  refine Cal.at (singles_spec (a := ⟨P, dP, S, dS, tx, an, fn, fnn, O, dO, pr, inf, po, q, fr, nu, nm, co, .str v⟩) (cn := cn) d1 d2 d3 hc hns ?_) (Ok.leB (by assumption) rfl)
  intro sg hsg
  repeat' k_extra "step"
  have b1' := kp2 _ _ b1
  have b2' := kp2 _ _ b2
  have w1 := kp2 _ _ m1
  have w2 := kp2 _ _ m2
  have w3 := kp2 _ _ m3
  have w5 := kp2 _ _ m5
  have b1'' := kp3 _ _ (by k_extra "nes") b1'
  have b2'' := kp3 _ _ (by k_extra "nes") b2'
  have v1 := y3'.t
  have v2 := y3'.a
  have v3 := y3'.f
  have v4 := y3'.n
  have kall : ∀ y oy, y ∉ [t, r, tx, an, fn, fnn] → H y = some oy → H3 y = some oy ∧ y ≠ nm := fun y oy ny e => by
    simp only [List.mem_cons, List.not_mem_nil, or_false, not_or] at ny
    obtain ⟨x1, x2, x3, x4, x5, x6⟩ := ny
    have e' := kp1 y oy (by simp; exact ⟨x1, x2⟩) e
    exact ⟨kp3 y oy (by k_extra "nes") (kp2 y oy e'), by k_extra "ne"⟩
  have hnm : H nm = none := by
    cases q' : H nm with
    | none => rfl
    | some oy => have := kp1 nm oy (by k_extra "nes") q'; rw [f4] at this; cases this
  have hsg' : H sg = none := by
    cases q' : H sg with
    | none => rfl
    | some oy => have := (kall sg oy (by k_extra "nes") q').1; rw [hsg] at this; cases this
  refine h nm sg _ hnm hsg' (ne_fresh hsg d2) (fun y oy ny e => upd_fresh hsg (kall y oy ny e).1) (y3'.keepL ((KeepL.refl [] H3).fresh hsg) (by simp) (by simp) (by simp) (by simp) (by simp)) (upd_fresh hsg b1'') (upd_fresh hsg b2'') (upd_fresh hsg d2) (upd_same _ _ _)
end
end
end

section
section
/-! the text and its tokens -/
noncomputable abbrev Sx (l : List Nat) (p : Nat) (s : List Nat) : Prop := l.drop p = s
theorem Sx.at {l s : List Nat} {p c : Nat} (h : Sx l p (c :: s)) : cAt l (p : Int) = (c : Int) ∧ Sx l (p + 1) s := by
  obtain ⟨h1, h2⟩ := drop_eq h
  refine ⟨?_, h2⟩
  unfold cAt
  rw [Int.toNat_natCast, h1]
theorem Sx.end {l : List Nat} {p : Nat} (h : Sx l p []) : cAt l (p : Int) = -1 ∧ (l.length : Int) ≤ p := by
  have h1 := drop_nil h
  unfold cAt
  rw [Int.toNat_natCast, h1]
  exact ⟨rfl, by have := List.drop_eq_nil_iff.mp h; lia⟩
theorem Sx.app {l w s : List Nat} {p : Nat} (h : Sx l p (w ++ s)) : Sx l (p + w.length) s := by
  show l.drop (p + w.length) = s
  rw [← List.drop_drop, show l.drop p = w ++ s from h, List.drop_left]
theorem Sx.run {l w s : List Nat} {p : Nat} (h : Sx l p (w ++ s)) : runL l p ((p + w.length : Nat) : Int) = w := by
  unfold runL
  rw [Int.toNat_natCast, Int.toNat_natCast, show l.drop p = w ++ s from h, Nat.add_sub_cancel_left, List.take_left]
theorem Sx.word {l : List Nat} {c : Nat} {s : List Nat} (hc : ¬ alnum (c : Int)) : ∀ {w : List Nat} {p : Nat}, (∀ n ∈ w, alnum (n : Int)) → Sx l p (w ++ c :: s) → Word l p ((p + w.length : Nat) : Int)
  | [], p, _, h => .stop (h.at).1 hc
  | n :: w, p, hw, h => by
    have := Sx.word hc (w := w) (p := p + 1) (fun m hm => hw m (.tail _ hm)) h.at.2
    rw [show p + 1 + w.length = p + (n :: w).length by rw [List.length_cons]; lia] at this
    exact .step h.at.1 (hw n (.head _)) this
/-- no gap here -/
theorem Sx.gap0 {l s : List Nat} {p c : Nat} (h : Sx l p (c :: s)) (h1 : ¬ layout (c : Int)) (h2 : c ≠ 37) (h3 : c ≠ 47) : Gap l p p := .stop h.at.1 h1 (by lia) (by lia)
inductive GSeq (l : List Nat) (o : Int) : Int → List AV → Int → Prop
  | one {a b : Int} {tok : AV} : NStep l o a tok b → GSeq l o a [tok] b
  | cons {a b c : Int} {tok : AV} {ts : List AV} : NStep l o a tok b → GSeq l o b ts c → GSeq l o a (tok :: ts) c
theorem GSeq.app {l : List Nat} {o : Int} {ts us : List AV} {a b c : Int} (x : GSeq l o a ts b) (g : GSeq l o b us c) : GSeq l o a (ts ++ us) c := by
  induction x with
  | one h => exact .cons h g
  | cons h r ih => exact .cons h (ih g)
/-- a token that ends nothing -/
noncomputable def inner (t : AV) : Prop := ∃ kd u p, t = tk kd u p ∧ kd ≠ Str.ofString "end" ∧ kd ≠ Str.ofString "eof"
theorem GSeq.inv {l : List Nat} {o a c : Int} {ts : List AV} (x : GSeq l o a ts c) : ∃ t us b, ts = t :: us ∧ NStep l o a t b ∧ (us = [] ∧ c = b ∨ GSeq l o b us c) := by
  induction x with
  | one h => exact ⟨_, _, _, rfl, h, .inl ⟨rfl, rfl⟩⟩
  | cons h r => exact ⟨_, _, _, rfl, h, .inr r⟩
theorem GSeq.cur {l : List Nat} {o : Int} {u : Str} {p : Int} : ∀ {ts : List AV} {a c : Int}, GSeq l o a (ts ++ [tk (Str.ofString "end") u p]) c → (∀ t ∈ ts, inner t) → ∃ tok b, NStep l o a tok b ∧ GCur l o tok b ts (tk (Str.ofString "end") u p) c := by
  intro ts
  induction ts with
  | nil =>
    intro a c h _
    obtain ⟨t, us, b, e, h1, h2⟩ := h.inv
    injection e with e1 e2
    rw [← e1] at h1
    rcases h2 with ⟨_, h3⟩ | h3
    · rw [h3]; exact ⟨_, _, h1, .stop (.inl rfl)⟩
    · rw [← e2] at h3; obtain ⟨_, _, _, e, _⟩ := h3.inv; cases e
  | cons t ts ih =>
    intro a c h hi
    obtain ⟨t', us, b, e, h1, h2⟩ := h.inv
    injection e with e1 e2
    rw [← e1] at h1
    rw [← e2] at h2
    rcases h2 with ⟨h3, _⟩ | h3
    · exact absurd h3 (by simp)
    · obtain ⟨kd, u', p', rfl, k1, k2⟩ := hi t (.head _)
      obtain ⟨tok, b, g1, g2⟩ := ih h3 fun t ht => hi t (.tail _ ht)
      exact ⟨_, _, h1, .more k1 k2 g1 g2⟩
/-- a variable's name -/
structure VName (w : List Nat) : Prop where
  al : ∀ n ∈ w, alnum (n : Int)
  hd : ∃ c r, w = c :: r ∧ (65 ≤ (c : Int) ∧ (c : Int) ≤ 90 ∨ (c : Int) = 95)
noncomputable def spell (q : List Nat × Nat) : List Nat := if q.2 = 1 then 40 :: (q.1 ++ [41]) else if q.2 = 2 then 91 :: (q.1 ++ [93]) else q.1
section
variable {l s w : List Nat} {p : Nat} {o : Int}
theorem var_step (V : VName w) {c : Nat} (hc : ¬ alnum (c : Int)) (h : Sx l p (w ++ c :: s)) {a : Int} (G : Gap l a p) : NStep l o a (tk (Str.ofString "var") (txt w) p) ((p + w.length : Nat) : Int) := by
  obtain ⟨d, r, rfl, hd⟩ := V.hd
  have hr := h.run
  have := NStep.var (o := o) G (Sx.word hc V.al h) h.at.1 hd
  rwa [hr] at this
theorem notLay_var {w : List Nat} (V : VName w) : ∃ c r, w = c :: r ∧ ¬ layout (c : Int) ∧ c ≠ 37 ∧ c ≠ 47 := by
  obtain ⟨c, r, rfl, hd⟩ := V.hd
  exact ⟨c, r, rfl, by unfold layout; lia, by lia, by lia⟩
theorem punct_step {c : Nat} (hp : punc (c : Int)) (h : Sx l p (c :: s)) {a : Int} (G : Gap l a p) : NStep l o a (tk (Str.ofString "punct") ⟨#[c]⟩ p) ((p + 1 : Nat) : Int) := by
  have := NStep.punct (o := o) G h.at.1 hp
  rwa [Int.toNat_natCast] at this
/-- one argument's tokens; b: a blank stands in front -/
theorem arg_steps (V : VName w) {sh : Nat} (hs : sh < 3) {c : Nat} (hc : c = 41 ∨ c = 44) {a : Nat} (ha : a = p ∨ a + 1 = p ∧ ∃ r, Sx l a (32 :: r)) (ho : (p : Int) ≠ o) (h : Sx l p (spell (w, sh) ++ c :: s)) : ∃ toks, WTok (txt w) sh toks ∧ GSeq l o a toks ((p + (spell (w, sh)).length : Nat) : Int) ∧ ∀ t ∈ toks, inner t := by
  have hc' : ¬ alnum (c : Int) := by unfold alnum; lia
  have gap : ∀ {d : Nat} {r : List Nat}, Sx l p (d :: r) → ¬ layout (d : Int) → d ≠ 37 → d ≠ 47 → Gap l a p := by
    intro d r hx h1 h2 h3
    rcases ha with rfl | ⟨rfl, r', hr'⟩
    · exact hx.gap0 h1 h2 h3
    · exact .blank hr'.at.1 (by unfold layout; lia) (hx.gap0 h1 h2 h3)
  obtain ⟨d, r, ew, g1, g2, g3⟩ := notLay_var V
  match sh, hs with
  | 0, _ =>
    have h' : Sx l p (w ++ c :: s) := h
    refine ⟨_, .plain (p := p), .one (var_step V hc' h' (gap (by rw [ew] at h'; exact h') g1 g2 g3)), ?_⟩
    intro t ht
    simp at ht
    exact ⟨_, _, _, ht, by decide, by decide⟩
  | 1, _ =>
    have h' : Sx l p (40 :: (w ++ 41 :: (c :: s))) := by
      have : spell (w, 1) ++ c :: s = 40 :: (w ++ 41 :: (c :: s)) := by unfold spell; simp
      rw [← this]; exact h
    have h1 := h'.at.2
    have h2 := h1.app
    have G0 := gap h' (by unfold layout; lia) (by decide) (by decide)
    have G1 : Gap l ((p + 1 : Nat) : Int) ((p + 1 : Nat) : Int) := by rw [ew] at h1; exact h1.gap0 g1 g2 g3
    have G2 := h2.gap0 (by unfold layout; lia) (by decide) (by decide)
    have e : p + (spell (w, 1)).length = p + 1 + w.length + 1 := by unfold spell; simp; lia
    rw [e]
    have t2 := var_step (o := o) V (c := 41) (by unfold alnum; lia) h1 G1
    have t3 := punct_step (o := o) (by unfold punc; lia) h2 G2
    have mk : ∀ kd, (kd = Str.ofString "open" ∨ kd = Str.ofString "open_ct") → NStep l o a (tk kd (Str.ofString "(") p) ((p + 1 : Nat) : Int) → ∃ toks, WTok (txt w) 1 toks ∧ GSeq l o a toks ((p + 1 + w.length + 1 : Nat) : Int) ∧ ∀ t ∈ toks, inner t := by
      intro kd hk t1
      refine ⟨_, .round hk (p := p) (q := ((p + 1 : Nat) : Int)) (r := ((p + 1 + w.length : Nat) : Int)), .cons t1 (.cons t2 (.one t3)), ?_⟩
      intro t ht
      simp only [List.mem_cons, List.not_mem_nil, or_false] at ht
      rcases ht with rfl | rfl | rfl
      · exact ⟨_, _, _, rfl, by rcases hk with rfl | rfl <;> decide, by rcases hk with rfl | rfl <;> decide⟩
      · exact ⟨_, _, _, rfl, by decide, by decide⟩
      · exact ⟨_, _, _, rfl, by decide, by decide⟩
    rcases ha with rfl | ⟨rfl, r', hr'⟩
    · exact mk _ (.inr rfl) (NStep.open_ct G0 h'.at.1 ho)
    · exact mk _ (.inl rfl) (NStep.open G0 h'.at.1 (.inl (by lia)))
  | 2, _ =>
    have h' : Sx l p (91 :: (w ++ 93 :: (c :: s))) := by
      have : spell (w, 2) ++ c :: s = 91 :: (w ++ 93 :: (c :: s)) := by unfold spell; simp
      rw [← this]; exact h
    have h1 := h'.at.2
    have h2 := h1.app
    have G0 := gap h' (by unfold layout; lia) (by decide) (by decide)
    have G1 : Gap l ((p + 1 : Nat) : Int) ((p + 1 : Nat) : Int) := by rw [ew] at h1; exact h1.gap0 g1 g2 g3
    have G2 := h2.gap0 (by unfold layout; lia) (by decide) (by decide)
    have e : p + (spell (w, 2)).length = p + 1 + w.length + 1 := by unfold spell; simp; lia
    rw [e]
    have t1 := punct_step (o := o) (by unfold punc; lia) h' G0
    have t2 := var_step (o := o) V (c := 93) (by unfold alnum; lia) h1 G1
    have t3 := punct_step (o := o) (by unfold punc; lia) h2 G2
    refine ⟨_, .list (p := p) (q := ((p + 1 : Nat) : Int)) (r := ((p + 1 + w.length : Nat) : Int)), .cons t1 (.cons t2 (.one t3)), ?_⟩
    intro t ht
    simp only [List.mem_cons, List.not_mem_nil, or_false] at ht
    rcases ht with rfl | rfl | rfl
    · exact ⟨_, _, _, rfl, by decide, by decide⟩
    · exact ⟨_, _, _, rfl, by decide, by decide⟩
    · exact ⟨_, _, _, rfl, by decide, by decide⟩
end
end
end

section
section
noncomputable def argsC : List (List Nat × Nat) → List Nat
  | [] => []
  | [q] => spell q
  | q :: r => spell q ++ 44 :: 32 :: argsC r
noncomputable def Rest (s : List Nat) : Prop := s = [] ∨ ∃ c r, s = c :: r ∧ layout (c : Int)
theorem Rest.at {l s : List Nat} {p : Nat} (h : Rest s) (hs : Sx l p s) : ∃ v, cAt l (p : Int) = v ∧ (v = -1 ∨ v = 37 ∨ layout v) := by
  rcases h with rfl | ⟨c, r, rfl, hc⟩
  · exact ⟨_, hs.end.1, .inl rfl⟩
  · exact ⟨_, hs.at.1, .inr (.inr hc)⟩
theorem end_steps {l s : List Nat} {p : Nat} {o : Int} (hr : Rest s) (h : Sx l p (41 :: 46 :: s)) : GSeq l o p [tk (Str.ofString "punct") (Str.ofString ")") p, tk (Str.ofString "end") (Str.ofString ".") ((p + 1 : Nat) : Int)] ((p + 2 : Nat) : Int) ∧ Sx l (p + 2) s := by
  have h1 := h.at.2
  have h2 := h1.at.2
  obtain ⟨v, e1, e2⟩ := hr.at h2
  have t1 := punct_step (o := o) (c := 41) (by unfold punc; lia) h (h.gap0 (by unfold layout; lia) (by decide) (by decide))
  exact ⟨.cons t1 (.one (NStep.end (h1.gap0 (by unfold layout; lia) (by decide) (by decide)) h1.at.1 e1 e2)), h2⟩
theorem inner_punct (u : Str) (p : Int) : inner (tk (Str.ofString "punct") u p) := ⟨_, _, _, rfl, by decide, by decide⟩
theorem args_steps {l s : List Nat} {o : Int} (hr : Rest s) : ∀ (ws : List (List Nat × Nat)) (p a : Nat), ws ≠ [] → (∀ q ∈ ws, VName q.1 ∧ q.2 < 3) → (a = p ∨ a + 1 = p ∧ ∃ r, Sx l a (32 :: r)) → o < p → Sx l p (argsC ws ++ 41 :: 46 :: s) →
    ∃ toks u c, ArgsTok (ws.map fun q => (txt q.1, q.2)) (toks ++ [tk (Str.ofString "end") (Str.ofString ".") u]) ∧ GSeq l o a (toks ++ [tk (Str.ofString "end") (Str.ofString ".") u]) ((c : Nat) : Int) ∧ (∀ t ∈ toks, inner t) ∧ Sx l c s
  | [], _, _, hne, _, _, _, _ => absurd rfl hne
  | [(w, sh)], p, a, _, hv, ha, ho, h => by
    obtain ⟨V, hs⟩ := hv _ (.head _)
    obtain ⟨toks, t1, t2, t3⟩ := arg_steps (o := o) V hs (c := 41) (.inl rfl) ha (by lia) h
    obtain ⟨e1, e2⟩ := end_steps (o := o) hr (h.app)
    refine ⟨toks ++ [tk (Str.ofString "punct") (Str.ofString ")") ((p + (spell (w, sh)).length : Nat) : Int)], ((p + (spell (w, sh)).length + 1 : Nat) : Int), _, ?_, ?_, ?_, e2⟩
    · rw [List.append_assoc]; exact .one t1
    · rw [List.append_assoc]; exact t2.app e1
    · intro t ht
      rcases List.mem_append.mp ht with ht | ht
      · exact t3 t ht
      · simp at ht; subst ht; exact inner_punct _ _
  | (w, sh) :: q :: ws, p, a, _, hv, ha, ho, h => by
    obtain ⟨V, hs⟩ := hv _ (.head _)
    have h' : Sx l p (spell (w, sh) ++ 44 :: (32 :: (argsC (q :: ws) ++ 41 :: 46 :: s))) := by
      have e : argsC ((w, sh) :: q :: ws) ++ 41 :: 46 :: s = spell (w, sh) ++ 44 :: (32 :: (argsC (q :: ws) ++ 41 :: 46 :: s)) := by
        rw [argsC]
        · simp
        · intro h; cases h
      rw [← e]; exact h
    obtain ⟨toks, t1, t2, t3⟩ := arg_steps (o := o) V hs (c := 44) (.inr rfl) ha (by lia) h'
    have h1 := h'.app
    have h2 := h1.at.2
    have t4 := punct_step (o := o) (c := 44) (by unfold punc; lia) h1 (h1.gap0 (by unfold layout; lia) (by decide) (by decide))
    have ho' : o < ((p + (spell (w, sh)).length + 1 + 1 : Nat) : Int) := by lia
    obtain ⟨toks', u, c, b1, b2, b3, b4⟩ := args_steps (o := o) hr (q :: ws) (p + (spell (w, sh)).length + 1 + 1) (p + (spell (w, sh)).length + 1) (by simp) (fun x hx => hv x (.tail _ hx)) (.inr ⟨rfl, _, h2⟩) ho' h2.at.2
    refine ⟨toks ++ tk (Str.ofString "punct") (Str.ofString ",") ((p + (spell (w, sh)).length : Nat) : Int) :: toks', u, c, ?_, ?_, ?_, b4⟩
    · rw [List.append_assoc, List.cons_append, List.map_cons]; exact .more t1 b1
    · rw [List.append_assoc, List.cons_append]; exact t2.app (.cons t4 b2)
    · intro t ht
      rcases List.mem_append.mp ht with ht | ht
      · exact t3 t ht
      · rcases List.mem_cons.mp ht with rfl | ht
        · exact inner_punct _ _
        · exact b3 t ht
/-- a clause's tokens, from the place where its reading begins -/
inductive ClTok (l : List Nat) (o a : Int) (c : Nat) (fw : Str) (p : Int) (ws : List (Str × Nat)) : Prop
  | mk (tok : AV) (b : Int) (tts : List AV) (last : AV) (ul : Str) (pl p' : Int) (l' : List AV) : NStep l o a tok b → GCur l o tok b tts last (c : Int) → last = tk (Str.ofString "end") ul pl →
    tts ++ [last] = tk (Str.ofString "name") fw p :: tk (Str.ofString "open_ct") (Str.ofString "(") p' :: l' → ArgsTok ws l' → ClTok l o a c fw p ws
theorem GCur.le {l : List Nat} {o b c : Int} {tok last : AV} {ts : List AV} (G : GCur l o tok b ts last c) : 0 ≤ b → b ≤ l.length → c ≤ l.length := by
  induction G with
  | stop => intro _ h; exact h
  | more _ _ N _ ih => intro h1 h2; have := N.le h1 h2; exact ih this.1 this.2
theorem ClTok.le {l : List Nat} {o a p : Int} {c : Nat} {fw : Str} {ws : List (Str × Nat)} (C : ClTok l o a c fw p ws) (h0 : 0 ≤ a) (ha : a ≤ l.length) : c ≤ l.length := by
  cases C with
  | mk tok b tts last ul pl p' l' N G => have h := N.le h0 ha; exact Int.ofNat_le.mp (G.le h.1 h.2)
/-- a clause's tokens; b: a line's end stands in front -/
theorem clause_steps {l s : List Nat} {o : Int} {ws : List (List Nat × Nat)} {p a f : Nat} (hr : Rest s) (hf : 97 ≤ f ∧ f ≤ 122) (hne : ws ≠ []) (hv : ∀ q ∈ ws, VName q.1 ∧ q.2 < 3) (ha : a = p ∨ a + 1 = p ∧ ∃ r, Sx l a (10 :: r)) (ho : o ≤ p) (h : Sx l p (f :: 40 :: (argsC ws ++ 41 :: 46 :: s))) :
    ∃ c : Nat, ClTok l o a c (txt [f]) (p : Int) (ws.map fun q => (txt q.1, q.2)) ∧ Sx l c s := by
  have h1 := h.at.2
  have h2 := h1.at.2
  obtain ⟨toks, u, c, b1, b2, b3, b4⟩ := args_steps (o := o) hr ws (p + 1 + 1) (p + 1 + 1) hne hv (.inl rfl) (by lia) h2
  have G : Gap l a p := by
    rcases ha with rfl | ⟨rfl, r', hr'⟩
    · exact h.gap0 (by unfold layout; lia) (by lia) (by lia)
    · exact .blank hr'.at.1 (by unfold layout; lia) (h.gap0 (by unfold layout; lia) (by lia) (by lia))
  have W : Word l p ((p + 1 : Nat) : Int) := Sx.word (w := [f]) (c := 40) (by unfold alnum; lia) (by intro n hn; simp at hn; subst hn; unfold alnum; lia) h
  have t1 := NStep.name (o := o) G W h.at.1 (by lia)
  have e1 : runL l p ((p + 1 : Nat) : Int) = [f] := Sx.run (w := [f]) h
  rw [e1] at t1
  have t2 := NStep.open_ct (o := o) (h1.gap0 (by unfold layout; lia) (by decide) (by decide)) h1.at.1 (by lia)
  have gs : GSeq l o a ((tk (Str.ofString "name") (txt [f]) (p : Int) :: tk (Str.ofString "open_ct") (Str.ofString "(") ((p + 1 : Nat) : Int) :: toks) ++ [tk (Str.ofString "end") (Str.ofString ".") u]) ((c : Nat) : Int) := .cons t1 (.cons t2 b2)
  obtain ⟨tok, b, x1, x2⟩ := gs.cur (fun t ht => by
    simp only [List.mem_cons] at ht
    rcases ht with rfl | rfl | ht
    · exact ⟨_, _, _, rfl, by decide, by decide⟩
    · exact ⟨_, _, _, rfl, by decide, by decide⟩
    · exact b3 t ht)
  exact ⟨c, .mk tok b _ _ _ _ _ _ x1 x2 rfl rfl b1, b4⟩
end
end

section
section
/-! names, numbers, counts -/
noncomputable def look (ns : List (Str × Int)) (w : Str) : Option Int := (ns.find? fun q => q.1 = w).map (·.2)
noncomputable abbrev uns : Str := Str.ofString "_"
/-- what a word does: its number, the names, the total -/
noncomputable def stepN (st : List (Str × Int) × Int) (w : Str) : Int × List (Str × Int) × Int :=
  if w = uns then (st.2, st.1, st.2 + 1) else match look st.1 w with
    | some i => (i, st.1, st.2)
    | none => (st.2, st.1 ++ [(w, st.2)], st.2 + 1)
noncomputable def runN : List Str → List (Str × Int) × Int → List Int × List (Str × Int) × Int
  | [], st => ([], st.1, st.2)
  | w :: ws, st => let r := stepN st w; let q := runN ws (r.2.1, r.2.2); (r.1 :: q.1, q.2.1, q.2.2)
structure NOk (ns : List (Str × Int)) (tot : Int) : Prop where
  lt : ∀ q ∈ ns, q.2 < tot
  inj : ∀ q ∈ ns, ∀ r ∈ ns, q.2 = r.2 → q = r
  key : ∀ q ∈ ns, ∀ r ∈ ns, q.1 = r.1 → q = r
  un : ∀ q ∈ ns, q.1 ≠ uns
noncomputable def numsA (ns : List (Str × Int)) : List (Str × AV) := ns.map fun q => (q.1, .int q.2)
noncomputable def cntsA (ns : List (Str × Int)) (ct : Str → Int) : List (Int × AV) := ns.map fun q => (q.2, .int (ct q.1))
theorem getA_nums (w : Str) : ∀ ns : List (Str × Int), getA (numsA ns) w = (look ns w).map AV.int
  | [] => rfl
  | q :: ns => by
    have ih := getA_nums w ns
    unfold getA numsA look at ih ⊢
    simp only [List.map_cons, List.find?_cons]
    by_cases h : q.1 = w
    · simp [h]
    · simp only [h, decide_false]; exact ih
theorem look_mem {ns : List (Str × Int)} {w : Str} {i : Int} (h : look ns w = some i) : (w, i) ∈ ns := by
  unfold look at h
  cases e : ns.find? (fun q => decide (q.1 = w)) with
  | none => rw [e] at h; cases h
  | some q =>
    rw [e] at h
    cases h
    have h1 := List.find?_some e
    have h2 := List.mem_of_find?_eq_some e
    simp at h1
    rw [← h1]; exact h2
theorem look_none {ns : List (Str × Int)} {w : Str} (h : look ns w = none) : ∀ q ∈ ns, q.1 ≠ w := by
  intro q hq e
  unfold look at h
  rw [Option.map_eq_none_iff, List.find?_eq_none] at h
  exact h q hq (by simp [e])
theorem getA_cnts {ct : Str → Int} : ∀ {ns : List (Str × Int)}, (∀ q ∈ ns, ∀ r ∈ ns, q.2 = r.2 → q = r) → ∀ {w : Str} {i : Int}, (w, i) ∈ ns → getA (cntsA ns ct) i = some (.int (ct w))
  | [], _, _, _, h => by cases h
  | q :: ns, inj, w, i, h => by
    unfold getA cntsA
    simp only [List.map_cons, List.find?_cons]
    by_cases e : q.2 = i
    · have := inj q (.head _) (w, i) h e
      subst this
      simp
    · simp only [e, decide_false]
      have h' : (w, i) ∈ ns := by
        rcases List.mem_cons.mp h with rfl | h
        · exact absurd rfl e
        · exact h
      exact getA_cnts (fun a ha b hb => inj a (.tail _ ha) b (.tail _ hb)) h'
theorem putA_old {ns : List (Str × Int)} {ct : Str → Int} {w : Str} {i : Int} (inj : ∀ q ∈ ns, ∀ r ∈ ns, q.2 = r.2 → q = r) (key : ∀ q ∈ ns, ∀ r ∈ ns, q.1 = r.1 → q = r) (h : (w, i) ∈ ns) : putA (cntsA ns ct) i (.int (ct w + 1)) = cntsA ns (fun u => if u = w then ct u + 1 else ct u) := by
  unfold putA cntsA
  rw [if_pos (List.any_eq_true.mpr ⟨(i, .int (ct w)), List.mem_map.mpr ⟨(w, i), h, rfl⟩, by simp⟩), List.map_map]
  refine List.map_congr_left fun q hq => ?_
  simp only [Function.comp_apply]
  by_cases e : q.2 = i
  · have := inj q hq (w, i) h e
    subst this
    simp
  · have e' : q.1 ≠ w := fun e' => e (by rw [key q hq (w, i) h e'])
    simp [e, e']
theorem putA_fresh {K : Type} [DecidableEq K] {xs : List (K × AV)} {k : K} {v : AV} (h : ∀ q ∈ xs, q.1 ≠ k) : putA xs k v = xs ++ [(k, v)] := by
  unfold putA
  rw [if_neg]
  intro e
  obtain ⟨q, hq, e⟩ := List.any_eq_true.mp e
  exact h q hq (by simpa using e)
theorem NOk.step {ns : List (Str × Int)} {tot : Int} (o : NOk ns tot) (w : Str) : NOk (stepN (ns, tot) w).2.1 (stepN (ns, tot) w).2.2 := by
  unfold stepN
  split
  · exact ⟨fun q hq => by have := o.lt q hq; simp only; lia, o.inj, o.key, o.un⟩
  · rename_i hw
    split
    · exact o
    · rename_i hl
      have hn := look_none hl
      have new : ∀ q ∈ ns ++ [(w, tot)], q ∈ ns ∨ q = (w, tot) := fun q hq => by simpa using hq
      refine ⟨fun q hq => ?_, fun q hq r hr e => ?_, fun q hq r hr e => ?_, fun q hq => ?_⟩
      · rcases new q hq with h | rfl
        · have := o.lt q h; simp only; lia
        · simp only; lia
      · rcases new q hq with h | rfl <;> rcases new r hr with h' | rfl
        · exact o.inj q h r h' e
        · have := o.lt q h; simp only at e; lia
        · have := o.lt r h'; simp only at e; lia
        · rfl
      · rcases new q hq with h | rfl <;> rcases new r hr with h' | rfl
        · exact o.key q h r h' e
        · exact absurd e (hn q h)
        · exact absurd e.symm (hn r h')
        · rfl
      · rcases new q hq with h | rfl
        · exact o.un q h
        · exact hw
/-- one word, as the parser takes it -/
theorem varStep_of {ns : List (Str × Int)} {tot : Int} (o : NOk ns tot) {ct : Str → Int} (hct : ∀ u, (∀ q ∈ ns, q.1 ≠ u) → ct u = 0) (w : Str) :
    VarStep w tot (numsA ns) (cntsA ns ct) (ns.map nameAV) (stepN (ns, tot) w).1 (stepN (ns, tot) w).2.2 (numsA (stepN (ns, tot) w).2.1) (cntsA (stepN (ns, tot) w).2.1 (fun u => if u = w then ct u + 1 else ct u)) ((stepN (ns, tot) w).2.1.map nameAV) := by
  unfold stepN
  split
  · rename_i hw
    subst hw
    have e : cntsA ns (fun u => if u = uns then ct u + 1 else ct u) = cntsA ns ct := by
      unfold cntsA
      refine List.map_congr_left fun q hq => ?_
      simp only [if_neg (o.un q hq)]
    simp only
    rw [e]
    exact .wild rfl
  · rename_i hw
    split
    · rename_i i hl
      have hm := look_mem hl
      simp only
      rw [← putA_old o.inj o.key hm]
      exact .old hw (by rw [getA_nums, hl]; rfl) (getA_cnts o.inj hm)
    · rename_i hl
      have hn := look_none hl
      have e1 : numsA (ns ++ [(w, tot)]) = putA (numsA ns) w (.int tot) := by
        rw [putA_fresh]
        · unfold numsA; rw [List.map_append]; rfl
        · intro q hq
          obtain ⟨r, hr, rfl⟩ := List.mem_map.mp hq
          exact hn r hr
      have e2 : cntsA (ns ++ [(w, tot)]) (fun u => if u = w then ct u + 1 else ct u) = putA (cntsA ns ct) tot (.int 1) := by
        rw [putA_fresh]
        · unfold cntsA
          rw [List.map_append]
          congr 1
          · refine List.map_congr_left fun q hq => ?_
            simp only [if_neg (hn q hq)]
          · simp [hct w hn]
        · intro q hq
          obtain ⟨r, hr, rfl⟩ := List.mem_map.mp hq
          have := o.lt r hr
          simp only; lia
      simp only
      rw [e1, e2, List.map_append]
      exact .new hw (by rw [getA_nums, hl]; rfl)
end
end

section
section
theorem stepN_ct {ns : List (Str × Int)} {tot : Int} {ct : Str → Int} (hct : ∀ u, (∀ q ∈ ns, q.1 ≠ u) → u ≠ uns → ct u = 0) (w : Str) : ∀ u, (∀ q ∈ (stepN (ns, tot) w).2.1, q.1 ≠ u) → u ≠ uns → (fun u => if u = w then ct u + 1 else ct u) u = 0 := by
  intro u
  unfold stepN
  split
  · rename_i hw
    subst hw
    intro h hu
    simp only [if_neg hu]
    exact hct u h hu
  · split
    · rename_i i hl
      intro h hu
      have hm := look_mem hl
      have : u ≠ w := fun e => h _ hm e.symm
      simp only [if_neg this]
      exact hct u h hu
    · intro h hu
      have : u ≠ w := fun e => h (w, tot) (by simp) e.symm
      simp only [if_neg this]
      exact hct u (fun q hq => h q (by simp [hq])) hu
theorem varStep_of' {ns : List (Str × Int)} {tot : Int} (o : NOk ns tot) {ct : Str → Int} (hct : ∀ u, (∀ q ∈ ns, q.1 ≠ u) → u ≠ uns → ct u = 0) (w : Str) :
    VarStep w tot (numsA ns) (cntsA ns ct) (ns.map nameAV) (stepN (ns, tot) w).1 (stepN (ns, tot) w).2.2 (numsA (stepN (ns, tot) w).2.1) (cntsA (stepN (ns, tot) w).2.1 (fun u => if u = w then ct u + 1 else ct u)) ((stepN (ns, tot) w).2.1.map nameAV) := by
  have key := varStep_of o (ct := fun u => if u = uns then 0 else ct u) (fun u hu => by
    by_cases h : u = uns
    · simp [h]
    · simp only [if_neg h]; exact hct u hu h) w
  have e1 : cntsA ns (fun u => if u = uns then 0 else ct u) = cntsA ns ct := List.map_congr_left fun q hq => by simp only [if_neg (o.un q hq)]
  have e2 : cntsA (stepN (ns, tot) w).2.1 (fun u => if u = w then (if u = uns then 0 else ct u) + 1 else (if u = uns then 0 else ct u)) = cntsA (stepN (ns, tot) w).2.1 (fun u => if u = w then ct u + 1 else ct u) := List.map_congr_left fun q hq => by simp only [if_neg ((o.step w).un q hq)]
  rwa [e1, e2] at key
noncomputable def sidesN (ws : List (Str × Nat)) (is : List Int) : List AV := List.zipWith (fun q i => sideT q.2 i) ws is
theorem varRun_of : ∀ (ws : List (Str × Nat)) (ns : List (Str × Int)) (tot : Int) (ct : Str → Int), NOk ns tot → (∀ u, (∀ q ∈ ns, q.1 ≠ u) → u ≠ uns → ct u = 0) →
    VarRun ws tot (numsA ns) (cntsA ns ct) (ns.map nameAV) (sidesN ws (runN (ws.map (·.1)) (ns, tot)).1) (runN (ws.map (·.1)) (ns, tot)).2.2 (numsA (runN (ws.map (·.1)) (ns, tot)).2.1) (cntsA (runN (ws.map (·.1)) (ns, tot)).2.1 (fun u => ct u + ((ws.map (·.1)).count u : Nat))) ((runN (ws.map (·.1)) (ns, tot)).2.1.map nameAV)
  | [], ns, tot, ct, _, _ => by
    have e : (fun u => ct u + (([] : List (Str × Nat)).map (·.1)).count u) = ct := by funext u; simp
    show VarRun [] tot _ _ _ [] tot _ (cntsA ns _) _
    rw [e]
    exact .nil
  | (w, sh) :: ws, ns, tot, ct, o, hct => by
    have ih := varRun_of ws (stepN (ns, tot) w).2.1 (stepN (ns, tot) w).2.2 (fun u => if u = w then ct u + 1 else ct u) (o.step w) (stepN_ct hct w)
    have e : (fun u => (if u = w then ct u + 1 else ct u) + ((ws.map (·.1)).count u : Nat)) = fun u => ct u + ((((w, sh) :: ws).map (·.1)).count u : Nat) := by
      funext u
      rw [List.map_cons, List.count_cons]
      by_cases h : u = w
      · subst h
        simp
        lia
      · rw [if_neg h, if_neg (by simpa using fun e => h e.symm)]
        simp
    rw [e] at ih
    exact .cons (varStep_of' o hct w) ih
theorem NOk.nil : NOk [] 0 := ⟨fun q h => (by cases h), fun q h => (by cases h), fun q h => (by cases h), fun q h => (by cases h)⟩
theorem NOk.run : ∀ (ws : List Str) (ns : List (Str × Int)) (tot : Int), NOk ns tot → NOk (runN ws (ns, tot)).2.1 (runN ws (ns, tot)).2.2
  | [], _, _, o => o
  | w :: ws, ns, tot, o => NOk.run ws _ _ (o.step w)
end
end

section
section
/-! the law's own frame -/
noncomputable def lawBody : List Stmt := match PySem.Challenge.rw_rr0038_01.prog.main.body.getLast? with
  | some (.FunctionDef _ _ b _ _ _ _ _ _ _) => b
  | _ => []
noncomputable def lawScope : Scope := match PySem.Challenge.rw_rr0038_01.prog.main.body.getLast? with
  | some (.FunctionDef _ _ _ _ _ _ s _ _ _) => s
  | _ => { kind := .function, names := [], isGenerator := false, isCoroutine := false, more := [] }
noncomputable abbrev lawEnv (L f : Addr) (cd : Value) : Env := envOfC (Str.ofString "law") lawScope L f cd
theorem law_cells (L f : Addr) (cd : Value) : (lawEnv L f cd).cells = [(Str.ofString "step", L + 1 + 1), (Str.ofString "words", L + 1)] := by kernel_rfl
theorem look_step (a b : Addr) : List.lookup (Str.ofString "step") [(Str.ofString "step", a), (Str.ofString "words", b)] = some a := by kernel_rfl
theorem look_words (a b : Addr) : List.lookup (Str.ofString "words") [(Str.ofString "step", a), (Str.ofString "words", b)] = some b := by kernel_rfl
theorem look_step2 (a b : Addr) : List.lookup (Str.ofString "step") [(Str.ofString "words", b), (Str.ofString "step", a)] = some a := by kernel_rfl
section
variable {L f : Addr} {cd : Value}
theorem law_words : (lawEnv L f cd).cells.lookup (Str.ofString "words") = some (L + 1) := by rw [law_cells]; exact look_words _ _
theorem law_step : (lawEnv L f cd).cells.lookup (Str.ofString "step") = some (L + 1 + 1) := by rw [law_cells]; exact look_step _ _
theorem kind_words : (lawEnv L f cd).kindOf (Str.ofString "words") = some .cell := by kernel_rfl
theorem kind_step : (lawEnv L f cd).kindOf (Str.ofString "step") = some .cell := by kernel_rfl
theorem law_func : (lawEnv L f cd).func ≠ none := by intro h; cases h
theorem st_words {A : Around} : Stores ⟨A, lawEnv L f cd⟩ (Str.ofString "words") := ⟨by kernel_rfl, .inr ⟨_, law_words, kind_words, law_func⟩⟩
theorem st_step {A : Around} : Stores ⟨A, lawEnv L f cd⟩ (Str.ofString "step") := ⟨by kernel_rfl, .inr ⟨_, law_step, kind_step, law_func⟩⟩
end
/-! the law's own reckoning -/
noncomputable def wcs (n : Nat) : List Nat := match n with
  | 0 => [88]
  | 1 => [89, 122]
  | 2 => [95, 97]
  | 3 => [95, 71, 49]
  | 4 => [95]
  | _ => [65, 98, 99, 57]
noncomputable def wrd (n : Nat) : Str := txt (wcs n)
theorem menu_at {n : Nat} (h : n < 6) : ([Str.ofString "X", Str.ofString "Yz", Str.ofString "_a", Str.ofString "_G1", Str.ofString "_", Str.ofString "Abc9"].map AV.str)[n]? = some (.str (wrd n)) := by
  rcases n with _ | _ | _ | _ | _ | _ | n
  · rfl
  · rfl
  · rfl
  · rfl
  · rfl
  · rfl
  · exact absurd h (Nat.not_lt.mpr (Nat.le_add_left 6 n))
theorem vname_wcs (n : Nat) : VName (wcs n) := by
  unfold wcs
  split
  all_goals
    refine ⟨?_, _, _, rfl, by decide⟩
    unfold alnum
    decide
noncomputable def cellOf (cs : List Nat) (i : Nat) : Nat := cs[i]?.getD 0
end
end

section
section
/-! texts -/
theorem txt_append (a b : List Nat) : txt a ++ txt b = txt (a ++ b) := by
  show Str.mk (a.toArray ++ b.toArray) = Str.mk (a ++ b).toArray
  simp
theorem glueA : ∀ (r : List (List Nat)) (a : Array Nat), (r.map txt).foldl (fun acc p => acc ++ (Str.ofString ", ").cps ++ p.cps) a = a ++ (r.flatMap fun w => 44 :: 32 :: w).toArray
  | [], a => by simp
  | w :: r, a => by
    have e0 : (Str.ofString ", ").cps = #[44, 32] := by rfl
    rw [List.map_cons, List.foldl_cons, glueA r, e0]
    apply Array.ext'
    simp [txt]
theorem argsC_flat : ∀ (q : List Nat × Nat) (r : List (List Nat × Nat)), argsC (q :: r) = spell q ++ (r.map spell).flatMap fun w => 44 :: 32 :: w
  | q, [] => by simp [argsC]
  | q, p :: r => by
    rw [argsC]
    · rw [argsC_flat p r]; simp
    · intro h; cases h
theorem join_args (ws : List (List Nat × Nat)) : Txt.join (Str.ofString ", ") (ws.map fun q => txt (spell q)) = txt (argsC ws) := by
  cases ws with
  | nil => rfl
  | cons q r =>
    rw [argsC_flat]
    have := glueA (r.map spell) (spell q).toArray
    rw [List.map_map] at this
    show Str.mk ((r.map fun q => txt (spell q)).foldl (fun acc p => acc ++ (Str.ofString ", ").cps ++ p.cps) (spell q).toArray) = _
    refine (congrArg Str.mk this).trans ?_
    simp [txt]
theorem wcs_len (n : Nat) : (wcs n).length ≤ 4 := by
  unfold wcs
  split <;> decide
theorem spell_len (n s : Nat) : (spell (wcs n, s)).length ≤ 6 := by
  have := wcs_len n
  unfold spell
  split
  · simp; lia
  · split
    · simp; lia
    · simp only; lia
theorem wrd_len (n : Nat) : (wrd n).length ≤ 4 := by
  show (wcs n).toArray.size ≤ 4
  rw [List.size_toArray]; exact wcs_len n
theorem wrd_pos (n : Nat) : 0 < (wrd n).length := by
  show 0 < (wcs n).toArray.size
  rw [List.size_toArray]
  unfold wcs
  split <;> decide
theorem wcs_small (n : Nat) : ∀ m ∈ wcs n, m < 128 := by
  unfold wcs
  split <;> decide
/-- an argument's text, as the law makes it -/
noncomputable def fw (w : Str) (n : Int) : Str := if n = 0 then w else if n = 1 then Str.ofString "(" ++ w ++ Str.ofString ")" else Str.ofString "[" ++ w ++ Str.ofString "]"
theorem fw_spell (n : Nat) {s : Nat} (hs : s < 3) : fw (wrd n) s = txt (spell (wcs n, s)) := by
  match s, hs with
  | 0, _ => rfl
  | 1, _ =>
    show Str.ofString "(" ++ txt (wcs n) ++ Str.ofString ")" = _
    rw [show Str.ofString "(" = txt [40] from rfl, show Str.ofString ")" = txt [41] from rfl, txt_append, txt_append]
    rfl
  | 2, _ =>
    show Str.ofString "[" ++ txt (wcs n) ++ Str.ofString "]" = _
    rw [show Str.ofString "[" = txt [91] from rfl, show Str.ofString "]" = txt [93] from rfl, txt_append, txt_append]
    rfl
noncomputable abbrev wsC (qs : List (Nat × Nat)) : List (List Nat × Nat) := qs.map fun q => (wcs q.1, q.2)
noncomputable abbrev wsS (qs : List (Nat × Nat)) : List (Str × Nat) := qs.map fun q => (wrd q.1, q.2)
noncomputable abbrev wds (qs : List (Nat × Nat)) : List Str := qs.map fun q => wrd q.1
noncomputable abbrev shs (qs : List (Nat × Nat)) : List Int := qs.map fun q => (q.2 : Int)
theorem zip_spelled : ∀ (qs : List (Nat × Nat)), (∀ q ∈ qs, q.2 < 3) → List.zipWith fw (wds qs) (shs qs) = (wsC qs).map fun q => txt (spell q)
  | [], _ => rfl
  | q :: qs, h => by
    show fw (wrd q.1) q.2 :: List.zipWith fw (wds qs) (shs qs) = _
    rw [fw_spell q.1 (h q (.head _)), zip_spelled qs fun r hr => h r (.tail _ hr)]
    rfl
theorem argsC_small : ∀ (qs : List (Nat × Nat)), ∀ m ∈ argsC (wsC qs), m < 128
  | [], m, h => by cases h
  | q :: r, m, h => by
    rw [show wsC (q :: r) = (wcs q.1, q.2) :: wsC r from rfl, argsC_flat] at h
    have sp : ∀ q : Nat × Nat, ∀ m ∈ spell (wcs q.1, q.2), m < 128 := by
      intro q m hm
      have := wcs_small q.1
      unfold spell at hm
      split at hm
      · simp only [List.mem_cons, List.mem_append, List.not_mem_nil, or_false] at hm
        rcases hm with rfl | hm | rfl
        · decide
        · exact this m hm
        · decide
      · split at hm
        · simp only [List.mem_cons, List.mem_append, List.not_mem_nil, or_false] at hm
          rcases hm with rfl | hm | rfl
          · decide
          · exact this m hm
          · decide
        · exact this m hm
    rcases List.mem_append.mp h with h | h
    · exact sp q m h
    · rw [List.mem_flatMap] at h
      obtain ⟨w, hw, hm⟩ := h
      rw [List.mem_map] at hw
      obtain ⟨p, hp, rfl⟩ := hw
      obtain ⟨r', hr', rfl⟩ := List.mem_map.mp hp
      simp only [List.mem_cons] at hm
      rcases hm with rfl | rfl | hm
      · decide
      · decide
      · exact sp r' m hm
theorem argsC_len : ∀ (qs : List (Nat × Nat)), (argsC (wsC qs)).length ≤ 8 * qs.length
  | [] => Nat.le_refl _
  | q :: r => by
    rw [show wsC (q :: r) = (wcs q.1, q.2) :: wsC r from rfl, argsC_flat, List.length_append]
    have h1 := spell_len q.1 q.2
    have h2 : ∀ r : List (Nat × Nat), (((wsC r).map spell).flatMap fun w => 44 :: 32 :: w).length ≤ 8 * r.length := by
      intro r
      induction r with
      | nil => simp
      | cons p r ih =>
        have h3 := spell_len p.1 p.2
        simp only [wsC, List.map_cons, List.flatMap_cons, List.length_append, List.length_cons] at ih ⊢
        lia
    have := h2 r
    rw [List.length_cons]
    lia
noncomputable def tail2 : List Nat := 41 :: 46 :: 10 :: 113 :: 40 :: (argsC [([95], 0), ([88], 0)] ++ 41 :: 46 :: [])
noncomputable def wideC (qs : List (Nat × Nat)) : List Nat := 112 :: 40 :: (argsC (wsC qs) ++ tail2)
theorem wide_is (qs : List (Nat × Nat)) : Str.ofString "p(" ++ txt (argsC (wsC qs)) ++ Str.ofString ").\nq(_, X)." = txt (wideC qs) := by
  rw [show Str.ofString "p(" = txt [112, 40] from rfl, show Str.ofString ").\nq(_, X)." = txt tail2 from rfl, txt_append, txt_append]
  rfl
theorem wideC_small (qs : List (Nat × Nat)) : ∀ m ∈ wideC qs, m < 128 := by
  intro m h
  unfold wideC at h
  simp only [List.mem_cons, List.mem_append] at h
  rcases h with rfl | rfl | h | h
  · decide
  · decide
  · exact argsC_small qs m h
  · revert m; decide
theorem wideC_len (qs : List (Nat × Nat)) (h : qs.length ≤ 9) : (wideC qs).length ≤ 100 := by
  have := argsC_len qs
  unfold wideC
  simp only [List.length_cons, List.length_append]
  have : tail2.length = 11 := by decide
  lia
theorem join_ok_args (qs : List (Nat × Nat)) (h : qs.length ≤ 9) : JoinOk (Str.ofString ", ") ((wsC qs).map fun q => txt (spell q)) = true := by
  unfold JoinOk
  rw [StrLaws.joinFits (B := 6) (fun y hy => by
    obtain ⟨q, hq, rfl⟩ := List.mem_map.mp hy
    obtain ⟨p, hp, rfl⟩ := List.mem_map.mp hq
    show (spell (wcs p.1, p.2)).toArray.size ≤ 6
    rw [List.size_toArray]; exact spell_len _ _) (by
    have : (Str.ofString ", ").length = 2 := rfl
    rw [this, List.length_map, List.length_map]; lia)]
  rfl
end
end

section
section
theorem posA_addA {K : Type} [DecidableEq K] (l : List K) (k : K) : posA (addA l k) k = posA l k := by
  unfold addA posA
  split
  · rfl
  · rename_i h
    rw [List.idxOf_append, if_neg h, List.idxOf_eq_length h]
    simp
inductive FlatA : Nat → AV → Prop
  | int (n : Nat) (i : Int) : FlatA n (.int i)
  | str (n : Nat) (u : Str) : FlatA n (.str u)
  | tup {n : Nat} {ds : List AV} : (∀ d ∈ ds, FlatA n d) → FlatA (n + 1) (.tup ds)
theorem FlatA.same {H : AH} {n : Nat} {d : AV} (z : FlatA n d) : Same H n d d := by
  induction z with
  | int n i => exact .int n i
  | str n u => exact .str n u
  | tup h ih => exact .tup rfl fun i d e h1 h2 => Option.some.inj (h1.symm.trans h2) ▸ ih d (List.mem_of_getElem? h1)
theorem FlatA.vT (k : Nat) (n : Int) : FlatA (k + 1) (Mine.vT n) := .tup fun d hd => by
  simp only [List.mem_cons, List.not_mem_nil, or_false] at hd
  rcases hd with rfl | rfl
  · exact .str _ _
  · exact .int _ _
theorem FlatA.side (s : Nat) (n : Int) : FlatA 3 (sideT s n) := by
  unfold sideT
  split
  · refine .tup fun d hd => ?_
    simp only [List.mem_cons, List.not_mem_nil, or_false] at hd
    rcases hd with rfl | rfl | rfl
    · exact .str _ _
    · exact .int _ _
    · refine .tup fun d hd => ?_
      simp only [List.mem_cons, List.not_mem_nil, or_false] at hd
      rcases hd with rfl | rfl
      · exact .vT 0 n
      · refine .tup fun d hd => ?_
        simp only [List.mem_cons, List.not_mem_nil, or_false] at hd
        rcases hd with rfl | rfl
        · exact .str _ _
        · exact .int _ _
  · exact .vT 2 n
theorem FlatA.sides : ∀ (ws : List (Str × Nat)) (is : List Int), ∀ d ∈ sidesN ws is, FlatA 3 d
  | [], _, d, h => by cases h
  | _ :: _, [], d, h => by cases h
  | w :: ws, i :: is, d, h => by
    rcases List.mem_cons.mp h with rfl | h
    · exact .side _ _
    · exact FlatA.sides ws is d h
theorem FlatA.term (i : Int) (ws : List (Str × Nat)) (is : List Int) : FlatA 5 (.tup [.str (Str.ofString "s"), .int i, .tup (sidesN ws is)]) := .tup fun d hd => by
  simp only [List.mem_cons, List.not_mem_nil, or_false] at hd
  rcases hd with rfl | rfl | rfl
  · exact .str _ _
  · exact .int _ _
  · exact .tup fun d hd => .sides ws is d hd
theorem FlatA.name (n : Nat) (q : Str × Int) : FlatA (n + 1) (nameAV q) := .tup fun d hd => by
  simp only [List.mem_cons, List.not_mem_nil, or_false] at hd
  rcases hd with rfl | rfl
  · exact .str _ _
  · exact .int _ _
theorem same_names {H : AH} {a b : Addr} {ns : List (Str × Int)} (n : Nat) (ha : H a = some (.list (ns.map nameAV))) (hb : H b = some (.list (ns.map nameAV))) : Same H (n + 2) (.ref a) (.ref b) := .list ha hb rfl fun i d e h1 h2 => by
  rw [h1] at h2; cases h2
  obtain ⟨q, _, rfl⟩ := List.mem_map.mp (List.mem_of_getElem? h1)
  exact (FlatA.name n q).same
/-- what a read of a clause gives, against what the law reckons -/
theorem same_read {H : AH} {nm sg nm' sg' : Addr} {i : Int} {ws : List (Str × Nat)} {is : List Int} {ns ss : List (Str × Int)} (h1 : H nm = some (.list (ns.map nameAV))) (h2 : H sg = some (.list (ss.map nameAV))) (h3 : H nm' = some (.list (ns.map nameAV))) (h4 : H sg' = some (.list (ss.map nameAV))) :
    Same H (5 + 1) (.tup [.tup [.str (Str.ofString "s"), .int i, .tup (sidesN ws is)], .ref nm, .ref sg]) (.tup [.tup [.str (Str.ofString "s"), .int i, .tup (sidesN ws is)], .ref nm', .ref sg']) := .tup rfl fun j d e e1 e2 => by
  match j with
  | 0 => cases e1; cases e2; exact (FlatA.term i ws is).same
  | 1 => cases e1; cases e2; exact same_names 3 h1 h3
  | 2 => cases e1; cases e2; exact same_names 3 h2 h4
  | j + 3 => cases e1
theorem WTok.len {w : Str} {sh : Nat} {l : List AV} (h : WTok w sh l) : l.length ≤ 3 := by cases h <;> simp
theorem ArgsTok.len {ws : List (Str × Nat)} {l : List AV} (z : ArgsTok ws l) : l.length ≤ 4 * ws.length + 2 := by
  induction z with
  | one h => have := h.len; simp; lia
  | more h r ih => have := h.len; simp at ih ⊢; lia
/-- whose number -/
noncomputable def cnOf (ns : List (Str × Int)) (ct : Str → Int) (i : Int) : Int := match ns.find? fun q => q.2 = i with
  | some q => ct q.1
  | none => 0
theorem cnOf_at {ns : List (Str × Int)} {ct : Str → Int} (inj : ∀ q ∈ ns, ∀ r ∈ ns, q.2 = r.2 → q = r) {q : Str × Int} (h : q ∈ ns) : cnOf ns ct q.2 = ct q.1 := by
  unfold cnOf
  cases e : ns.find? (fun r => decide (r.2 = q.2)) with
  | none =>
    rw [List.find?_eq_none] at e
    exact absurd (e q h) (by simp)
  | some r =>
    have h1 := List.find?_some e
    have h2 := List.mem_of_find?_eq_some e
    simp at h1
    rw [inj r h2 q h h1]
theorem runN_mem : ∀ (ws : List Str) (ns : List (Str × Int)) (tot : Int), ∀ q ∈ (runN ws (ns, tot)).2.1, q ∈ ns ∨ q.1 ∈ ws
  | [], ns, tot, q, h => .inl h
  | w :: ws, ns, tot, q, h => by
    have h : q ∈ (runN ws ((stepN (ns, tot) w).2.1, (stepN (ns, tot) w).2.2)).2.1 := h
    rcases runN_mem ws _ _ q h with h | h
    · unfold stepN at h
      split at h
      · exact .inl h
      · split at h
        · exact .inl h
        · rcases List.mem_append.mp h with h | h
          · exact .inl h
          · simp at h; subst h; exact .inr (.head _)
    · exact .inr (.tail _ h)
theorem runN_len : ∀ (ws : List Str) (ns : List (Str × Int)) (tot : Int), (runN ws (ns, tot)).2.1.length ≤ ns.length + ws.length ∧ (runN ws (ns, tot)).1.length = ws.length
  | [], ns, tot => ⟨Nat.le_refl _, rfl⟩
  | w :: ws, ns, tot => by
    have ih := runN_len ws (stepN (ns, tot) w).2.1 (stepN (ns, tot) w).2.2
    have h1 : (stepN (ns, tot) w).2.1.length ≤ ns.length + 1 := by
      unfold stepN
      split
      · simp
      · split
        · simp
        · simp
    show (runN ws ((stepN (ns, tot) w).2.1, (stepN (ns, tot) w).2.2)).2.1.length ≤ _ ∧ (runN ws ((stepN (ns, tot) w).2.1, (stepN (ns, tot) w).2.2)).1.length + 1 = _
    rw [List.length_cons]
    lia
/-- the law's own reckoning of a clause -/
noncomputable abbrev nmsN (ws : List (Str × Nat)) : List (Str × Int) := (runN (ws.map (·.1)) ([], 0)).2.1
noncomputable abbrev isN (ws : List (Str × Nat)) : List Int := (runN (ws.map (·.1)) ([], 0)).1
noncomputable def sgN (ws : List (Str × Nat)) : List (Str × Int) := (nmsN ws).filter fun q => decide (((ws.map (·.1)).count q.1 : Nat) = 1) && !decide (Txt.item q.1 0 = Str.ofString "_")
section
variable {g : Gd Mine.hp.heap_1}
variable {H : AH} {r d S dS tx an fn fnn O dO pr inf po F dF va fi fx t dt cs : Addr} {i a b c o : Int} {m : Nat} {l : List Nat} {ts : List Str} {fs : List (List Int)} {xv : List (Str × AV)} {v u : Str} {k x : AV → AH → Prop}
theorem read_words {xi : List (Int × AV)} {tok last : AV} {tts : List AV} {u' : Str} {p p' : Int} {l' : List AV} {ws : List (Str × Nat)}
    (hR : H r = some (readerO d S O F t i)) (hT : H t = some (tokO dt cs a o)) (C : Cds H cs l) (h0 : 0 ≤ a) (ha : a ≤ l.length) (hl : l.length ≤ 1000000) (N : NStep l o a tok b) (G : GCur l o tok b tts last c) {ul : Str} {pl : Int} (hlast : last = tk (Str.ofString "end") ul pl)
    (etok : tts ++ [last] = tk (Str.ofString "name") u p :: tk (Str.ofString "open_ct") u' p' :: l') (A : ArgsTok ws l') (hws : ws.length ≤ 1000) (hpos : ∀ q ∈ ws, 0 < q.1.length)
    (iF : H F = some (flO dF S va fi fx)) (iv : H va = some (.dictS xv)) (e1 : getA xv (Str.ofString "double_quotes") = some (.int m)) (y : Sy H S dS tx an fn fnn ts fs) (em : ts[m]? = some v) (hO : H O = some (opO dO S pr inf po)) (hI : H inf = some (.dictI xi)) (ee : getA xi 7 = some (.tup [.int 1000, .str (Str.ofString "xfy")])) (hq : H po = some (.dictI [])) (z1 : ts.length ≤ 90000) (z2 : fs.length ≤ 90000)
    (h : ∀ nm sg H', H nm = none → H sg = none → nm ≠ sg → KeepL [t, r, tx, an, fn, fnn] H H' → Sy H' S dS tx an fn fnn (addA ts u) (addA fs [(posA ts u : Int), ((ws.length : Nat) : Int)]) → H' t = some (tokO dt cs c o) → H' r = some (readerO d S O F t c) → H' nm = some (.list ((nmsN ws).map nameAV)) →
      H' sg = some (.list ((sgN ws).map nameAV)) → k (.tup [.tup [.str (Str.ofString "s"), .int (posA fs [(posA ts u : Int), ((ws.length : Nat) : Int)] : Nat), .tup (sidesN ws (isN ws))], .ref nm, .ref sg]) H') : Cal g 9 true 822 [.ref r] H k x := by
  have V := varRun_of ws [] 0 (fun _ => 0) NOk.nil (fun _ _ _ => rfl)
  have ok : NOk (nmsN ws) _ := NOk.run (ws.map (·.1)) [] 0 NOk.nil
  have hlen : tts.length ≤ 100000 := by
    have h1 := A.len
    have h2 := congrArg List.length etok
    simp at h2
    lia
  have hns := (runN_len (ws.map (·.1)) [] 0).1
  refine read_clause (cn := cnOf (nmsN ws) (fun w => 0 + ((ws.map (·.1)).count w : Nat))) hR hT C h0 ha hl N G hlen hlast etok A V hws (fun q hq' => ⟨?_, ?_⟩) (by simp at hns; lia) iF iv e1 y em hO hI ee hq z1 z2 (fun nm sg H' k1 k2 k3 k4 k5 k6 k7 k8 k9 => h nm sg H' k1 k2 k3 k4 k5 k6 k7 k8 ?_)
  · rw [cnOf_at ok.inj hq']
    exact getA_cnts ok.inj hq'
  · rcases runN_mem (ws.map (·.1)) [] 0 q hq' with h | h
    · cases h
    · obtain ⟨q', h1, h2⟩ := List.mem_map.mp h
      rw [← h2]; exact hpos q' h1
  · rw [k9]
    congr 2
    unfold sgN
    congr 1
    refine List.filter_congr fun q hq' => ?_
    rw [cnOf_at ok.inj hq', Int.zero_add]
    congr 1
    rw [Bool.eq_iff_iff, decide_eq_true_eq, decide_eq_true_eq]
    lia
end
/-- the tokens of the law's text -/
theorem law_tokens {qs : List (Nat × Nat)} (hne : qs ≠ []) (hs : ∀ q ∈ qs, q.2 < 3) :
    ∃ (c c2 : Nat), ClTok (wideC qs) 0 0 c (Str.ofString "p") ((0 : Nat) : Int) (wsS qs) ∧ c ≤ (wideC qs).length ∧
      (∃ p, ClTok (wideC qs) 0 (c : Int) c2 (Str.ofString "q") p [(uns, 0), (Str.ofString "X", 0)]) ∧ c2 ≤ (wideC qs).length ∧
      NStep (wideC qs) 0 (c2 : Int) (tk (Str.ofString "eof") (Str.ofString "") (c2 : Int)) (c2 : Int) := by
  have h : Sx (wideC qs) 0 (112 :: 40 :: (argsC (wsC qs) ++ 41 :: 46 :: (10 :: 113 :: 40 :: (argsC [([95], 0), ([88], 0)] ++ 41 :: 46 :: [])))) := rfl
  have hv : ∀ q ∈ wsC qs, VName q.1 ∧ q.2 < 3 := fun q hq => by
    obtain ⟨p, hp, rfl⟩ := List.mem_map.mp hq
    exact ⟨vname_wcs _, hs p hp⟩
  have hv2 : ∀ q ∈ [(([95] : List Nat), 0), ([88], 0)], VName q.1 ∧ q.2 < 3 := fun q hq => by
    simp only [List.mem_cons, List.not_mem_nil, or_false] at hq
    rcases hq with rfl | rfl
    · exact ⟨vname_wcs 4, by decide⟩
    · exact ⟨vname_wcs 0, by decide⟩
  obtain ⟨c, a5, a6⟩ := clause_steps (o := 0) (.inr ⟨10, _, rfl, by unfold layout; lia⟩) ⟨by decide, by decide⟩ (by intro e; exact hne (List.map_eq_nil_iff.mp e)) hv (.inl rfl) (by decide) h
  have a6' := a6.at.2
  obtain ⟨c2, b5, b6⟩ := clause_steps (o := 0) (a := c) (p := c + 1) (.inl rfl) ⟨by decide, by decide⟩ (by intro e; cases e) hv2 (.inr ⟨rfl, _, a6⟩) (by lia) a6'
  have le : ∀ {p : Nat} {s : List Nat}, p ≤ (wideC qs).length ∨ s ≠ [] → Sx (wideC qs) p s → p ≤ (wideC qs).length := fun {p s} h1 h2 => by
    rcases h1 with h1 | h1
    · exact h1
    · refine Nat.le_of_lt (Nat.lt_of_not_le fun h3 => h1 ?_)
      rw [← show (wideC qs).drop p = s from h2]
      exact List.drop_eq_nil_iff.mpr h3
  have lc : c ≤ (wideC qs).length := le (.inr (by intro e; cases e)) a6
  have e1 : (wsC qs).map (fun q => (txt q.1, q.2)) = wsS qs := by unfold wsC wsS; rw [List.map_map]; rfl
  rw [e1] at a5
  have lc2 : c2 ≤ (wideC qs).length := b5.le (Int.natCast_nonneg _) (Int.ofNat_le.mpr lc)
  refine ⟨c, c2, a5, lc, ⟨_, b5⟩, lc2, ?_⟩
  have e := b6.end
  exact .eof (.stop e.1 (by unfold layout; lia) (by decide) (by decide)) e.2
end
end

section
section
variable {g : Gd Mine.hp.heap_1}
noncomputable abbrev wsQ : List (Str × Nat) := [(uns, 0), (Str.ofString "X", 0)]
theorem put_keep {H : AH} {tx an fn fnn b : Addr} {ts : List Str} {fs : List (List Int)} {o : AObj} (e : H b = some o) (h1 : b ≠ tx) (h2 : b ≠ an) (h3 : b ≠ fn) (h4 : b ≠ fnn) : putFn (putT H tx an ts) fn fnn fs b = some o := (upd_ne h4).trans ((upd_ne h3).trans ((upd_ne h2).trans ((upd_ne h1).trans e)))
theorem mem_addA {K : Type} [DecidableEq K] (l : List K) (k : K) : k ∈ addA l k := by
  unfold addA
  split
  · assumption
  · simp
theorem q_sides : sidesN wsQ (isN wsQ) = [vT 0, vT 1] := rfl
theorem q_names : nmsN wsQ = [(Str.ofString "X", 1)] := rfl
theorem q_singles : sgN wsQ = [(Str.ofString "X", 1)] := by decide +kernel
section
variable {A : Around} {L f : Addr} {cd : Value} {ρ : Loc} {H : AH} {qs : List (Nat × Nat)} {S dS tx an fn fnn r dr O dO pr inf po F dF va fi fx t dt cs sl nl al : Addr} {ts : List Str} {fs : List (List Int)} {xi : List (Int × AV)} {xv : List (Str × AV)} {m : Nat} {v : Str}
theorem law_F (ok : Ok 12 true A) (hne : qs ≠ []) (h9 : qs.length ≤ 9) (hqs : ∀ q ∈ qs, q.1 < 6 ∧ q.2 < 3)
    (rr : ρ (Str.ofString "reader") = some (.ref r)) (rs : ρ (Str.ofString "singles") = some (.ref sl)) (rn : ρ (Str.ofString "names") = some (.ref nl)) (ra : ρ (Str.ofString "args") = some (.ref al)) (rb : ρ (Str.ofString "book") = some (.ref S))
    (hn : H nl = some (.list ((nmsN (wsS qs)).map nameAV))) (hs : H sl = some (.list ((sgN (wsS qs)).map nameAV))) (ha : H al = some (.list (sidesN (wsS qs) (isN (wsS qs)))))
    (hR : H r = some (readerO dr S O F t 0)) (hT : H t = some (tokO dt cs 0 0)) (C : Cds H cs (wideC qs))
    (iF : H F = some (flO dF S va fi fx)) (iv : H va = some (.dictS xv)) (e1 : getA xv (Str.ofString "double_quotes") = some (.int m)) (y : Sy H S dS tx an fn fnn ts fs) (em : ts[m]? = some v) (hO : H O = some (opO dO S pr inf po)) (hI : H inf = some (.dictI xi)) (ee : getA xi 7 = some (.tup [.int 1000, .str (Str.ofString "xfy")])) (hq : H po = some (.dictI []))
    (z1 : ts.length ≤ 80000) (z2 : fs.length ≤ 80000) (n1 : nl ≠ tx) (n2 : nl ≠ fn) (n3 : al ≠ tx) (n4 : al ≠ fn) (n5 : sl ≠ tx) (n6 : sl ≠ fn) (n7 : cs ≠ tx) (n8 : cs ≠ fn) (n9 : va ≠ an) :
    Exs g ⟨A, lawEnv L f cd⟩ (lawBody.drop 13) ρ H (fun fl _ _ => fl = .ret (.bool true)) (fun _ _ _ => False) := by
  obtain ⟨c, c2, ⟨tok, b, tts, last, ul, pl, p', l', N1, G1, hl1, et1, A1⟩, lc, ⟨p2, ⟨tok2, b2, tts2, last2, ul2, pl2, p2', l2', N2, G2, hl2, et2, A2⟩⟩, lc2, N3⟩ := law_tokens hne fun q hq => (hqs q hq).2
  have yo := y.o
  have yt := y.t
  have ya := y.a
  have yf := y.f
  have yn := y.n
  have hC := C.h
  have hl : (wideC qs).length ≤ 1000000 := by have := wideC_len qs h9; lia
  have hlen : (wsS qs).length = qs.length := List.length_map ..
  refine Exs.cons ?_
  repeat' k_extra "step"
  refine Cal.at (read_words (ws := wsS qs) hR hT C (Int.le_refl _) (Int.natCast_nonneg _) hl N1 G1 hl1 et1 A1 (by lia) (fun q hq => by obtain ⟨p, _, rfl⟩ := List.mem_map.mp hq; exact wrd_pos _) iF iv e1 y em hO hI ee hq (by lia) (by lia) ?_) (Ok.leB (by assumption) rfl)
  intro nm sg H1 k1 k2 k3 kp1 y1 hT1 hR1 hn1 hs1
  have yo1 := y1.o
  have hn' := kp1 _ _ (by k_extra "nes") hn
  have hs' := kp1 _ _ (by k_extra "nes") hs
  have ha' := kp1 _ _ (by k_extra "nes") ha
  have hR1' := hR1
  have m1 : nm ≠ tx := by k_extra "ne"
  have m2 : nm ≠ fn := by k_extra "ne"
  have m3 : sg ≠ tx := by k_extra "ne"
  have m4 : sg ≠ fn := by k_extra "ne"
  have g1 := addA_len ts (Str.ofString "p")
  have g2 := addA_len fs [(posA ts (Str.ofString "p") : Int), ((wsS qs).length : Nat)]
  have hsl : (sidesN (wsS qs) (isN (wsS qs))).length = (wsS qs).length := by
    unfold sidesN
    rw [List.length_zipWith, (runN_len _ [] 0).2]
    simp
  repeat' k_extra "step"
  refine Cal.at (func_spec y1 (by lia) (by lia) ?_) (Ok.leB (by assumption) rfl)
  rw [hsl, posA_addA, posA_addA]
  have yt1 := y1.t
  have ya1 := y1.a
  have yf1 := y1.f
  have yn1 := y1.n
  have hC1 := kp1 _ _ (by k_extra "nes") hC
  have iF1 := kp1 _ _ (by k_extra "nes") iF
  have iv1 := kp1 _ _ (by k_extra "nes") iv
  have hO1 := kp1 _ _ (by k_extra "nes") hO
  have hI1 := kp1 _ _ (by k_extra "nes") hI
  have hq1 := kp1 _ _ (by k_extra "nes") hq
  have y2 := (y1.putT (addA (addA ts (Str.ofString "p")) (Str.ofString "p"))).putF (addA (addA fs [(posA ts (Str.ofString "p") : Int), ((wsS qs).length : Nat)]) [(posA ts (Str.ofString "p") : Int), ((wsS qs).length : Nat)])
  have em2 := addA_get (k := Str.ofString "p") (addA_get (k := Str.ofString "p") em)
  rw [addA_old (k := Str.ofString "p") (l := addA ts (Str.ofString "p")) (mem_addA _ _)] at y2 em2 ⊢
  rw [addA_old (k := [(posA ts (Str.ofString "p") : Int), ((wsS qs).length : Nat)]) (l := addA fs [(posA ts (Str.ofString "p") : Int), ((wsS qs).length : Nat)]) (mem_addA _ _)] at y2 ⊢
  have pk1 : ∀ {b : Addr} {o : AObj}, H1 b = some o → b ≠ tx → b ≠ an → b ≠ fn → b ≠ fnn → putFn (putT H1 tx an (addA ts (Str.ofString "p"))) fn fnn (addA fs [(posA ts (Str.ofString "p") : Int), ((wsS qs).length : Nat)]) b = some o := fun e a1 a2 a3 a4 => put_keep (tx := tx) (an := an) (fn := fn) (fnn := fnn) (ts := addA ts (Str.ofString "p")) (fs := addA fs [(posA ts (Str.ofString "p") : Int), ((wsS qs).length : Nat)]) e a1 a2 a3 a4
  revert y2 pk1
  generalize putFn (putT H1 tx an (addA ts (Str.ofString "p"))) fn fnn (addA fs [(posA ts (Str.ofString "p") : Int), ((wsS qs).length : Nat)]) = H2
  intro y2 pk1
  have hn2 := pk1 hn' (by k_extra "ne") (by k_extra "ne") (by k_extra "ne") (by k_extra "ne")
  have hs2 := pk1 hs' (by k_extra "ne") (by k_extra "ne") (by k_extra "ne") (by k_extra "ne")
  have ha2 := pk1 ha' (by k_extra "ne") (by k_extra "ne") (by k_extra "ne") (by k_extra "ne")
  have hnm2 := pk1 hn1 (by k_extra "ne") (by k_extra "ne") (by k_extra "ne") (by k_extra "ne")
  have hsg2 := pk1 hs1 (by k_extra "ne") (by k_extra "ne") (by k_extra "ne") (by k_extra "ne")
  have hT2 := pk1 hT1 (by k_extra "ne") (by k_extra "ne") (by k_extra "ne") (by k_extra "ne")
  have hR2 := pk1 hR1 (by k_extra "ne") (by k_extra "ne") (by k_extra "ne") (by k_extra "ne")
  have hC2 := pk1 hC1 (by k_extra "ne") (by k_extra "ne") (by k_extra "ne") (by k_extra "ne")
  have iF2 := pk1 iF1 (by k_extra "ne") (by k_extra "ne") (by k_extra "ne") (by k_extra "ne")
  have iv2 := pk1 iv1 (by k_extra "ne") (by k_extra "ne") (by k_extra "ne") (by k_extra "ne")
  have hO2 := pk1 hO1 (by k_extra "ne") (by k_extra "ne") (by k_extra "ne") (by k_extra "ne")
  have hI2 := pk1 hI1 (by k_extra "ne") (by k_extra "ne") (by k_extra "ne") (by k_extra "ne")
  have hq2 := pk1 hq1 (by k_extra "ne") (by k_extra "ne") (by k_extra "ne") (by k_extra "ne")
  clear pk1 kp1 y1 hT1 hR1 hR1' hn1 hs1 yo1 hn' hs' ha' yt1 ya1 yf1 yn1 hC1 iF1 iv1 hO1 hI1 hq1
  repeat' k_extra "step"
  refine Op2.neT (same_read hnm2 hsg2 hn2 hs2) (by have := ok.units; show A.units + 6 ≤ 9000; lia) ?_
  repeat' k_extra "step"
  have yo2 := y2.o
  have yt2 := y2.t
  have ya2 := y2.a
  have yf2 := y2.f
  have yn2 := y2.n
  have C2 : Cds H2 cs (wideC qs) := ⟨hC2, C.b, C.z⟩
  refine Cal.at (read_words (ws := wsQ) hR2 hT2 C2 (Int.natCast_nonneg _) (by lia) hl N2 G2 hl2 et2 A2 (by decide) (by decide) iF2 iv2 e1 y2 em2 hO2 hI2 ee hq2 (by lia) (by lia) ?_) (Ok.leB (by assumption) rfl)
  rw [q_sides, q_names, q_singles]
  intro nm3 sg3 H3 j1 j2 j3 kp3 y3 hT3 hR3 hn3 hs3
  have yo3 := y3.o
  have hC3 := kp3 _ _ (by k_extra "nes") hC2
  have m5 : nm3 ≠ tx := by k_extra "ne"
  have m6 : nm3 ≠ fn := by k_extra "ne"
  have m7 : sg3 ≠ tx := by k_extra "ne"
  have m8 : sg3 ≠ fn := by k_extra "ne"
  have g3 := addA_len (addA ts (Str.ofString "p")) (Str.ofString "q")
  have g4 := addA_len (addA fs [(posA ts (Str.ofString "p") : Int), ((wsS qs).length : Nat)]) [(posA (addA ts (Str.ofString "p")) (Str.ofString "q") : Int), ((wsQ.length : Nat) : Int)]
  repeat' k_extra "step"
  refine Cal.at (func_spec y3 (by lia) (by lia) ?_) (Ok.leB (by assumption) rfl)
  rw [posA_addA, show ((2 : Int)) = ((wsQ.length : Nat) : Int) from rfl, posA_addA]
  have yt3 := y3.t
  have ya3 := y3.a
  have yf3 := y3.f
  have yn3 := y3.n
  rw [addA_old (k := Str.ofString "q") (mem_addA _ _), addA_old (k := [(posA (addA ts (Str.ofString "p")) (Str.ofString "q") : Int), ((wsQ.length : Nat) : Int)]) (mem_addA _ _)]
  have pk2 : ∀ {b : Addr} {o : AObj}, H3 b = some o → b ≠ tx → b ≠ an → b ≠ fn → b ≠ fnn → putFn (putT H3 tx an (addA (addA ts (Str.ofString "p")) (Str.ofString "q"))) fn fnn (addA (addA fs [(posA ts (Str.ofString "p") : Int), ((wsS qs).length : Nat)]) [(posA (addA ts (Str.ofString "p")) (Str.ofString "q") : Int), ((wsQ.length : Nat) : Int)]) b = some o := fun e a1 a2 a3 a4 => put_keep (tx := tx) (an := an) (fn := fn) (fnn := fnn) (ts := addA (addA ts (Str.ofString "p")) (Str.ofString "q")) (fs := addA (addA fs [(posA ts (Str.ofString "p") : Int), ((wsS qs).length : Nat)]) [(posA (addA ts (Str.ofString "p")) (Str.ofString "q") : Int), ((wsQ.length : Nat) : Int)]) e a1 a2 a3 a4
  revert pk2
  generalize putFn (putT H3 tx an (addA (addA ts (Str.ofString "p")) (Str.ofString "q"))) fn fnn (addA (addA fs [(posA ts (Str.ofString "p") : Int), ((wsS qs).length : Nat)]) [(posA (addA ts (Str.ofString "p")) (Str.ofString "q") : Int), ((wsQ.length : Nat) : Int)]) = H4
  intro pk2
  have hnm4 := pk2 hn3 (by k_extra "ne") (by k_extra "ne") (by k_extra "ne") (by k_extra "ne")
  have hsg4 := pk2 hs3 (by k_extra "ne") (by k_extra "ne") (by k_extra "ne") (by k_extra "ne")
  have hT4 := pk2 hT3 (by k_extra "ne") (by k_extra "ne") (by k_extra "ne") (by k_extra "ne")
  have hR4 := pk2 hR3 (by k_extra "ne") (by k_extra "ne") (by k_extra "ne") (by k_extra "ne")
  have hC4 := pk2 hC3 (by k_extra "ne") (by k_extra "ne") (by k_extra "ne") (by k_extra "ne")
  clear pk2 kp3 y3 hT3 hR3 hn3 hs3 hC3 yt3 ya3 yf3 yn3 yo3
  repeat' k_extra "step"
  intro la hla
  repeat' k_extra "step"
  intro lb hlb
  repeat' k_extra "step"
  have q1 : upd (upd H4 la (.list ([(Str.ofString "X", (1 : Int))].map nameAV))) lb (.list ([(Str.ofString "X", (1 : Int))].map nameAV)) nm3 = some (.list ([(Str.ofString "X", (1 : Int))].map nameAV)) := upd_fresh hlb (upd_fresh hla hnm4)
  have q2 : upd (upd H4 la (.list ([(Str.ofString "X", (1 : Int))].map nameAV))) lb (.list ([(Str.ofString "X", (1 : Int))].map nameAV)) sg3 = some (.list ([(Str.ofString "X", (1 : Int))].map nameAV)) := upd_fresh hlb (upd_fresh hla hsg4)
  have q3 : upd (upd H4 la (.list ([(Str.ofString "X", (1 : Int))].map nameAV))) lb (.list ([(Str.ofString "X", (1 : Int))].map nameAV)) la = some (.list ([(Str.ofString "X", (1 : Int))].map nameAV)) := upd_fresh hlb (upd_same _ _ _)
  have q4 : upd (upd H4 la (.list ([(Str.ofString "X", (1 : Int))].map nameAV))) lb (.list ([(Str.ofString "X", (1 : Int))].map nameAV)) lb = some (.list ([(Str.ofString "X", (1 : Int))].map nameAV)) := upd_same _ _ _
  have hR5 := upd_fresh hlb (upd_fresh (o := .list ([(Str.ofString "X", (1 : Int))].map nameAV)) hla hR4) (o := .list ([(Str.ofString "X", (1 : Int))].map nameAV))
  have hT5 := upd_fresh hlb (upd_fresh (o := .list ([(Str.ofString "X", (1 : Int))].map nameAV)) hla hT4) (o := .list ([(Str.ofString "X", (1 : Int))].map nameAV))
  have hC5 := upd_fresh hlb (upd_fresh (o := .list ([(Str.ofString "X", (1 : Int))].map nameAV)) hla hC4) (o := .list ([(Str.ofString "X", (1 : Int))].map nameAV))
  refine Op2.eqT (same_read (ws := wsQ) (is := isN wsQ) q1 q2 q3 q4) (by have := ok.units; show A.units + 6 ≤ 9000; lia) ?_
  repeat' k_extra "step"
  refine Cal.at (read_eof hR5 hT5 ⟨hC5, C.b, C.z⟩ (Int.natCast_nonneg _) (by lia) hl N3 ?_) (Ok.leB (by assumption) rfl)
  intro H6 kp6
  repeat' k_extra "step"
  rfl
end
end
end

section
section
variable {g : Gd Mine.hp.heap_1}
noncomputable def ordA : AV → AV
  | .str u => .int ((u.cps[0]?.getD 0 : Nat) : Int)
  | _ => .none
theorem ord_chrs (l : List Nat) : ((chrs (txt l)).filter (fun _ => true)).map ordA = cds l := by
  have e : chrs (txt l) = l.map fun c => AV.str ⟨#[c]⟩ := rfl
  rw [List.filter_eq_self.mpr (fun _ _ => rfl), e, List.map_map]
  rfl
section
variable {A : Around} {L f : Addr} {cd : Value} {ρ : Loc} {H : AH} {qs : List (Nat × Nat)} {S dS tx an fn fnn sl nl al : Addr} {ts : List Str} {fs : List (List Int)}
theorem law_E (ok : Ok 12 true A) (hne : qs ≠ []) (h9 : qs.length ≤ 9) (hqs : ∀ q ∈ qs, q.1 < 6 ∧ q.2 < 3)
    (rw' : ρ (Str.ofString "wide") = some (.str (txt (wideC qs)))) (rs : ρ (Str.ofString "singles") = some (.ref sl)) (rn : ρ (Str.ofString "names") = some (.ref nl)) (ra : ρ (Str.ofString "args") = some (.ref al)) (rb : ρ (Str.ofString "book") = some (.ref S))
    (hn : H nl = some (.list ((nmsN (wsS qs)).map nameAV))) (hs : H sl = some (.list ((sgN (wsS qs)).map nameAV))) (ha : H al = some (.list (sidesN (wsS qs) (isN (wsS qs)))))
    (y : Sy H S dS tx an fn fnn ts fs) (h7 : ts[7]? = some (Str.ofString ",")) (z1 : ts.length ≤ 3000) (z2 : fs.length ≤ 1000) (n1 : nl ≠ tx) (n2 : nl ≠ fn) (n3 : al ≠ tx) (n4 : al ≠ fn) (n5 : sl ≠ tx) (n6 : sl ≠ fn) :
    Exs g ⟨A, lawEnv L f cd⟩ (lawBody.drop 12) ρ H (fun fl _ _ => fl = .ret (.bool true)) (fun _ _ _ => False) := by
  have hh : A.handled = none := ok.hand rfl
  have yo := y.o
  have yt := y.t
  have ya := y.a
  have yf := y.f
  have yn := y.n
  refine Exs.cons ?_
  repeat' k_extra "step"
  refine Cal.at (OperatorTable_spec y h7 z1 ?_) (Ok.leB (by assumption) rfl)
  intro O dO pr inf po ts1 xp xi H1 f1 f2 f3 f4 I1 g1
  repeat' k_extra "step"
  refine Cal.at (Flags_spec I1.y (by lia) ?_) (Ok.leB (by assumption) rfl)
  intro F dF va fi fx ts2 xv yf' zf seen H2 f5 f6 f7 f8 I2 g2 hdq
  have iO := I2.k _ _ (by k_extra "ne") (by k_extra "ne") I1.o
  have oI := I1.i
  have oP := I1.q
  have oY := I1.y
  have iY := I2.y
  have fF := I2.o
  have fV := I2.v
  have oYa := oY.a
  have oYt := oY.t
  have inf_an := I2.k _ _ (by k_extra "ne") (by k_extra "ne") oI
  have e0 : KeepB tx an H H2 := fun b o m1 m2 e => I2.k b o m1 m2 (I1.k b o m1 m2 e)
  have hn2 := e0 _ _ (by k_extra "ne") (by k_extra "ne") hn
  have hs2 := e0 _ _ (by k_extra "ne") (by k_extra "ne") hs
  have ha2 := e0 _ _ (by k_extra "ne") (by k_extra "ne") ha
  have hq2 := I2.k _ _ (by k_extra "ne") (by k_extra "ne") oP
  obtain ⟨m, em1, em2⟩ := I2.g _ hdq
  obtain ⟨v, hv⟩ : ∃ v, ts2[m]? = some v := ⟨_, List.getElem?_eq_getElem em2⟩
  have n9 := I2.n2
  refine EvL.cons ?_
  refine Ev.comp [] ?_ rfl (by intro p hp; cases hp) rfl (by decide) (by decide)
  refine EvIt.val ?_
  repeat' k_extra "step"
  refine It1.str hh ?small ?_
  case small =>
    rw [Array.all_eq_true']
    intro c hc
    have : c ∈ wideC qs := by simpa [txt] using hc
    simpa using wideC_small qs c this
  intro cs C hcs
  have lenC : (chrs (txt (wideC qs))).length = (wideC qs).length := List.length_map ..
  have wl := wideC_len qs h9
  refine CmpL.flat (fun _ => True) (fun v ρ => setL ρ (Str.ofString "sign") v) (fun _ => true) ordA (fun us => trivial) _ [] _ (fun _ _ _ _ => trivial) ?_ ?_ ?_ ?_ ?_ trivial
  · intro v hv ρ us k' _ hk
    exact As.name hk ⟨by kernel_rfl, .inl ⟨by kernel_rfl, by kernel_rfl⟩⟩
  · intro v hv ρ us k' _ hk
    exact TsL.nil hk
  · intro v hv _ ρ us k' _ hk
    obtain ⟨n, hn, rfl⟩ := List.mem_map.mp hv
    repeat' k_extra "step"
    exact OpL.ord hk
  · rw [lenC]; simp only [List.length_nil]; lia
  · intro ρc _
    rw [ord_chrs, List.nil_append]
    have kk : Keep H2 (upd H2 cs (.list (cds (wideC qs)))) := Keep.new hcs
    repeat' k_extra "step"
    refine Cal.at (Reader_spec ?_) (Ok.leB (by assumption) rfl)
    intro r dr t dt H3 w1 w2 kr hR hT
    have K3 : Keep H2 H3 := kk.trans kr
    have hC3 := kr _ _ (upd_same _ _ _)
    have yt2 := iY.t
    have yf2 := iY.f
    refine then_next ?_
    refine law_F (ρ := setL ρ (Str.ofString "reader") (.ref r)) ok hne h9 hqs (by k_extra "name") (by k_extra "name") (by k_extra "name") (by k_extra "name") (by k_extra "name") (K3 _ _ hn2) (K3 _ _ hs2) (K3 _ _ ha2) hR hT ⟨hC3, fun n hn => Nat.le_trans (Nat.le_of_lt (wideC_small qs n hn)) (by decide), Nat.lt_of_le_of_lt wl (by decide)⟩ (K3 _ _ fF) (K3 _ _ fV) em1 ⟨K3 _ _ iY.o, K3 _ _ iY.t, K3 _ _ iY.a, K3 _ _ iY.f, K3 _ _ iY.n, iY.ne⟩ hv (K3 _ _ iO) (K3 _ _ inf_an) I1.e (K3 _ _ hq2) (by lia) (by lia) n1 n2 n3 n4 n5 n6 (Ne.symm (ne_fresh hcs yt2)) (Ne.symm (ne_fresh hcs yf2)) n9
end
end
end

section
section
variable {g : Gd Mine.hp.heap_1}
theorem look_words1 (b : Addr) : List.lookup (Str.ofString "words") [(Str.ofString "words", b)] = some b := by kernel_rfl
theorem w35a : True := by
  (k_with "w35a" =>
    first
      | (first
          | ((with_reducible show Tri _ _ _ (eval (Expr.Name (Str.ofString "words") _) _) _ _ _ _); refine Ev.cell (by k_extra "name") ?_ (by first | exact law_words | exact look_words1 _ | exact look_words2 _ _))
          | ((with_reducible show Tri _ _ _ (eval (Expr.Name (Str.ofString "step") _) _) _ _ _ _); refine Ev.cell (by k_extra "name") ?_ (by first | exact law_step | exact look_step2 _ _)))
      | k_extra "step")
  trivial
noncomputable def nth (i : Nat) (v : AV) : AV := (itsOf v)[i]?.getD .none
noncomputable def single (ws : List Str) (v : AV) : Bool := decide ((ws.count (strOf (nth 0 v)) : Nat) = 1) && !decide (Txt.item (strOf (nth 0 v)) 0 = Str.ofString "_")
theorem singles_are (qs : List (Nat × Nat)) : (((nmsN (wsS qs)).map nameAV).filter (single (wds qs))).map id = (sgN (wsS qs)).map nameAV := by
  have e : (wsS qs).map (·.1) = wds qs := by simp [wsS, wds]
  rw [List.map_id, List.filter_map]
  unfold sgN
  rw [e]
  rfl
section
variable {A : Around} {L f : Addr} {cd : Value} {ρ : Loc} {H : AH} {qs : List (Nat × Nat)} {S dS tx an fn fnn wl nl al : Addr} {ts : List Str} {fs : List (List Int)}
theorem law_D (ok : Ok 12 true A) (hne : qs ≠ []) (h9 : qs.length ≤ 9) (hqs : ∀ q ∈ qs, q.1 < 6 ∧ q.2 < 3)
    (rw' : ρ (Str.ofString "words") = some (.ref wl)) (rd : ρ (Str.ofString "wide") = some (.str (txt (wideC qs)))) (rn : ρ (Str.ofString "names") = some (.ref nl)) (ra : ρ (Str.ofString "args") = some (.ref al)) (rb : ρ (Str.ofString "book") = some (.ref S))
    (hw : H wl = some (.list ((wds qs).map .str))) (hn : H nl = some (.list ((nmsN (wsS qs)).map nameAV))) (ha : H al = some (.list (sidesN (wsS qs) (isN (wsS qs)))))
    (y : Sy H S dS tx an fn fnn ts fs) (h7 : ts[7]? = some (Str.ofString ",")) (z1 : ts.length ≤ 3000) (z2 : fs.length ≤ 1000) (n1 : nl ≠ tx) (n2 : nl ≠ fn) (n3 : al ≠ tx) (n4 : al ≠ fn) :
    Exs g ⟨A, lawEnv L f cd⟩ (lawBody.drop 11) ρ H (fun fl _ _ => fl = .ret (.bool true)) (fun _ _ _ => False) := by
  have hh : A.handled = none := ok.hand rfl
  refine Exs.cons ?_
  refine Ex.assignComp [(Str.ofString "words", L + 1)] ?_ (by kernel_rfl) ⟨by kernel_rfl, .inl ⟨by kernel_rfl, by kernel_rfl⟩⟩ rfl (by intro p hp; rw [List.mem_singleton] at hp; subst hp; exact law_words) rfl (by decide) (by decide)
  refine EvIt.val ?_
  repeat' k_extra "w35a"
  intro sl C hsl
  refine CmpL.flat (fun ρ => ρ (Str.ofString "words") = some (.ref wl)) (fun v ρ => setL (setL ρ (Str.ofString "name") (nth 0 v)) (Str.ofString "one") (nth 1 v)) (single (wds qs)) id (fun us => upd_fresh hsl hn) _ [] _ (fun v _ ρ h => ?_) ?_ ?_ ?_ ?_ ?_ (compL_look rfl rw')
  · k_extra "name"
  · intro v hv ρ us k' hG hk
    obtain ⟨q, hq, rfl⟩ := List.mem_map.mp hv
    show As g _ _ (AV.tup [.str q.1, .int q.2]) _ _ _
    repeat' k_extra "w35a"
    exact hk
  · intro v hv ρ us k' hG hk
    obtain ⟨q, hq, rfl⟩ := List.mem_map.mp hv
    have hq' : 0 < q.1.length := by
      rcases runN_mem _ [] 0 q hq with h | h
      · cases h
      · obtain ⟨q', h1, h2⟩ := List.mem_map.mp h
        obtain ⟨p, hp, rfl⟩ := List.mem_map.mp h1
        rw [← h2]; exact wrd_pos _
    refine TsL.one ?_
    have e0 : nth 0 (nameAV q) = .str q.1 := rfl
    have e1 : nth 1 (nameAV q) = .int q.2 := rfl
    simp only [e0, e1] at hk ⊢
    repeat' k_extra "w35a"
    have e2 : single (wds qs) (nameAV q) = (decide ((wds qs).count q.1 = 1) && !decide (Txt.item q.1 0 = Str.ofString "_")) := rfl
    rw [e2] at hk
    refine Meth.list (us := (wds qs).map .str) (by k_extra "thing") PySem.F.slot_list_count PySem.F.type_list_count ?_
    repeat' k_extra "w35a"
    refine OpL.count (by k_extra "thing") ?_
    repeat' k_extra "w35a"
    · rename_i hc
      have hc : (wds qs).count q.1 = 1 := by lia
      refine Op2.itemS (by decide) (by lia) (by decide) ?_
      repeat' k_extra "w35a"
      · rename_i hd
        rw [decide_eq_true hc, decide_eq_false hd] at hk
        exact hk
      · rename_i hd
        rw [decide_eq_true hc, decide_eq_true hd] at hk
        exact hk
    · rename_i hc
      have hc : ¬ (wds qs).count q.1 = 1 := by lia
      rw [decide_eq_false hc] at hk
      exact hk
  · intro v hv _ ρ us k' hG hk
    obtain ⟨q, hq, rfl⟩ := List.mem_map.mp hv
    repeat' k_extra "w35a"
    exact hk
  · have : (nmsN (wsS qs)).length ≤ _ := (runN_len ((wsS qs).map (·.1)) [] 0).1
    rw [List.length_map, List.length_map] at this
    rw [List.length_map]
    simp only [List.length_nil] at this ⊢
    lia
  · intro ρ' hG
    rw [singles_are, List.nil_append]
    have yt := y.t
    have yf := y.f
    have kk : Keep H (upd H sl (.list ((sgN (wsS qs)).map nameAV))) := Keep.new hsl
    refine then_next ?_
    exact law_E ok hne h9 hqs (by k_extra "name") (by k_extra "name") (by k_extra "name") (by k_extra "name") (by k_extra "name") (kk _ _ hn) (upd_same _ _ _) (kk _ _ ha) ⟨kk _ _ y.o, kk _ _ y.t, kk _ _ y.a, kk _ _ y.f, kk _ _ y.n, y.ne⟩ h7 z1 z2 n1 n2 n3 n4 (Ne.symm (ne_fresh hsl yt)) (Ne.symm (ne_fresh hsl yf))
end
end
end

section
section
variable {g : Gd Mine.hp.heap_1}

theorem w36a : True := by
  (k_with "w36a" =>
    first
      | (first
          | ((with_reducible show Tri _ _ _ (eval (Expr.Name (Str.ofString "words") _) _) _ _ _ _); refine Ev.cell (by k_extra "name") ?_ (by first | exact law_words | exact look_words1 _ | exact look_words2 _ _))
          | ((with_reducible show Tri _ _ _ (eval (Expr.Name (Str.ofString "step") _) _) _ _ _ _); refine Ev.cell (by k_extra "name") ?_ (by first | exact law_step | exact look_step2 _ _)))
      | k_extra "step")
  trivial
theorem str_len_append (a b : Str) : (a ++ b).length = a.length + b.length := by
  show (a.cps ++ b.cps).size = _
  rw [Array.size_append]; rfl
theorem fw_at {w : Str} {n : Int} (h0 : 0 ≤ n) (h3 : n < 3) : ([AV.str w, .str (Str.ofString "(" ++ w ++ Str.ofString ")"), .str (Str.ofString "[" ++ w ++ Str.ofString "]")])[n.toNat]? = some (.str (fw w n)) := by
  have : n = 0 ∨ n = 1 ∨ n = 2 := by lia
  rcases this with rfl | rfl | rfl <;> rfl
section
variable {A : Around} {L f : Addr} {cd : Value} {ρ : Loc} {H : AH} {qs : List (Nat × Nat)} {S d tx an fn fnn wl rl nl al : Addr} {ts : List Str} {fs : List (List Int)}
theorem law_C (ok : Ok 12 true A) (hne : qs ≠ []) (h9 : qs.length ≤ 9) (hqs : ∀ q ∈ qs, q.1 < 6 ∧ q.2 < 3)
    (rw' : ρ (Str.ofString "words") = some (.ref wl)) (rr : ρ (Str.ofString "wraps") = some (.ref rl)) (rn : ρ (Str.ofString "names") = some (.ref nl)) (ra : ρ (Str.ofString "args") = some (.ref al)) (rb : ρ (Str.ofString "book") = some (.ref S))
    (hw : H wl = some (.list ((wds qs).map .str))) (hr : H rl = some (.list ((shs qs).map .int))) (hn : H nl = some (.list ((nmsN (wsS qs)).map nameAV))) (ha : H al = some (.list (sidesN (wsS qs) (isN (wsS qs)))))
    (y : Sy H S d tx an fn fnn ts fs) (h7 : ts[7]? = some (Str.ofString ",")) (z1 : ts.length ≤ 3000) (z2 : fs.length ≤ 1000) (n1 : nl ≠ tx) (n2 : nl ≠ fn) (n3 : al ≠ tx) (n4 : al ≠ fn) :
    Exs g ⟨A, lawEnv L f cd⟩ (lawBody.drop 9) ρ H (fun fl _ _ => fl = .ret (.bool true)) (fun _ _ _ => False) := by
  have hh : A.handled = none := ok.hand rfl
  refine Exs.cons ?_
  refine Ex.assignZip (f := fw) hh ?_ (by kernel_rfl) ⟨by kernel_rfl, .inl ⟨by kernel_rfl, by kernel_rfl⟩⟩ (by kernel_rfl) (by kernel_rfl) (by decide) (by rfl) rfl (by decide) (by decide)
  refine EvZ.call ?_ (by kernel_rfl)
  repeat' k_extra "w36a"
  refine ⟨rfl, ?_⟩
  repeat' k_extra "w36a"
  refine ⟨_, _, rfl, wds qs, shs qs, hw, hr, by simp, by simp; lia, ?elt, ?rest⟩
  case elt =>
    intro g' C i w n e1 e2 e3 e4
    have hwl : w.length ≤ 4 := by
      obtain ⟨q, hq, rfl⟩ := List.mem_map.mp (List.mem_of_getElem? e3)
      exact wrd_len _
    have hn3 : 0 ≤ n ∧ n < 3 := by
      obtain ⟨q, hq, rfl⟩ := List.mem_map.mp (List.mem_of_getElem? e4)
      have := (hqs q hq).2
      lia
    have l1 : (Str.ofString "(").length = 1 := rfl
    have l2 : (Str.ofString ")").length = 1 := rfl
    have l3 : (Str.ofString "[").length = 1 := rfl
    have l4 : (Str.ofString "]").length = 1 := rfl
    repeat' k_extra "w36a"
    refine Op2.addS (by rw [sizeLine_eq]; lia) ?_
    repeat' k_extra "w36a"
    refine Op2.addS (by rw [sizeLine_eq, str_len_append]; lia) ?_
    repeat' k_extra "w36a"
    refine Op2.addS (by rw [sizeLine_eq]; lia) ?_
    repeat' k_extra "w36a"
    refine Op2.addS (by rw [sizeLine_eq, str_len_append]; lia) ?_
    repeat' k_extra "w36a"
    intro m hm
    repeat' k_extra "w36a"
    refine Op2.itemL (by k_extra "thing") hn3.1 (by lia) (fw_at hn3.1 hn3.2) ?_
    rfl
  case rest =>
    intro sl hsl
    rw [zip_spelled qs fun q hq => (hqs q hq).2]
    repeat' k_extra "w36a"
    refine OpL.join (ss := (wsC qs).map fun q => txt (spell q)) (upd_same _ _ _) (join_ok_args qs h9) ?_
    rw [join_args]
    have wl' := wideC_len qs h9
    have al' := argsC_len qs
    have t1 : (Str.ofString "p(").length = 2 := rfl
    have t2 : (txt (argsC (wsC qs))).length = (argsC (wsC qs)).length := by show (argsC (wsC qs)).toArray.size = _; rw [List.size_toArray]
    have t3 : (Str.ofString ").\nq(_, X).").length = 11 := rfl
    refine Op2.addS (by rw [sizeLine_eq]; lia) ?_
    repeat' k_extra "w36a"
    refine Op2.addS (by rw [sizeLine_eq, str_len_append]; lia) ?_
    rw [wide_is]
    have kk : Keep H (upd H sl (.list (((wsC qs).map fun q => txt (spell q)).map .str))) := Keep.new hsl
    refine then_next ?_
    exact law_D ok hne h9 hqs (by k_extra "name") (by k_extra "name") (by k_extra "name") (by k_extra "name") (by k_extra "name") (kk _ _ hw) (kk _ _ hn) (kk _ _ ha) ⟨kk _ _ y.o, kk _ _ y.t, kk _ _ y.a, kk _ _ y.f, kk _ _ y.n, y.ne⟩ h7 z1 z2 n1 n2 n3 n4
end
end
end

section
section
variable {g : Gd Mine.hp.heap_1}

theorem w37t : True := by
  (k_with "types" =>
    with_reducible assumption)
  trivial

theorem w37a : True := by
  (k_with "w37a" =>
    first
      | (first
          | ((with_reducible show Tri _ _ _ (eval (Expr.Name (Str.ofString "words") _) _) _ _ _ _); refine Ev.cell (by k_extra "name") ?_ (by first | exact law_words | exact look_words1 _ | exact look_words2 _ _))
          | ((with_reducible show Tri _ _ _ (eval (Expr.Name (Str.ofString "step") _) _) _ _ _ _); refine Ev.cell (by k_extra "name") ?_ (by first | exact law_step | exact look_step2 _ _))
          | ((with_reducible show As _ _ (Expr.Name (Str.ofString "step") _) _ _ _ _); refine As.name ?_ st_step)
          | ((with_reducible show Tri _ _ _ (exec (Stmt.Assign [Expr.Name (Str.ofString "words") _] _ _) _) _ _ _ _); refine Ex.assign ?_ st_words)
          | ((with_reducible show Tri _ _ _ (exec (Stmt.AugAssign (Expr.Name _ _) _ _ _) _) _ _ _ _); refine Ex.aug (by k_extra "name") ?_ ⟨by kernel_rfl, .inl ⟨by kernel_rfl, by kernel_rfl⟩⟩)
          | ((with_reducible show Op2 _ _ _ (inplaceOp _) _ _ _ _ _ _); refine Op2.iadd ?_))
      | k_extra "step")
  trivial
theorem Keep.put {H H' : AH} {a : Addr} {o : AObj} (x : Keep H H') (h : H a = none) : Keep H (Mine.upd H' a o) := fun b ob e => (upd_ne (ne_fresh h e)).trans (x b ob e)
theorem stepN_len (ns : List (Str × Int)) (tot : Int) (w : Str) : (stepN (ns, tot) w).2.1.length ≤ ns.length + 1 := by
  unfold stepN
  split
  · simp
  · split
    · simp
    · simp
noncomputable def fnd (ns : List (Str × Int)) (w : Str) : List Int := (ns.filter fun q => decide (q.1 = w)).map (·.2)
noncomputable def fndP (w : Str) (v : AV) : Bool := decide (strOf (nth 0 v) = w)
theorem found_are (ns : List (Str × Int)) (w : Str) : ((ns.map nameAV).filter (fndP w)).map (nth 1) = (fnd ns w).map .int := by
  rw [List.filter_map, List.map_map, fnd, List.map_map]
  rfl
theorem look_fnd (ns : List (Str × Int)) (w : Str) : look ns w = (fnd ns w).head? := by
  unfold look fnd
  rw [List.head?_map, List.head?_filter]
section
variable {A : Around} {L f : Addr} {cd : Value} {ρ : Loc} {H : AH} {qs : List (Nat × Nat)} {S d tx an fn fnn wl rl : Addr} {ts : List Str} {fs : List (List Int)}
theorem law_B (ok : Ok 12 true A) (hne : qs ≠ []) (h9 : qs.length ≤ 9) (hqs : ∀ q ∈ qs, q.1 < 6 ∧ q.2 < 3)
    (rw' : ρ (Str.ofString "words") = some (.ref wl)) (rr : ρ (Str.ofString "wraps") = some (.ref rl)) (rb : ρ (Str.ofString "book") = some (.ref S))
    (hw : H wl = some (.list ((wds qs).map .str))) (hr : H rl = some (.list ((shs qs).map .int)))
    (y : Sy H S d tx an fn fnn ts fs) (h7 : ts[7]? = some (Str.ofString ",")) (z1 : ts.length ≤ 3000) (z2 : fs.length ≤ 1000) :
    Exs g ⟨A, lawEnv L f cd⟩ (lawBody.drop 5) ρ H (fun fl _ _ => fl = .ret (.bool true)) (fun _ _ _ => False) := by
  have hh : A.handled = none := ok.hand rfl
  have yo := y.o
  have yt := y.t
  have ya := y.a
  have yf := y.f
  have yn := y.n
  have hlw : ((wds qs).map AV.str).length = qs.length := by simp
  refine Exs.cons ?_
  repeat' k_extra "w37a"
  intro nl hnl
  repeat' k_extra "w37a"
  intro al hal
  repeat' k_extra "w37a"
  refine EvIt.call ?_ (by kernel_rfl)
  repeat' k_extra "w37a"
  refine ⟨rfl, ?_⟩
  repeat' k_extra "w37a"
  refine ItC.range hh (by lia) ?_
  rw [hlw]
  have na := uD hal
  have hal := uN hal
  refine (?key : ∀ (rest : List (Nat × Nat)) (i : Nat) (ns : List (Str × Int)) (tot : Int) (sd : List AV) (H' : AH) (ρ' : Loc), qs.drop i = rest → i + rest.length ≤ 9 → ns.length ≤ i → sd.length ≤ i → Keep H H' → H' nl = some (.list (ns.map nameAV)) → H' al = some (.list sd) →
      ρ' (Str.ofString "words") = some (.ref wl) → ρ' (Str.ofString "wraps") = some (.ref rl) → ρ' (Str.ofString "book") = some (.ref S) → ρ' (Str.ofString "names") = some (.ref nl) → ρ' (Str.ofString "args") = some (.ref al) → ρ' (Str.ofString "total") = some (.int tot) →
      sd ++ sidesN (wsS rest) (runN (wds rest) (ns, tot)).1 = sidesN (wsS qs) (isN (wsS qs)) → (runN (wds rest) (ns, tot)).2.1 = nmsN (wsS qs) → ForL g _ _ _ _ _ (rngFrom i rest.length) ρ' H') qs 0 [] 0 [] _ _ rfl (by lia) (Nat.le_refl _) (Nat.le_refl _) ?K (upd_fresh (upd_none.mpr ⟨na, hal⟩) (upd_same _ _ _)) (upd_same _ _ _) (by k_extra "name") (by k_extra "name") (by k_extra "name") (by k_extra "name") (by k_extra "name") (by k_extra "name") ?E1 ?E2
  case K => exact fun b o e => upd_fresh (upd_none.mpr ⟨na, hal⟩) (upd_fresh hnl e)
  case E1 => simp only [List.nil_append, isN, wsS, wds, List.map_map]; rfl
  case E2 => simp only [nmsN, wsS, wds, List.map_map]; rfl
  intro rest
  induction rest with
  | nil =>
    intro i ns tot sd H' ρ' hd hi l1 l2 kp e1 e2 r1 r2 r3 r4 r5 r6 fin1 fin2
    refine ForL.nil ?_
    refine then_next ?_
    have fin1 : sd ++ [] = _ := fin1
    rw [List.append_nil] at fin1
    have fin2 : ns = _ := fin2
    rw [fin1] at e2
    rw [fin2] at e1
    exact law_C ok hne h9 hqs r1 r2 r4 r5 r3 (kp _ _ hw) (kp _ _ hr) e1 e2 ⟨kp _ _ y.o, kp _ _ y.t, kp _ _ y.a, kp _ _ y.f, kp _ _ y.n, y.ne⟩ h7 z1 z2 (by k_extra "ne") (by k_extra "ne") (by k_extra "ne") (by k_extra "ne")
  | cons q rest ih =>
    intro i ns tot sd H' ρ' hd hi l1 l2 kp e1 e2 r1 r2 r3 r4 r5 r6 fin1 fin2
    rw [List.length_cons] at hi
    obtain ⟨hq, hd'⟩ := drop_eq hd
    have hq3 := (hqs q (List.mem_of_getElem? hq)).2
    have hw1 : ((wds qs).map AV.str)[((i : Nat) : Int).toNat]? = some (.str (wrd q.1)) := by rw [Int.toNat_natCast, List.getElem?_map, List.getElem?_map, hq]; rfl
    have hr1 : ((shs qs).map AV.int)[((i : Nat) : Int).toNat]? = some (.int q.2) := by rw [Int.toNat_natCast, List.getElem?_map, List.getElem?_map, hq]; rfl
    have hw2 := kp _ _ hw
    have hr2 := kp _ _ hr
    show ForL g _ _ _ _ _ (.int i :: rngFrom (i + 1) rest.length) ρ' H'
    refine ForL.cons ?_
    refine As.name ?_ st_step
    refine Exs.cons ?_
    refine Ex.assignComp [(Str.ofString "words", L + 1), (Str.ofString "step", L + 1 + 1)] ?_ (by kernel_rfl) ⟨by kernel_rfl, .inl ⟨by kernel_rfl, by kernel_rfl⟩⟩ rfl (by intro p hp; simp only [List.mem_cons, List.not_mem_nil, or_false] at hp; rcases hp with rfl | rfl; exact law_words; exact law_step) rfl (by decide) (by decide)
    refine EvIt.val ?_
    repeat' k_extra "w37a"
    intro fl C hfl
    refine CmpL.flat (fun ρ => ρ (Str.ofString "words") = some (.ref wl) ∧ ρ (Str.ofString "step") = some (.int i)) (fun v ρ => setL (setL ρ (Str.ofString "name") (nth 0 v)) (Str.ofString "one") (nth 1 v)) (fndP (wrd q.1)) (nth 1) (fun us => upd_fresh hfl e1) _ [] _ (fun v _ ρ h => ⟨?_, ?_⟩) ?_ ?_ ?_ ?_ ?_ ⟨compL_look rfl (by k_extra "name"), compL_look rfl (by k_extra "name")⟩
    · have h1 := h.1; k_extra "name"
    · have h2 := h.2; k_extra "name"
    · intro v hv ρ us k' hG hk
      obtain ⟨p, hp, rfl⟩ := List.mem_map.mp hv
      show As g _ _ (AV.tup [.str p.1, .int p.2]) _ _ _
      repeat' k_extra "w37a"
      exact hk
    · intro v hv ρ us k' hG hk
      obtain ⟨g1, g2⟩ := hG
      obtain ⟨p, hp, rfl⟩ := List.mem_map.mp hv
      have x0 : nth 0 (nameAV p) = .str p.1 := rfl
      have x1 : nth 1 (nameAV p) = .int p.2 := rfl
      have x2 : fndP (wrd q.1) (nameAV p) = decide (p.1 = wrd q.1) := rfl
      simp only [x0, x1, x2] at hk ⊢
      refine TsL.one ?_
      repeat' k_extra "w37a"
      exact hk
    · intro v hv hpv ρ us k' hG hk
      obtain ⟨p, hp, rfl⟩ := List.mem_map.mp hv
      have x0 : nth 0 (nameAV p) = .str p.1 := rfl
      have x1 : nth 1 (nameAV p) = .int p.2 := rfl
      simp only [x0, x1] at hk ⊢
      repeat' k_extra "w37a"
      exact hk
    · rw [List.length_map]; simp only [List.length_nil]; lia
    · intro ρc _
      rw [found_are, List.nil_append]
      refine then_next ?_
      refine Exs.cons ?_
      have kfl : Keep H' (upd H' fl (.list ((fnd ns (wrd q.1)).map .int))) := Keep.new hfl
      have hHfl : H fl = none := by
        cases q' : H fl with
        | none => rfl
        | some o => rw [kp _ _ q'] at hfl; cases hfl
      refine Tri.mono (k := fun fw ρ2 H2 => fw = AF.next ∧ ∃ fd fr, ρ2 (Str.ofString "found") = some (.ref fd) ∧ H2 fd = some (.list (.int (stepN (ns, tot) (wrd q.1)).1 :: fr)) ∧ fr.length ≤ 9 ∧ ρ2 (Str.ofString "total") = some (.int (stepN (ns, tot) (wrd q.1)).2.2) ∧ ρ2 (Str.ofString "words") = some (.ref wl) ∧ ρ2 (Str.ofString "wraps") = some (.ref rl) ∧ ρ2 (Str.ofString "book") = some (.ref S) ∧ ρ2 (Str.ofString "names") = some (.ref nl) ∧ ρ2 (Str.ofString "args") = some (.ref al) ∧ ρ2 (Str.ofString "step") = some (.int i) ∧
        Keep H H2 ∧ H2 nl = some (.list ((stepN (ns, tot) (wrd q.1)).2.1.map nameAV)) ∧ H2 al = some (.list sd)) ?_ (fun fw ρ2 H2 hm => ?_) (fun _ _ _ z => z)
      · have e1' := kfl _ _ e1
        have e2' := kfl _ _ e2
        have hw3 := kfl _ _ hw2
        have hr3 := kfl _ _ hr2
        have lns : (ns.map nameAV).length = ns.length := List.length_map ..
        have kp' : Keep H (upd H' fl (.list ((fnd ns (wrd q.1)).map .int))) := kp.trans kfl
        have hfl' : upd H' fl (.list ((fnd ns (wrd q.1)).map .int)) fl = some (.list ((fnd ns (wrd q.1)).map .int)) := upd_same _ _ _
        have hfnd : (fnd ns (wrd q.1)).length ≤ 9 := by
          unfold fnd
          rw [List.length_map]
          have := List.length_filter_le (fun p : Str × Int => decide (p.1 = wrd q.1)) ns
          lia
        revert e1' e2' hw3 hr3 kp' hfl'
        generalize upd H' fl (.list ((fnd ns (wrd q.1)).map .int)) = H1
        intro e1' e2' hw3 hr3 kp' hfl'
        by_cases hu : wrd q.1 = uns
        · have es : stepN (ns, tot) (wrd q.1) = (tot, ns, tot + 1) := by unfold stepN; rw [if_pos hu]
          rw [es]
          rw [hu] at hw1
          have hue : uns = Str.ofString "_" := rfl
          repeat' k_extra "w37a"
          intro bl hbl
          refine Op2.eqNil (upd_fresh hbl hfl') (upd_same _ _ _) (by have := ok.units; show A.units ≤ 9000; lia) ?_
          refine Op1.truthy_bool ?_
          refine ifBS (fun hb => ?_) (fun hb => ?_)
          all_goals
            repeat' k_extra "w37a"
            try (rename_i hc; exact absurd hue hc)
            intro tl htl
            repeat' k_extra "w37a"
            try (rename_i hc; exact absurd hue hc)
            refine ⟨rfl, tl, [], by k_extra "name", upd_same _ _ _, by simp, by k_extra "name", by k_extra "name", by k_extra "name", by k_extra "name", by k_extra "name", by k_extra "name", by k_extra "name", fun b o e => upd_fresh htl (upd_fresh hbl (kp' b o e)), upd_fresh htl (upd_fresh hbl e1'), upd_fresh htl (upd_fresh hbl e2')⟩
        · have hue : ¬ wrd q.1 = Str.ofString "_" := hu
          have hlk := look_fnd ns (wrd q.1)
          cases hf : fnd ns (wrd q.1) with
          | nil =>
            rw [hf] at hlk hfl'
            have es : stepN (ns, tot) (wrd q.1) = (tot, ns ++ [(wrd q.1, tot)], tot + 1) := by
              unfold stepN
              rw [if_neg hu]
              show (match look ns (wrd q.1) with | some j => _ | none => _) = _
              rw [hlk]
              rfl
            rw [es]
            repeat' k_extra "w37a"
            intro bl hbl
            refine Op2.eqNil (upd_fresh hbl hfl') (upd_same _ _ _) (by have := ok.units; show A.units ≤ 9000; lia) ?_
            refine Op1.truthy_bool ?_
            refine ifT rfl ?_
            repeat' k_extra "w37a"
            intro tl htl
            have m1 := ne_fresh htl (upd_fresh hbl e1')
            have ht0 : ([AV.int tot])[(0 : Int).toNat]? = some (.int tot) := rfl
            have m2 : nl ≠ al := by k_extra "ne"
            repeat' k_extra "w37a"
            refine ⟨rfl, tl, [], by k_extra "name", (upd_ne (Ne.symm m1)).trans (upd_same _ _ _), by simp, by k_extra "name", by k_extra "name", by k_extra "name", by k_extra "name", by k_extra "name", by k_extra "name", by k_extra "name", Keep.put (fun b o e => upd_fresh htl (upd_fresh hbl (kp' b o e))) hnl, ?_, (upd_ne (Ne.symm m2)).trans (upd_fresh htl (upd_fresh hbl e2'))⟩
            rw [upd_same, List.map_append]
            rfl
          | cons n0 fr =>
            rw [hf] at hlk hfl' hfnd
            have es : stepN (ns, tot) (wrd q.1) = (n0, ns, tot) := by
              unfold stepN
              rw [if_neg hu]
              show (match look ns (wrd q.1) with | some j => _ | none => _) = _
              rw [hlk]
              rfl
            rw [es]
            repeat' k_extra "w37a"
            intro bl hbl
            refine Op2.eqNil (upd_fresh hbl hfl') (upd_same _ _ _) (by have := ok.units; show A.units ≤ 9000; lia) ?_
            refine Op1.truthy_bool ?_
            refine ifF (show ¬ false = true from Bool.false_ne_true) ?_
            repeat' k_extra "w37a"
            refine ⟨rfl, fl, fr.map .int, by k_extra "name", upd_fresh hbl hfl', by rw [List.length_map]; simp at hfnd; lia, by k_extra "name", by k_extra "name", by k_extra "name", by k_extra "name", by k_extra "name", by k_extra "name", by k_extra "name", fun b o e => upd_fresh hbl (kp' b o e), upd_fresh hbl e1', upd_fresh hbl e2'⟩
      · obtain ⟨rfl, fd, fr, v1, v2, v3, v4, v5, v6, v7, v8, v9, v10, v11, v12, v13⟩ := hm
        have hw4 := v11 _ _ hw
        have hr4 := v11 _ _ hr
        have hlr : (AV.int (stepN (ns, tot) (wrd q.1)).1 :: fr).length < 2 ^ 60 := by rw [List.length_cons]; lia
        have hf0 : (AV.int (stepN (ns, tot) (wrd q.1)).1 :: fr)[(0 : Int).toNat]? = some (.int (stepN (ns, tot) (wrd q.1)).1) := rfl
        refine then_next ?_
        repeat' k_extra "w37a"
        all_goals
          have sl := stepN_len ns tot (wrd q.1)
          have m2 : nl ≠ al := Ne.symm na
          rename_i hc
        · have hs2 : q.2 = 2 := by lia
          have es : sideT q.2 (stepN (ns, tot) (wrd q.1)).1 = dotT (vT (stepN (ns, tot) (wrd q.1)).1) nilT := by rw [hs2]; rfl
          refine turnF_next trivial (ih (i + 1) _ _ (sd ++ [sideT q.2 (stepN (ns, tot) (wrd q.1)).1]) _ _ hd' (by lia) (by lia) (by rw [List.length_append, List.length_singleton]; lia) (Keep.put v11 hal) ((upd_ne m2).trans v12) (by rw [es]; exact upd_same _ _ _) (by k_extra "name") (by k_extra "name") (by k_extra "name") (by k_extra "name") (by k_extra "name") (by k_extra "name") (by rw [List.append_assoc]; exact fin1) fin2)
        · have hs2 : ¬ q.2 = 2 := by lia
          have es : sideT q.2 (stepN (ns, tot) (wrd q.1)).1 = vT (stepN (ns, tot) (wrd q.1)).1 := if_neg hs2
          refine turnF_next trivial (ih (i + 1) _ _ (sd ++ [sideT q.2 (stepN (ns, tot) (wrd q.1)).1]) _ _ hd' (by lia) (by lia) (by rw [List.length_append, List.length_singleton]; lia) (Keep.put v11 hal) ((upd_ne m2).trans v12) (by rw [es]; exact upd_same _ _ _) (by k_extra "name") (by k_extra "name") (by k_extra "name") (by k_extra "name") (by k_extra "name") (by k_extra "name") (by rw [List.append_assoc]; exact fin1) fin2)
end
end
end

section
section
variable {g : Gd Mine.hp.heap_1}

theorem w38a : True := by
  (k_with "w38a" =>
    first
      | (first
          | ((with_reducible show Tri _ _ _ (eval (Expr.Name (Str.ofString "words") _) _) _ _ _ _); refine Ev.cell (by k_extra "name") ?_ (by first | exact law_words | exact look_words1 _ | exact look_words2 _ _))
          | ((with_reducible show Tri _ _ _ (eval (Expr.Name (Str.ofString "step") _) _) _ _ _ _); refine Ev.cell (by k_extra "name") ?_ (by first | exact law_step | exact look_step2 _ _))
          | ((with_reducible show As _ _ (Expr.Name (Str.ofString "step") _) _ _ _ _); refine As.name ?_ st_step)
          | ((with_reducible show Tri _ _ _ (exec (Stmt.Assign [Expr.Name (Str.ofString "words") _] _ _) _) _ _ _ _); refine Ex.assign ?_ st_words))
      | k_extra "step")
  trivial
noncomputable def cellsN (ns : List Int) : List Nat := (ns.take 10).map Int.natAbs ++ List.replicate 10 0
theorem cellsN_len (ns : List Int) : 10 ≤ (cellsN ns).length ∧ (cellsN ns).length ≤ 20 := by
  unfold cellsN
  rw [List.length_append, List.length_map, List.length_take, List.length_replicate]
  lia
theorem cells_at {cs : List Nat} {i : Nat} (h : i < cs.length) : (cds cs)[((i : Nat) : Int).toNat]? = some (.int ((cs[i]?.getD 0 : Nat) : Int)) := by
  rw [Int.toNat_natCast]
  exact cds_get (by rw [List.getElem?_eq_getElem h]; rfl)
theorem fmod_nat (a b : Nat) : (a : Int).fmod (b : Int) = ((a % b : Nat) : Int) := by
  rw [Int.fmod_eq_emod_of_nonneg _ (Int.natCast_nonneg b)]
  lia
theorem fdiv_nat (a b : Nat) : (a : Int).fdiv (b : Int) = ((a / b : Nat) : Int) := by
  rw [Int.fdiv_eq_ediv_of_nonneg _ (Int.natCast_nonneg b)]
  lia
noncomputable def absA : AV → AV
  | .int i => .int (i.natAbs : Nat)
  | _ => .none
section
variable {A : Around} {L f l4 : Addr} {cd : Value} {w3 : List Value} {w7 : List Int}
theorem law_A2 {ρ : Loc} {H : AH} {cl : Addr} {cs : List Nat} (ok : Ok 12 true A) (h10 : 10 ≤ cs.length) (rc : ρ (Str.ofString "cells") = some (.ref cl)) (hc : H cl = some (.list (cds cs))) :
    Exs g ⟨A, lawEnv L f cd⟩ (lawBody.drop 1) ρ H (fun fl _ _ => fl = .ret (.bool true)) (fun _ _ _ => False) := by
  have hh : A.handled = none := ok.hand rfl
  refine Exs.cons ?_
  repeat' k_extra "w38a"
  refine Cal.at (Symbols_spec ?_) (Ok.leB (by assumption) rfl)
  intro S d tx an fn fnn ts fs H1 f1 f2 f3 f4 f5 kp y h7 z1 z2
  repeat' k_extra "w38a"
  intro wl hwl
  repeat' k_extra "w38a"
  intro rl hrl
  have nrw := uD hrl
  have hrl := uN hrl
  have hc1 := kp _ _ hc
  have e0 := cells_at (cs := cs) (i := 0) (by lia)
  have e0 : (cds cs)[(0 : Int).toNat]? = _ := e0
  have lcs : (cds cs).length = cs.length := cds_len
  repeat' k_extra "w38a"
  refine EvIt.call ?_ (by kernel_rfl)
  repeat' k_extra "w38a"
  refine ⟨rfl, ?_⟩
  repeat' k_extra "w38a"
  refine Op2.mod (by decide) ?_
  repeat' k_extra "w38a"
  rw [show ((cs[0]?.getD 0 : Nat) : Int).fmod 9 + 1 = ((cs[0]?.getD 0 % 9 + 1 : Nat) : Int) by rw [show (9 : Int) = ((9 : Nat) : Int) from rfl, fmod_nat]; lia]
  have hN : cs[0]?.getD 0 % 9 + 1 ≤ 9 := by lia
  have hN1 : 1 ≤ cs[0]?.getD 0 % 9 + 1 := by lia
  generalize cs[0]?.getD 0 % 9 + 1 = N at hN hN1 ⊢
  refine ItC.range hh (by lia) ?_
  have hHS : H1 S = some (symO d tx an fn fnn) := y.o
  refine (?key : ∀ (m i : Nat) (qs : List (Nat × Nat)) (H' : AH) (ρ' : Loc), i + m = N → qs.length = i → (∀ q ∈ qs, q.1 < 6 ∧ q.2 < 3) → Keep H1 H' → H' wl = some (.list ((wds qs).map .str)) → H' rl = some (.list ((shs qs).map .int)) →
      ρ' (Str.ofString "cells") = some (.ref cl) → ρ' (Str.ofString "words") = some (.ref wl) → ρ' (Str.ofString "wraps") = some (.ref rl) → ρ' (Str.ofString "book") = some (.ref S) → ForL g _ _ _ _ _ (rngFrom i m) ρ' H') N 0 [] _ _ (by lia) rfl (by intro q h; cases h) (fun b o e => upd_fresh (upd_none.mpr ⟨nrw, hrl⟩) (upd_fresh hwl e)) (upd_fresh (upd_none.mpr ⟨nrw, hrl⟩) (upd_same _ _ _)) (upd_same _ _ _) (by k_extra "name") (by k_extra "name") (by k_extra "name") (by k_extra "name")
  intro m
  induction m with
  | zero =>
    intro i qs H' ρ' hi hq hok kp' e1 e2 r1 r2 r3 r4
    refine ForL.nil ?_
    refine then_next ?_
    exact law_B ok (by intro e; subst e; simp at hq; lia) (by lia) hok r2 r3 r4 e1 e2 ⟨kp' _ _ y.o, kp' _ _ y.t, kp' _ _ y.a, kp' _ _ y.f, kp' _ _ y.n, y.ne⟩ h7 z1 z2
  | succ m ih =>
    intro i qs H' ρ' hi hq hok kp' e1 e2 r1 r2 r3 r4
    have hc2 := kp' _ _ hc1
    have hat := cells_at (cs := cs) (i := i + 1) (by lia)
    rw [show ((i + 1 : Nat) : Int) = 1 + (i : Int) by lia] at hat
    generalize cs[i + 1]?.getD 0 = ci at hat
    have lw : ((wds qs).map AV.str).length ≤ 9 := by rw [List.length_map, List.length_map]; lia
    have lr : ((shs qs).map AV.int).length ≤ 9 := by rw [List.length_map, List.length_map]; lia
    have mn := menu_at (n := ci % 6) (by lia)
    show ForL g _ _ _ _ _ (.int i :: rngFrom (i + 1) m) ρ' H'
    refine ForL.cons ?_
    refine As.name ?_ st_step
    repeat' k_extra "w38a"
    intro ml hml
    repeat' k_extra "w38a"
    refine Op2.mod (by decide) ?_
    rw [show (ci : Int).fmod 6 = ((ci % 6 : Nat) : Int) from fmod_nat ci 6]
    refine Op2.itemL (upd_same _ _ _) (Int.natCast_nonneg _) (by lia) (by rw [Int.toNat_natCast]; exact mn) ?_
    have n1 := ne_fresh hml e1
    have n2 := ne_fresh hml e2
    have n3 := ne_fresh hml hc2
    have n4 : wl ≠ rl := Ne.symm nrw
    have n5 : cl ≠ wl := by k_extra "ne"
    have n6 : cl ≠ rl := by k_extra "ne"
    repeat' k_extra "w38a"
    refine Op2.fdiv (by decide) (PyProof.noPylong_small (by decide)) ?_
    rw [show (ci : Int).fdiv 6 = ((ci / 6 : Nat) : Int) from fdiv_nat ci 6]
    repeat' k_extra "w38a"
    refine Op2.mod (by decide) ?_
    rw [show ((ci / 6 : Nat) : Int).fmod 3 = ((ci / 6 % 3 : Nat) : Int) from fmod_nat _ 3]
    repeat' k_extra "w38a"
    have hnew : ∀ q ∈ qs ++ [(ci % 6, ci / 6 % 3)], q.1 < 6 ∧ q.2 < 3 := by
      intro q hq'
      rcases List.mem_append.mp hq' with h | h
      · exact hok q h
      · rw [List.mem_singleton] at h; subst h; exact ⟨by simp only; lia, by simp only; lia⟩
    have x1 : (wds qs).map AV.str ++ [AV.str (wrd (ci % 6))] = (wds (qs ++ [(ci % 6, ci / 6 % 3)])).map .str := by simp [wds]
    have x2 : (shs qs).map AV.int ++ [AV.int ((ci / 6 % 3 : Nat) : Int)] = (shs (qs ++ [(ci % 6, ci / 6 % 3)])).map .int := by simp [shs]
    rw [x1, x2]
    refine turnF_next trivial (ih (i + 1) (qs ++ [(ci % 6, ci / 6 % 3)]) _ _ (by lia) (by rw [List.length_append, List.length_singleton]; lia) hnew (Keep.put (Keep.put (fun b o e => upd_fresh hml (kp' b o e)) hwl) hrl) ((upd_ne n4).trans (upd_same _ _ _)) (upd_same _ _ _) (by k_extra "name") (by k_extra "name") (by k_extra "name") (by k_extra "name"))
theorem law_A (ok : Ok 12 true A) (hL : g.hb.IsList l4 w3.toArray) (hI : IntsAre w3 w7) (h63 : w7.length ≤ 63) :
    Exs g ⟨A, lawEnv L f cd⟩ (lawBody.drop 0) (setL noL (Str.ofString "script") (.ref l4)) noH (fun fl _ _ => fl = .ret (.bool true)) (fun _ _ _ => False) := by
  have hh : A.handled = none := ok.hand rfl
  have hVR : ∀ h : Heap, VRs h (w3.take 10) ((w7.take 10).map .int) := fun h => by
    have := (ints_VRs (h := h) hI).take 10
    rwa [← List.map_take] at this
  have hl3 : w3.length = w7.length := by have := (ints_VRs (h := g.hb) hI).length; rwa [List.length_map] at this
  refine Exs.cons ?_
  refine Ex.assign ?_ ⟨by kernel_rfl, .inl ⟨by kernel_rfl, by kernel_rfl⟩⟩
  refine Ev.binop ?_
  refine Ev.comp [] ?_ rfl (by intro p hp; cases hp) rfl (by decide) (by decide)
  refine EvIt.val ?_
  refine Ev.sliceG ?_
  repeat' k_extra "w38a"
  refine ⟨_, w3, _, _, rfl, hL, by lia, slicePick_upto' w3.toArray 10, hVR, ?_⟩
  intro s1 hs1
  repeat' k_extra "w38a"
  intro s2 C hs2
  refine CmpL.flat (fun _ => True) (fun v ρ => setL ρ (Str.ofString "cell") v) (fun _ => true) absA (fun us => upd_fresh hs2 (upd_same _ _ _)) _ [] _ (fun _ _ _ _ => trivial) ?_ ?_ ?_ ?_ ?_ trivial
  · intro v hv ρ us k' _ hk
    exact As.name hk ⟨by kernel_rfl, .inl ⟨by kernel_rfl, by kernel_rfl⟩⟩
  · intro v hv ρ us k' _ hk
    exact TsL.nil hk
  · intro v hv _ ρ us k' _ hk
    obtain ⟨n, hn, rfl⟩ := List.mem_map.mp hv
    repeat' k_extra "w38a"
    refine OpL.int ?_
    repeat' k_extra "w38a"
    exact OpL.abs hk
  · rw [List.length_map, List.length_take]; simp only [List.length_nil]; lia
  · intro ρc _
    rw [List.nil_append]
    repeat' k_extra "w38a"
    intro s3 hs3
    repeat' k_extra "w38a"
    refine Op2.mulOne (n := 10) (upd_same _ _ _) (by decide) (fun s4 hs4 => ?_)
    refine Op2.addL (upd_fresh hs4 (upd_fresh hs3 (upd_same _ _ _))) (upd_same _ _ _) ?_ (fun cl hcl => ?_)
    · rw [List.length_map, List.length_replicate]
      have := List.length_filter_le (fun _ => true) ((w7.take 10).map AV.int)
      rw [List.length_map, List.length_take] at this
      lia
    have ecl : (((w7.take 10).map AV.int).filter (fun _ => true)).map absA ++ List.replicate 10 (AV.int 0) = cds (cellsN w7) := by
      rw [List.filter_eq_self.mpr (fun _ _ => rfl), List.map_map]
      unfold cds cellsN
      rw [List.map_append, List.map_map, List.map_replicate]
      rfl
    rw [ecl]
    refine then_next ?_
    exact law_A2 ok (cellsN_len w7).1 (by k_extra "name") (upd_same _ _ _)
end
end
end

section
section
theorem ok_caller (env : Env) : Ok 12 true (callerA.deeper env) := ⟨Nat.le_of_ble_eq_true rfl, Nat.le_of_ble_eq_true rfl, fun _ => rfl⟩
theorem law_top {prog : Program} {w : World} {p : Program} {loose : List Str} {mean : ExcName → Option Value} {mg mb : Str → Option Value} {s₁ s : Shared} {h₁ : Heap} {m : Str → Option Value} {fa l4 : Addr} {cd : Value} {w3 : List Value} {w7 : List Int} {o1 o2 : Obj} {A : Around} {Q : Flow → Shared → Prop} {E : Value → Shared → Prop}
    (KX : (Mine.hp.heap_1 w.params).In s₁.heap) (T : Top p loose mean mg mb s₁.heap) (hL : s₁.heap.IsList l4 w3.toArray) (hI : IntsAre w3 w7) (h63 : w7.length ≤ 63) (es : s.heap = h₁)
    (F : Fr s₁.heap s₁.heap.objs.size h₁ m) (hm : m (Str.ofString "script") = some (.ref l4)) (N0 : News s₁.heap s₁.heap.objs.size h₁ [(s₁.heap.objs.size + 1 + 1, o1), (s₁.heap.objs.size + 1, o2)]) (d1 : ∃ v, o1.data = .cell v) (d2 : ∃ v, o2.data = .cell v) (ok : Ok 12 true A)
    (q : ∀ s', s' = { s with heap := s'.heap, toks := s'.toks } → (∀ b o, s₁.heap.get? b = some o → s'.heap.get? b = some o) → Q (.ret (.bool true)) s') :
    wpAny (model prog w) A (execs lawBody (lawEnv s₁.heap.objs.size fa cd)) Q E s := by
  subst es
  have lo : sysModules < s₁.heap.objs.size := by
    obtain ⟨o, ho⟩ : ∃ o, (Mine.hp.heap_1 w.params).lookup 165 = some o := ⟨_, by k_is⟩
    exact Nat.lt_trans (show sysModules < 165 from by decide) (Heap.lt_size (KX _ _ ho))
  let g : Gd Mine.hp.heap_1 := ⟨prog, w, p, loose, mean, mg, mb, s₁.heap, KX, T, lo⟩
  obtain ⟨c1, c2, -⟩ := N0 _ (.head _)
  obtain ⟨c3, c4, -⟩ := N0 _ (.tail _ (.head _))
  obtain ⟨v1, d1⟩ := d1
  obtain ⟨v2, d2⟩ := d2
  have cells : ∀ {y : Str} {c : Addr}, (lawEnv s₁.heap.objs.size fa cd).cells.lookup y = some c → (y = Str.ofString "step" ∧ c = s₁.heap.objs.size + 1 + 1) ∨ (y = Str.ofString "words" ∧ c = s₁.heap.objs.size + 1) := fun {y c} e => by
    rw [law_cells] at e
    have h := lookup_mem e
    simp only [List.mem_cons, List.not_mem_nil, or_false, Prod.mk.injEq] at h
    exact h
  have R : Rep g (lawEnv s₁.heap.objs.size fa cd) s.heap (setL noL (Str.ofString "script") (.ref l4)) noH (fun _ => none) := by
    refine ⟨⟨F.keep, Nat.le_of_lt F.ns.lt, fun a x e => (nomatch e), fun a o e => (nomatch e)⟩, ⟨⟨m, F.ns, fun y d e => ?_⟩, ⟨Nat.le_refl _, rfl, rfl⟩, fun y c e => ?_, fun y y' c e e' => ?_⟩⟩
    · by_cases q : y = Str.ofString "script"
      · subst q
        rw [setL_same] at e
        cases e
        rw [law_cells, show List.lookup (Str.ofString "script") [(Str.ofString "step", s₁.heap.objs.size + 1 + 1), (Str.ofString "words", s₁.heap.objs.size + 1)] = none by kernel_rfl]
        exact ⟨_, hm, .ref _⟩
      · rw [setL_ne q] at e; cases e
    · rcases cells e with ⟨rfl, rfl⟩ | ⟨rfl, rfl⟩
      · exact ⟨Nat.le_trans (Nat.le_succ _) (Nat.le_succ _), rfl, fun _ => rfl, c2, v1, o1, c1, d1⟩
      · exact ⟨Nat.le_succ _, rfl, fun _ => rfl, c4, v2, o2, c3, d2⟩
    · rcases cells e with ⟨h1, h2⟩ | ⟨h1, h2⟩ <;> rcases cells e' with ⟨h3, h4⟩ | ⟨h3, h4⟩
      · rw [h1, h3]
      · rw [h2] at h4; exact absurd h4 (Nat.ne_of_gt (Nat.lt_succ_self _))
      · rw [h2] at h4; exact absurd h4 (Nat.ne_of_lt (Nat.lt_succ_self _))
      · rw [h1, h3]
  refine law_A (g := g) ok hL hI h63 s (fun _ => none) Q E R (fun fl b s' ρ' H' st R' hf hk => ?_) fun _ _ _ _ _ _ _ _ h => h.elim
  subst hk
  cases hf with
  | ret hv =>
    cases hv
    exact q s' st.eq R'.o.keep
end
end

end
end Mine
set_option maxHeartbeats 8000000 in
theorem PySem.Challenge.cw_rr0038_01_holds : PySem.Challenge.rw_rr0038_01.Holds := by
  refine Mine.hd ?_
  k_go0
  refine Mine.law_top (by assumption) (by assumption) (by assumption) (by assumption) (by omega) rfl (by assumption) ?hm (by assumption) ⟨_, by assumption⟩ ⟨_, by assumption⟩ (Mine.ok_caller _) ?q
  case hm => kernel_rfl
  case q =>
    intro s' es hk
    refine ⟨.inl ⟨_, .bool true, [], rfl, raisesW_false ?_, .bool true, ?_, unshared_nil⟩, hk, ?_, ?_⟩
    · wrow_none_raised
    · wrow_post
    · rw [es]
    · rw [es]; assumption
