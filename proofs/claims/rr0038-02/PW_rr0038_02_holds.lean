import PyProof.Rows.All
import Wide.All
import OpenK.AllK
import Wide.FinOn
import KE.KUnpack
import Lean
import PySem.Challenge.RW_rr0038_02
open PySem PySem.W PyProof.Rows
set_option Elab.async false
set_option linter.unusedVariables false
set_option genSizeOf false
set_option compiler.extract_closed false
section
open PySem PySem.W PyProof.Rows
set_option Elab.async false
set_option linter.unusedVariables false
set_option maxRecDepth 100000
set_option maxHeartbeats 8000000
namespace Mine
section
local macro_rules | `(tactic| o_head (kHook $k $_ $_)) => `(tactic| (rotate_left; (exact $k); assumption))
noncomputable def hp : Params → Frag := by
  refine PProd.snd (⟨?p, ?data⟩ : PProd ((PySem.Challenge.rw_rr0038_02).row.Holds → (PySem.Challenge.rw_rr0038_02).row.Holds) (Params → Frag))
  intro hyp
  k_head
end
end Mine
end

section
set_option maxRecDepth 100000
set_option maxHeartbeats 8000000
namespace Mine
noncomputable def dropAt (ms : List Nat) : Nat → List Stmt → List Stmt
  | _, [] => []
  | i, s :: r => if ms.contains i then dropAt ms (i + 1) r else s :: dropAt ms (i + 1) r
noncomputable def view : Program := { PySem.Challenge.rw_rr0038_02.row.toRowW.prog with main := { PySem.Challenge.rw_rr0038_02.row.toRowW.prog.main with body := dropAt [1, 13, 24, 45, 51, 52, 63, 76, 78] 0 PySem.Challenge.rw_rr0038_02.row.toRowW.prog.main.body } }
noncomputable def lawD : DefRec := match PySem.Challenge.rw_rr0038_02.prog.main.body.getLast? with
  | some (.FunctionDef name params body _ _ _ scope _ _ pos) => ⟨name, params, body, scope, pos⟩
  | _ => ⟨Str.ofString "", default, [], default, default⟩
@[reducible] def Gg {T : Prop} (_ : T) (r : OpenRow) : Prop := r.Holds
def Dp {T : Prop} (_ : T) (P : Prop) : Prop := P
theorem hop {T : Prop} {t : T} {r : OpenRow} {X : Prop} (f : X → r.Holds) (call : Dp t X) : Gg t r := f call
section
local macro_rules | `(tactic| refine $f:ident $args*) => if f.getId == ``PySem.W.holds_open then `(tactic| refine hop ($f $(args.pop)*) $(⟨args.back!⟩)) else Lean.Macro.throwUnsupported
theorem hd.tw10012880186880212623 : True := trivial
theorem hd.tw10030107230732127627 : True := trivial
theorem hd.tw100483095206116625 : True := trivial
theorem hd.tw1005483496087919985 : True := trivial
theorem hd.tw10098268173465320503 : True := trivial
theorem hd.tw1010039293126601017 : True := trivial
theorem hd.tw1011335219593555734 : True := trivial
theorem hd.tw10117440562283002822 : True := trivial
theorem hd.tw1013155817946168525 : True := trivial
theorem hd.tw10170382586518783626 : True := trivial
theorem hd.tw10200926772931222457 : True := trivial
theorem hd.tw102014493982917126 : True := trivial
theorem hd.tw10210669037155785340 : True := trivial
theorem hd.tw10246146449241189800 : True := trivial
theorem hd.tw10258999931320997221 : True := trivial
theorem hd.tw10273187271170590260 : True := trivial
theorem hd.tw10283529075043463162 : True := trivial
theorem hd.tw10286656452748174568 : True := trivial
theorem hd.tw10292235466723388172 : True := trivial
theorem hd.tw1032897675154438637 : True := trivial
theorem hd.tw1033889070964956483 : True := trivial
theorem hd.tw10365702040365258594 : True := trivial
theorem hd.tw1043307727769730188 : True := trivial
theorem hd.tw10465514089279642386 : True := trivial
theorem hd.tw10491609206876299696 : True := trivial
theorem hd.tw10507497572311344420 : True := trivial
theorem hd.tw1051681510052472703 : True := trivial
theorem hd.tw10525666975642140466 : True := trivial
theorem hd.tw10531373872144210542 : True := trivial
theorem hd.tw10543509907540572799 : True := trivial
theorem hd.tw10552574844327859949 : True := trivial
theorem hd.tw10583446816852156582 : True := trivial
theorem hd.tw10601615944963115059 : True := trivial
theorem hd.tw10603584201595350602 : True := trivial
theorem hd.tw10614716105012338702 : True := trivial
theorem hd.tw10643592516055977328 : True := trivial
theorem hd.tw10678649693572172417 : True := trivial
theorem hd.tw10693273971655334444 : True := trivial
theorem hd.tw10743916045514856203 : True := trivial
theorem hd.tw10752148897807903841 : True := trivial
theorem hd.tw10763509664835889504 : True := trivial
theorem hd.tw10778013660560245624 : True := trivial
theorem hd.tw10778257442750969130 : True := trivial
theorem hd.tw10784824025267889561 : True := trivial
theorem hd.tw10788059911547816233 : True := trivial
theorem hd.tw10792051664901133789 : True := trivial
theorem hd.tw10806950440038215891 : True := trivial
theorem hd.tw10834780440838970164 : True := trivial
theorem hd.tw10841399608879689956 : True := trivial
theorem hd.tw10844753989422098599 : True := trivial
theorem hd.tw10845626234925267891 : True := trivial
theorem hd.tw10847404155465417027 : True := trivial
theorem hd.tw10860895700388868024 : True := trivial
theorem hd.tw10879034167726328663 : True := trivial
theorem hd.tw10919297434634762262 : True := trivial
theorem hd.tw10933677585905718993 : True := trivial
theorem hd.tw10944956837784636368 : True := trivial
theorem hd.tw10949625832625181284 : True := trivial
theorem hd.tw1097748713957950337 : True := trivial
theorem hd.tw1097998534492414930 : True := trivial
theorem hd.tw11011131195910976488 : True := trivial
theorem hd.tw11032806212648032379 : True := trivial
theorem hd.tw11052946933831473538 : True := trivial
theorem hd.tw11054480109507316185 : True := trivial
theorem hd.tw11079593142295127227 : True := trivial
theorem hd.tw11115866451450875312 : True := trivial
theorem hd.tw11119798521548139033 : True := trivial
theorem hd.tw11128854368766332075 : True := trivial
theorem hd.tw11136197038861592535 : True := trivial
theorem hd.tw11151547217846952531 : True := trivial
theorem hd.tw11161378853769524075 : True := trivial
theorem hd.tw11162318198679636149 : True := trivial
theorem hd.tw1118553966540926140 : True := trivial
theorem hd.tw11210553801493137410 : True := trivial
theorem hd.tw11232374478483605306 : True := trivial
theorem hd.tw11249132867342737325 : True := trivial
theorem hd.tw11251137523995926341 : True := trivial
theorem hd.tw11256106856564762260 : True := trivial
theorem hd.tw11283319371284918911 : True := trivial
theorem hd.tw1129884963351977449 : True := trivial
theorem hd.tw11319097763535126812 : True := trivial
theorem hd.tw11319892378374348655 : True := trivial
theorem hd.tw11364443708160879001 : True := trivial
theorem hd.tw11375277706881905925 : True := trivial
theorem hd.tw11389486352061984695 : True := trivial
theorem hd.tw11399449904127653305 : True := trivial
theorem hd.tw11402939732021071671 : True := trivial
theorem hd.tw11434409384045074295 : True := trivial
theorem hd.tw11465210709893060100 : True := trivial
theorem hd.tw11472165163037031739 : True := trivial
theorem hd.tw1147470481896660410 : True := trivial
theorem hd.tw11507959949525687343 : True := trivial
theorem hd.tw11513968764499736323 : True := trivial
theorem hd.tw11551083187376567056 : True := trivial
theorem hd.tw11587034568685482758 : True := trivial
theorem hd.tw11623594800819314181 : True := trivial
theorem hd.tw11631869004601391166 : True := trivial
theorem hd.tw11631947586910100387 : True := trivial
theorem hd.tw11636924220087485885 : True := trivial
theorem hd.tw11652457597714270106 : True := trivial
theorem hd.tw11663481321943121269 : True := trivial
theorem hd.tw11672842613191775419 : True := trivial
theorem hd.tw11709330566771433103 : True := trivial
theorem hd.tw11713075325732132258 : True := trivial
theorem hd.tw11729958736954745289 : True := trivial
theorem hd.tw11778180911958503814 : True := trivial
theorem hd.tw11801993109049149486 : True := trivial
theorem hd.tw11814627755841444246 : True := trivial
theorem hd.tw11852641145169952659 : True := trivial
theorem hd.tw11893437276241958245 : True := trivial
theorem hd.tw11905163887095721015 : True := trivial
theorem hd.tw11912922877643110818 : True := trivial
theorem hd.tw11917015161858427179 : True := trivial
theorem hd.tw1194904439430580092 : True := trivial
theorem hd.tw11953376511379268794 : True := trivial
theorem hd.tw1197925565968671727 : True := trivial
theorem hd.tw12023040214023829324 : True := trivial
theorem hd.tw12050417470231563642 : True := trivial
theorem hd.tw12058812876911547015 : True := trivial
theorem hd.tw12070051907170230399 : True := trivial
theorem hd.tw12070654863422294720 : True := trivial
theorem hd.tw1208734638264122097 : True := trivial
theorem hd.tw12092154237167983948 : True := trivial
theorem hd.tw12112201142124510154 : True := trivial
theorem hd.tw12113243949977362033 : True := trivial
theorem hd.tw12127338746724423809 : True := trivial
theorem hd.tw12131494931117144662 : True := trivial
theorem hd.tw12188024634894395552 : True := trivial
theorem hd.tw12211380539166087753 : True := trivial
theorem hd.tw1222794163293265305 : True := trivial
theorem hd.tw12228760424905384129 : True := trivial
theorem hd.tw12232750017996463310 : True := trivial
theorem hd.tw12239354291974867115 : True := trivial
theorem hd.tw12254263087357419629 : True := trivial
theorem hd.tw12268275109542032366 : True := trivial
theorem hd.tw12271959270614036898 : True := trivial
theorem hd.tw12350410155528471161 : True := trivial
theorem hd.tw12353913968525425643 : True := trivial
theorem hd.tw12364972598781006883 : True := trivial
theorem hd.tw12394076208661396346 : True := trivial
theorem hd.tw12399718760709695909 : True := trivial
theorem hd.tw1241404454085649124 : True := trivial
theorem hd.tw12414669353804360901 : True := trivial
theorem hd.tw12453114486196615683 : True := trivial
theorem hd.tw12459740579856956213 : True := trivial
theorem hd.tw1247026723315081023 : True := trivial
theorem hd.tw12480425521718506038 : True := trivial
theorem hd.tw12509009523430927325 : True := trivial
theorem hd.tw12565835363266740329 : True := trivial
theorem hd.tw12575139184659369484 : True := trivial
theorem hd.tw12588582704262371052 : True := trivial
theorem hd.tw12590977762386282803 : True := trivial
theorem hd.tw12591134339009171964 : True := trivial
theorem hd.tw12611767792052310623 : True := trivial
theorem hd.tw12614811148066621264 : True := trivial
theorem hd.tw12629568148972539762 : True := trivial
theorem hd.tw12631932088317031055 : True := trivial
theorem hd.tw12647368939536790636 : True := trivial
theorem hd.tw12676414471582705871 : True := trivial
theorem hd.tw12685813987229840507 : True := trivial
theorem hd.tw12727495553239364174 : True := trivial
theorem hd.tw12744807935193187038 : True := trivial
theorem hd.tw12769127236821124696 : True := trivial
theorem hd.tw12832683148521936107 : True := trivial
theorem hd.tw128412058910260475 : True := trivial
theorem hd.tw12870888531099404533 : True := trivial
theorem hd.tw12900700647772717614 : True := trivial
theorem hd.tw12901994302517312135 : True := trivial
theorem hd.tw12936449754285732098 : True := trivial
theorem hd.tw12940713784782232206 : True := trivial
theorem hd.tw12949589719889679912 : True := trivial
theorem hd.tw12952509933414984302 : True := trivial
theorem hd.tw1299046323782801668 : True := trivial
theorem hd.tw12994019391074448376 : True := trivial
theorem hd.tw13038990169509382042 : True := trivial
theorem hd.tw13051953538815563581 : True := trivial
theorem hd.tw13064122474441708322 : True := trivial
theorem hd.tw13092906067662860646 : True := trivial
theorem hd.tw13122850982685727845 : True := trivial
theorem hd.tw13129650132239662433 : True := trivial
theorem hd.tw13132618709999183898 : True := trivial
theorem hd.tw13160604113216922460 : True := trivial
theorem hd.tw13171141561276507362 : True := trivial
theorem hd.tw13181700845877081190 : True := trivial
theorem hd.tw13217827037086042188 : True := trivial
theorem hd.tw13225837485096350037 : True := trivial
theorem hd.tw13262116225945230012 : True := trivial
theorem hd.tw13267510147771200024 : True := trivial
theorem hd.tw13280443560766958183 : True := trivial
theorem hd.tw13293453174229064190 : True := trivial
theorem hd.tw1331086792558400476 : True := trivial
theorem hd.tw1331487369976884630 : True := trivial
theorem hd.tw13315533130655954831 : True := trivial
theorem hd.tw13321331477185743149 : True := trivial
theorem hd.tw13322179722446271537 : True := trivial
theorem hd.tw13330244855972007585 : True := trivial
theorem hd.tw1335065189686863947 : True := trivial
theorem hd.tw13363553139645760527 : True := trivial
theorem hd.tw13365295217650922812 : True := trivial
theorem hd.tw13368278939475635651 : True := trivial
theorem hd.tw13409441903868389331 : True := trivial
theorem hd.tw13431754692932380062 : True := trivial
theorem hd.tw13466754112058979494 : True := trivial
theorem hd.tw13468300074154594103 : True := trivial
theorem hd.tw13474097485772985973 : True := trivial
theorem hd.tw13483081372092288885 : True := trivial
theorem hd.tw13518370688599389936 : True := trivial
theorem hd.tw13531707123254989501 : True := trivial
theorem hd.tw13532847315355080253 : True := trivial
theorem hd.tw13534587687697041467 : True := trivial
theorem hd.tw13566260322249332789 : True := trivial
theorem hd.tw13574768056931433239 : True := trivial
theorem hd.tw13609717118414637909 : True := trivial
theorem hd.tw13628142620392400109 : True := trivial
theorem hd.tw13638418597567726942 : True := trivial
theorem hd.tw13671756088133313087 : True := trivial
theorem hd.tw137786328141462057 : True := trivial
theorem hd.tw13783031573616600631 : True := trivial
theorem hd.tw13790719812936386609 : True := trivial
theorem hd.tw1379335367625716243 : True := trivial
theorem hd.tw13828106393651249627 : True := trivial
theorem hd.tw13855881374063213867 : True := trivial
theorem hd.tw13866372431405929976 : True := trivial
theorem hd.tw13903934854276604550 : True := trivial
theorem hd.tw13919464512627920130 : True := trivial
theorem hd.tw13994979335412520660 : True := trivial
theorem hd.tw14006173549557618073 : True := trivial
theorem hd.tw14040608126747316905 : True := trivial
theorem hd.tw14060154772996877548 : True := trivial
theorem hd.tw14060237666301923597 : True := trivial
theorem hd.tw1409312971732116557 : True := trivial
theorem hd.tw14103535550066685397 : True := trivial
theorem hd.tw14120982254508448379 : True := trivial
theorem hd.tw1413172679324656950 : True := trivial
theorem hd.tw14137390275340422267 : True := trivial
theorem hd.tw14143962318596072753 : True := trivial
theorem hd.tw14168552714766633299 : True := trivial
theorem hd.tw14176624398918483544 : True := trivial
theorem hd.tw14205177575709318024 : True := trivial
theorem hd.tw14246236162039180721 : True := trivial
theorem hd.tw14255774112173564976 : True := trivial
theorem hd.tw14294001040229213422 : True := trivial
theorem hd.tw14333710738500927179 : True := trivial
theorem hd.tw14346525914970070588 : True := trivial
theorem hd.tw1439246655266547700 : True := trivial
theorem hd.tw14400467628812073631 : True := trivial
theorem hd.tw14438451200097066615 : True := trivial
theorem hd.tw14439243815434019604 : True := trivial
theorem hd.tw14444963742821833902 : True := trivial
theorem hd.tw14446474709323646786 : True := trivial
theorem hd.tw1445366717492459972 : True := trivial
theorem hd.tw14457593812595234344 : True := trivial
theorem hd.tw14462709497994964445 : True := trivial
theorem hd.tw14478148883734587675 : True := trivial
theorem hd.tw1448358952932078338 : True := trivial
theorem hd.tw14492701947808656938 : True := trivial
theorem hd.tw1452849714261714991 : True := trivial
theorem hd.tw14553816603554493358 : True := trivial
theorem hd.tw14567429538950270057 : True := trivial
theorem hd.tw14586822029978311858 : True := trivial
theorem hd.tw14598272352848978880 : True := trivial
theorem hd.tw14612060388864693735 : True := trivial
theorem hd.tw14667805832236412624 : True := trivial
theorem hd.tw14685462170515437407 : True := trivial
theorem hd.tw14706022693812145444 : True := trivial
theorem hd.tw14727110085682223627 : True := trivial
theorem hd.tw14743440263598761229 : True := trivial
theorem hd.tw14745743045033390146 : True := trivial
theorem hd.tw14772383043592177042 : True := trivial
theorem hd.tw14851293442969957182 : True := trivial
theorem hd.tw14859038896228082724 : True := trivial
theorem hd.tw14876163932577733988 : True := trivial
theorem hd.tw14892549342360969540 : True := trivial
theorem hd.tw14896477498954680388 : True := trivial
theorem hd.tw14906377314874228009 : True := trivial
theorem hd.tw14955159897011116063 : True := trivial
theorem hd.tw14960593345356199642 : True := trivial
theorem hd.tw14980023328507725902 : True := trivial
theorem hd.tw14984183105004643987 : True := trivial
theorem hd.tw15033227074091944939 : True := trivial
theorem hd.tw15042006015671813226 : True := trivial
theorem hd.tw15043168886218598503 : True := trivial
theorem hd.tw15048261121198461528 : True := trivial
theorem hd.tw1506431575118746342 : True := trivial
theorem hd.tw15074197538484233485 : True := trivial
theorem hd.tw15083628210047938546 : True := trivial
theorem hd.tw15089522573102190283 : True := trivial
theorem hd.tw15102309248680683417 : True := trivial
theorem hd.tw15103106377680225435 : True := trivial
theorem hd.tw1511243299971373483 : True := trivial
theorem hd.tw15152743547302097792 : True := trivial
theorem hd.tw15166520500009309586 : True := trivial
theorem hd.tw15179676742415161110 : True := trivial
theorem hd.tw15207398651663016943 : True := trivial
theorem hd.tw15213948185873263833 : True := trivial
theorem hd.tw15220180469806662145 : True := trivial
theorem hd.tw15228807520496212463 : True := trivial
theorem hd.tw15277330632498426303 : True := trivial
theorem hd.tw15278966056882409248 : True := trivial
theorem hd.tw15344866539931968096 : True := trivial
theorem hd.tw1535757262459896012 : True := trivial
theorem hd.tw15367242080415987702 : True := trivial
theorem hd.tw15368132723985388332 : True := trivial
theorem hd.tw15411387601460861337 : True := trivial
theorem hd.tw15427206886491885616 : True := trivial
theorem hd.tw15463257786427224491 : True := trivial
theorem hd.tw15508949281206285077 : True := trivial
theorem hd.tw15527848837575444561 : True := trivial
theorem hd.tw15529170255622000948 : True := trivial
theorem hd.tw15591429051563716170 : True := trivial
theorem hd.tw15595854959937240912 : True := trivial
theorem hd.tw15603535497565009323 : True := trivial
theorem hd.tw15610959940260225430 : True := trivial
theorem hd.tw15615420239508185596 : True := trivial
theorem hd.tw15615537253650120727 : True := trivial
theorem hd.tw15616948245753086127 : True := trivial
theorem hd.tw15618049606547972131 : True := trivial
theorem hd.tw15625209780758371316 : True := trivial
theorem hd.tw15634565183472343292 : True := trivial
theorem hd.tw1563692795949630186 : True := trivial
theorem hd.tw15637593595834871717 : True := trivial
theorem hd.tw15642763164714097627 : True := trivial
theorem hd.tw15643275761693703936 : True := trivial
theorem hd.tw15675198926951892251 : True := trivial
theorem hd.tw15683763237869141255 : True := trivial
theorem hd.tw15687388767607454252 : True := trivial
theorem hd.tw15759970867653108152 : True := trivial
theorem hd.tw15790720579355451973 : True := trivial
theorem hd.tw1580110805410547442 : True := trivial
theorem hd.tw15813434630575017362 : True := trivial
theorem hd.tw1582976572388173787 : True := trivial
theorem hd.tw15833661619300960221 : True := trivial
theorem hd.tw15837987909243819085 : True := trivial
theorem hd.tw1584506945513601688 : True := trivial
theorem hd.tw15852365999677673905 : True := trivial
theorem hd.tw1588505670450824345 : True := trivial
theorem hd.tw15910714762333108613 : True := trivial
theorem hd.tw15924899543223041283 : True := trivial
theorem hd.tw15946356160694317329 : True := trivial
theorem hd.tw15946388913382835224 : True := trivial
theorem hd.tw15963624873386084050 : True := trivial
theorem hd.tw15967140613478806237 : True := trivial
theorem hd.tw15987713032478767096 : True := trivial
theorem hd.tw16006246977917349235 : True := trivial
theorem hd.tw16007149819294483003 : True := trivial
theorem hd.tw16011055738799735888 : True := trivial
theorem hd.tw16037735763661986305 : True := trivial
theorem hd.tw16053994301053490033 : True := trivial
theorem hd.tw16056359734778111409 : True := trivial
theorem hd.tw16064382804478563927 : True := trivial
theorem hd.tw16091413853298234908 : True := trivial
theorem hd.tw1610171440888473627 : True := trivial
theorem hd.tw16138627921320673191 : True := trivial
theorem hd.tw16154546982801380032 : True := trivial
theorem hd.tw16155205043701107222 : True := trivial
theorem hd.tw16156708551869547534 : True := trivial
theorem hd.tw16158619036321959407 : True := trivial
theorem hd.tw16169374299450900766 : True := trivial
theorem hd.tw16171809288044610508 : True := trivial
theorem hd.tw16178712458983371728 : True := trivial
theorem hd.tw16194383521188589630 : True := trivial
theorem hd.tw16211521421427940678 : True := trivial
theorem hd.tw16227762859984022837 : True := trivial
theorem hd.tw16257038226119295666 : True := trivial
theorem hd.tw16259696140248634718 : True := trivial
theorem hd.tw162610821266807592 : True := trivial
theorem hd.tw16299908979028503884 : True := trivial
theorem hd.tw16301592386811335294 : True := trivial
theorem hd.tw16301706205554447908 : True := trivial
theorem hd.tw16302227732802510677 : True := trivial
theorem hd.tw16332348944364537037 : True := trivial
theorem hd.tw16345102440705955213 : True := trivial
theorem hd.tw16357263729072622229 : True := trivial
theorem hd.tw16376525773666504680 : True := trivial
theorem hd.tw16412773359747925120 : True := trivial
theorem hd.tw16414904818172857274 : True := trivial
theorem hd.tw16415028865518655546 : True := trivial
theorem hd.tw1643121930917553208 : True := trivial
theorem hd.tw16432713993328977331 : True := trivial
theorem hd.tw16456969618363192440 : True := trivial
theorem hd.tw16473244170626142550 : True := trivial
theorem hd.tw16477043939570097188 : True := trivial
theorem hd.tw16487816990975572028 : True := trivial
theorem hd.tw16502264421070913907 : True := trivial
theorem hd.tw1652717081866841025 : True := trivial
theorem hd.tw16547865195752855329 : True := trivial
theorem hd.tw16587392273704687506 : True := trivial
theorem hd.tw16634568088961857937 : True := trivial
theorem hd.tw16635604280276938560 : True := trivial
theorem hd.tw16640546478005224243 : True := trivial
theorem hd.tw16649331688326792143 : True := trivial
theorem hd.tw16661405048812198066 : True := trivial
theorem hd.tw1666387254794493845 : True := trivial
theorem hd.tw16698745307106531279 : True := trivial
theorem hd.tw16713699803418581334 : True := trivial
theorem hd.tw16759147789766475008 : True := trivial
theorem hd.tw16772102934027710169 : True := trivial
theorem hd.tw16794629799341752650 : True := trivial
theorem hd.tw16823583209533085739 : True := trivial
theorem hd.tw16853341256802265648 : True := trivial
theorem hd.tw16868993833207775613 : True := trivial
theorem hd.tw16896567674234606475 : True := trivial
theorem hd.tw16919406825032445293 : True := trivial
theorem hd.tw16920754564084929960 : True := trivial
theorem hd.tw16945582573551092051 : True := trivial
theorem hd.tw16970440968685349367 : True := trivial
theorem hd.tw1699103778626983548 : True := trivial
theorem hd.tw17001982702790524580 : True := trivial
theorem hd.tw17002781174329755331 : True := trivial
theorem hd.tw17012040316742504577 : True := trivial
theorem hd.tw17044025373686055510 : True := trivial
theorem hd.tw17047115858639842297 : True := trivial
theorem hd.tw17062030032774818151 : True := trivial
theorem hd.tw17070941380808615275 : True := trivial
theorem hd.tw17076082267592564974 : True := trivial
theorem hd.tw17087091549796120035 : True := trivial
theorem hd.tw17088047866570459193 : True := trivial
theorem hd.tw1712922718373300912 : True := trivial
theorem hd.tw17130151131035750659 : True := trivial
theorem hd.tw17143205804819765802 : True := trivial
theorem hd.tw17172931820748874959 : True := trivial
theorem hd.tw17177331786930743035 : True := trivial
theorem hd.tw17183224562656869120 : True := trivial
theorem hd.tw17213754286329925777 : True := trivial
theorem hd.tw17217394356764393341 : True := trivial
theorem hd.tw17234923516513369237 : True := trivial
theorem hd.tw17252143746492648416 : True := trivial
theorem hd.tw17312999752573914782 : True := trivial
theorem hd.tw17325209927041812611 : True := trivial
theorem hd.tw17330132731328240911 : True := trivial
theorem hd.tw17330945745186091897 : True := trivial
theorem hd.tw17335414052712997756 : True := trivial
theorem hd.tw17336936450418997793 : True := trivial
theorem hd.tw1736311965527578767 : True := trivial
theorem hd.tw17377529257436501650 : True := trivial
theorem hd.tw17386561741084979693 : True := trivial
theorem hd.tw17387473266821786944 : True := trivial
theorem hd.tw17420951861521290806 : True := trivial
theorem hd.tw17429513623812275283 : True := trivial
theorem hd.tw17447410573909459338 : True := trivial
theorem hd.tw17470177872615007328 : True := trivial
theorem hd.tw17471934795394947791 : True := trivial
theorem hd.tw17491280204586788870 : True := trivial
theorem hd.tw17491317419825422843 : True := trivial
theorem hd.tw17495340751864218003 : True := trivial
theorem hd.tw17542962492245011380 : True := trivial
theorem hd.tw17562767543260142214 : True := trivial
theorem hd.tw17574625026820762457 : True := trivial
theorem hd.tw17577478241444706838 : True := trivial
theorem hd.tw17583924267553061668 : True := trivial
theorem hd.tw17588044629489971554 : True := trivial
theorem hd.tw17599816209265215132 : True := trivial
theorem hd.tw1760603350576429475 : True := trivial
theorem hd.tw17606422857730326317 : True := trivial
theorem hd.tw17628472586750557451 : True := trivial
theorem hd.tw17640862679970642326 : True := trivial
theorem hd.tw17672654358674132775 : True := trivial
theorem hd.tw17673860158736603733 : True := trivial
theorem hd.tw17679848547673146604 : True := trivial
theorem hd.tw17681399029576232318 : True := trivial
theorem hd.tw17696971302532935780 : True := trivial
theorem hd.tw17711083657039698284 : True := trivial
theorem hd.tw17714235663813219645 : True := trivial
theorem hd.tw17737187407176874954 : True := trivial
theorem hd.tw17739348878880393726 : True := trivial
theorem hd.tw17772917993097084435 : True := trivial
theorem hd.tw1781861727890032366 : True := trivial
theorem hd.tw17843490464661113860 : True := trivial
theorem hd.tw17893044597097874663 : True := trivial
theorem hd.tw17895171251205151618 : True := trivial
theorem hd.tw17901334829092211166 : True := trivial
theorem hd.tw17902569758825723728 : True := trivial
theorem hd.tw17903497710992402801 : True := trivial
theorem hd.tw17919194246423945575 : True := trivial
theorem hd.tw17925215291927510665 : True := trivial
theorem hd.tw1792636949448641307 : True := trivial
theorem hd.tw17948085552500728524 : True := trivial
theorem hd.tw17950676927832955104 : True := trivial
theorem hd.tw17956543221229664512 : True := trivial
theorem hd.tw17975533764899295144 : True := trivial
theorem hd.tw17986969038992634876 : True := trivial
theorem hd.tw17989097746536338734 : True := trivial
theorem hd.tw1800889605409440832 : True := trivial
theorem hd.tw18087722134493236510 : True := trivial
theorem hd.tw18093812233618175256 : True := trivial
theorem hd.tw18095200977026478895 : True := trivial
theorem hd.tw1809687716253123402 : True := trivial
theorem hd.tw18103342009636024947 : True := trivial
theorem hd.tw18103420901670897651 : True := trivial
theorem hd.tw18160293313031310949 : True := trivial
theorem hd.tw18163647496604598072 : True := trivial
theorem hd.tw18166333605607142505 : True := trivial
theorem hd.tw18176940659606848779 : True := trivial
theorem hd.tw18185175575083235020 : True := trivial
theorem hd.tw1820180628909398317 : True := trivial
theorem hd.tw18219297243305740317 : True := trivial
theorem hd.tw18233516762306594366 : True := trivial
theorem hd.tw18241275227582772068 : True := trivial
theorem hd.tw18245042118932799458 : True := trivial
theorem hd.tw18268791191939849864 : True := trivial
theorem hd.tw18291419657060728153 : True := trivial
theorem hd.tw18293732401869909652 : True := trivial
theorem hd.tw18293851220164018083 : True := trivial
theorem hd.tw18300207936620678264 : True := trivial
theorem hd.tw18321552122766947510 : True := trivial
theorem hd.tw18322514126500204803 : True := trivial
theorem hd.tw18330183385023645277 : True := trivial
theorem hd.tw18343703819029505601 : True := trivial
theorem hd.tw18358800413957953924 : True := trivial
theorem hd.tw1836080755315867724 : True := trivial
theorem hd.tw18368451091360184599 : True := trivial
theorem hd.tw18421049791903953903 : True := trivial
theorem hd.tw18439511094173506614 : True := trivial
theorem hd.tw1847840615245081061 : True := trivial
theorem hd.tw1848646778235469078 : True := trivial
theorem hd.tw185848376630758926 : True := trivial
theorem hd.tw1865391376527767206 : True := trivial
theorem hd.tw1870067075039425230 : True := trivial
theorem hd.tw1888629882248256335 : True := trivial
theorem hd.tw189712035060473897 : True := trivial
theorem hd.tw190519026028168232 : True := trivial
theorem hd.tw1936894748134917147 : True := trivial
theorem hd.tw1954109241102656831 : True := trivial
theorem hd.tw1997569388931296116 : True := trivial
theorem hd.tw2000490053193787569 : True := trivial
theorem hd.tw2040990291671593033 : True := trivial
theorem hd.tw2042292140826266357 : True := trivial
theorem hd.tw2051048951616859547 : True := trivial
theorem hd.tw2068664650715991707 : True := trivial
theorem hd.tw2101469004524951375 : True := trivial
theorem hd.tw2114630138375439770 : True := trivial
theorem hd.tw212345690472687942 : True := trivial
theorem hd.tw2134215046882385847 : True := trivial
theorem hd.tw2142638176634142368 : True := trivial
theorem hd.tw2167537188350426706 : True := trivial
theorem hd.tw2195365466389143174 : True := trivial
theorem hd.tw2252305205657439004 : True := trivial
theorem hd.tw22551697357593593 : True := trivial
theorem hd.tw2263123870574935043 : True := trivial
theorem hd.tw226724450230711188 : True := trivial
theorem hd.tw2274498078352570744 : True := trivial
theorem hd.tw2284436838669742495 : True := trivial
theorem hd.tw2295870552580634182 : True := trivial
theorem hd.tw2304311442786299043 : True := trivial
theorem hd.tw2315301623876862497 : True := trivial
theorem hd.tw2323474266016966308 : True := trivial
theorem hd.tw2327210489368252092 : True := trivial
theorem hd.tw2329189449893159454 : True := trivial
theorem hd.tw2371736936440567457 : True := trivial
theorem hd.tw242841246431481386 : True := trivial
theorem hd.tw2442259710966052079 : True := trivial
theorem hd.tw2448417245163862455 : True := trivial
theorem hd.tw2457190517430149469 : True := trivial
theorem hd.tw2468469042602058204 : True := trivial
theorem hd.tw2480057099694739299 : True := trivial
theorem hd.tw2489000522355961661 : True := trivial
theorem hd.tw2502866573005156581 : True := trivial
theorem hd.tw250903467453971090 : True := trivial
theorem hd.tw257007361410690125 : True := trivial
theorem hd.tw2595994805191909183 : True := trivial
theorem hd.tw2598446214317162929 : True := trivial
theorem hd.tw2603259988358896889 : True := trivial
theorem hd.tw2608437505485318709 : True := trivial
theorem hd.tw2616952524820836436 : True := trivial
theorem hd.tw262745018181394680 : True := trivial
theorem hd.tw2658526732547218105 : True := trivial
theorem hd.tw2739504486584576224 : True := trivial
theorem hd.tw2781682124601125471 : True := trivial
theorem hd.tw2788664435532181463 : True := trivial
theorem hd.tw2799067240506288376 : True := trivial
theorem hd.tw2799716289819351777 : True := trivial
theorem hd.tw280609765759037681 : True := trivial
theorem hd.tw2808349399557158395 : True := trivial
theorem hd.tw2845207389951388047 : True := trivial
theorem hd.tw2845679848157327705 : True := trivial
theorem hd.tw2855845756224970109 : True := trivial
theorem hd.tw2867327485932766208 : True := trivial
theorem hd.tw2871226400543044806 : True := trivial
theorem hd.tw2888306203540662325 : True := trivial
theorem hd.tw2922222751358710265 : True := trivial
theorem hd.tw2930668341846507884 : True := trivial
theorem hd.tw2951005344575393816 : True := trivial
theorem hd.tw2999033326186475339 : True := trivial
theorem hd.tw3008623586974134963 : True := trivial
theorem hd.tw3039998526598829958 : True := trivial
theorem hd.tw3044193314922437478 : True := trivial
theorem hd.tw307737655149646647 : True := trivial
theorem hd.tw3109861748172591687 : True := trivial
theorem hd.tw313027258313007627 : True := trivial
theorem hd.tw3182187488490625086 : True := trivial
theorem hd.tw3196399650302076718 : True := trivial
theorem hd.tw3229955645248102723 : True := trivial
theorem hd.tw3259873300814134281 : True := trivial
theorem hd.tw3309697970292668127 : True := trivial
theorem hd.tw3333446698644548216 : True := trivial
theorem hd.tw3350930974749635488 : True := trivial
theorem hd.tw3354817982754805858 : True := trivial
theorem hd.tw3381375190539634487 : True := trivial
theorem hd.tw3386092968808520798 : True := trivial
theorem hd.tw3404104791013757517 : True := trivial
theorem hd.tw3419581819265744254 : True := trivial
theorem hd.tw3434918251397683217 : True := trivial
theorem hd.tw3442329435671937591 : True := trivial
theorem hd.tw3443669649825651883 : True := trivial
theorem hd.tw3451239065008710300 : True := trivial
theorem hd.tw3480954088277226078 : True := trivial
theorem hd.tw3484992998616243462 : True := trivial
theorem hd.tw3493717111155160527 : True := trivial
theorem hd.tw3496965988886986938 : True := trivial
theorem hd.tw3513125359445811510 : True := trivial
theorem hd.tw3536873572635521401 : True := trivial
theorem hd.tw3571134770919094901 : True := trivial
theorem hd.tw3608708970678896270 : True := trivial
theorem hd.tw3649758429140192277 : True := trivial
theorem hd.tw3673020696563887462 : True := trivial
theorem hd.tw3673089383077640791 : True := trivial
theorem hd.tw368366308016060594 : True := trivial
theorem hd.tw3694398316872202419 : True := trivial
theorem hd.tw3704167492566942397 : True := trivial
theorem hd.tw3759623122121258479 : True := trivial
theorem hd.tw3763122126050802206 : True := trivial
theorem hd.tw3789350110615891812 : True := trivial
theorem hd.tw3795277891434052102 : True := trivial
theorem hd.tw3816877163431070358 : True := trivial
theorem hd.tw3828038474966422129 : True := trivial
theorem hd.tw3876449026389394717 : True := trivial
theorem hd.tw3878383114103592795 : True := trivial
theorem hd.tw3913528116038191188 : True := trivial
theorem hd.tw3915529967508079626 : True := trivial
theorem hd.tw3919010098100093602 : True := trivial
theorem hd.tw3920623390966001496 : True := trivial
theorem hd.tw3922637787740509324 : True := trivial
theorem hd.tw3940546777539579641 : True := trivial
theorem hd.tw3941438180925939637 : True := trivial
theorem hd.tw395138700845864316 : True := trivial
theorem hd.tw3953601041324332601 : True := trivial
theorem hd.tw3969467460574380271 : True := trivial
theorem hd.tw4015398097383911347 : True := trivial
theorem hd.tw4021928978595405253 : True := trivial
theorem hd.tw402640490398009360 : True := trivial
theorem hd.tw4065347644161347641 : True := trivial
theorem hd.tw4068527845204499245 : True := trivial
theorem hd.tw4074112789689628901 : True := trivial
theorem hd.tw4086058157674990017 : True := trivial
theorem hd.tw4091639524402994376 : True := trivial
theorem hd.tw4115565904173853331 : True := trivial
theorem hd.tw4136554803537287180 : True := trivial
theorem hd.tw4138081844389336918 : True := trivial
theorem hd.tw4159134105002834734 : True := trivial
theorem hd.tw4166613126615870536 : True := trivial
theorem hd.tw4172343393113369950 : True := trivial
theorem hd.tw4182648748547736412 : True := trivial
theorem hd.tw4225703048834024713 : True := trivial
theorem hd.tw4272726840584523970 : True := trivial
theorem hd.tw4282304852377368616 : True := trivial
theorem hd.tw4282359134580295075 : True := trivial
theorem hd.tw4292457097857839397 : True := trivial
theorem hd.tw4297731678662094536 : True := trivial
theorem hd.tw4315991029959535628 : True := trivial
theorem hd.tw432457690288141553 : True := trivial
theorem hd.tw4360684699965382250 : True := trivial
theorem hd.tw4367231431732253908 : True := trivial
theorem hd.tw4367455430839740993 : True := trivial
theorem hd.tw4377701919642642989 : True := trivial
theorem hd.tw4383666589626881386 : True := trivial
theorem hd.tw4402725079659364252 : True := trivial
theorem hd.tw4424954536736003961 : True := trivial
theorem hd.tw442638132926106271 : True := trivial
theorem hd.tw4436941084341937812 : True := trivial
theorem hd.tw4449123307109862055 : True := trivial
theorem hd.tw4478177076189095293 : True := trivial
theorem hd.tw4494801613693538912 : True := trivial
theorem hd.tw4521580383011477154 : True := trivial
theorem hd.tw4523669819894539328 : True := trivial
theorem hd.tw4581847759332874082 : True := trivial
theorem hd.tw461538923250603899 : True := trivial
theorem hd.tw4643362625855044894 : True := trivial
theorem hd.tw4654797750381630734 : True := trivial
theorem hd.tw4706079058837389440 : True := trivial
theorem hd.tw4724112764586752083 : True := trivial
theorem hd.tw4725425184044842548 : True := trivial
theorem hd.tw4734902545126651661 : True := trivial
theorem hd.tw4768578896829404305 : True := trivial
theorem hd.tw4788038989552484473 : True := trivial
theorem hd.tw4819202231147424091 : True := trivial
theorem hd.tw4833718069199227053 : True := trivial
theorem hd.tw4851647983119433812 : True := trivial
theorem hd.tw4867443594122359892 : True := trivial
theorem hd.tw4870687313549177768 : True := trivial
theorem hd.tw4971549296188076032 : True := trivial
theorem hd.tw4990156530697904881 : True := trivial
theorem hd.tw4993660671451451078 : True := trivial
theorem hd.tw500953250457666378 : True := trivial
theorem hd.tw5009564483982726761 : True := trivial
theorem hd.tw5010264101278932077 : True := trivial
theorem hd.tw5036846961687405229 : True := trivial
theorem hd.tw5054737718236178183 : True := trivial
theorem hd.tw511748877826530558 : True := trivial
theorem hd.tw5130813555471234732 : True := trivial
theorem hd.tw5148922909946612681 : True := trivial
theorem hd.tw5167245352685981253 : True := trivial
theorem hd.tw5174551420813472067 : True := trivial
theorem hd.tw518976864732996251 : True := trivial
theorem hd.tw5189956158058943387 : True := trivial
theorem hd.tw5190246844813560578 : True := trivial
theorem hd.tw519851828213033955 : True := trivial
theorem hd.tw5220083430330967483 : True := trivial
theorem hd.tw5238241317806426387 : True := trivial
theorem hd.tw5245234834050458271 : True := trivial
theorem hd.tw5247051413645994129 : True := trivial
theorem hd.tw5278057926702712004 : True := trivial
theorem hd.tw5283464899586487735 : True := trivial
theorem hd.tw5292301768408028288 : True := trivial
theorem hd.tw5318216170032084099 : True := trivial
theorem hd.tw5322579261384874668 : True := trivial
theorem hd.tw5343241284826551009 : True := trivial
theorem hd.tw5362516397382645915 : True := trivial
theorem hd.tw5363564295841288755 : True := trivial
theorem hd.tw5366084841770067474 : True := trivial
theorem hd.tw5388632664720090651 : True := trivial
theorem hd.tw541196102884509978 : True := trivial
theorem hd.tw5416991563250132298 : True := trivial
theorem hd.tw5433107678231618845 : True := trivial
theorem hd.tw5480042469492414594 : True := trivial
theorem hd.tw5486487638281291605 : True := trivial
theorem hd.tw5505005885091257285 : True := trivial
theorem hd.tw5505332120971382143 : True := trivial
theorem hd.tw5513025101015932971 : True := trivial
theorem hd.tw5535567543195554156 : True := trivial
theorem hd.tw5549315172176941698 : True := trivial
theorem hd.tw5562173858411828344 : True := trivial
theorem hd.tw5567388512258382067 : True := trivial
theorem hd.tw5592360268479517082 : True := trivial
theorem hd.tw5608270528595127837 : True := trivial
theorem hd.tw561391293025646643 : True := trivial
theorem hd.tw5629675986466331604 : True := trivial
theorem hd.tw5657824000916062451 : True := trivial
theorem hd.tw5667655126489319660 : True := trivial
theorem hd.tw567884609423149705 : True := trivial
theorem hd.tw5715356086224469760 : True := trivial
theorem hd.tw5716766192118558609 : True := trivial
theorem hd.tw5781342201191254626 : True := trivial
theorem hd.tw5859118754885311737 : True := trivial
theorem hd.tw5899666649113621702 : True := trivial
theorem hd.tw5902613922787404954 : True := trivial
theorem hd.tw5927567313105069670 : True := trivial
theorem hd.tw5976792059365374437 : True := trivial
theorem hd.tw5978321128707920903 : True := trivial
theorem hd.tw5983496337302601536 : True := trivial
theorem hd.tw6019021122589006684 : True := trivial
theorem hd.tw6038821095411175016 : True := trivial
theorem hd.tw6046454685291232161 : True := trivial
theorem hd.tw6079173187612997037 : True := trivial
theorem hd.tw6082411064634330575 : True := trivial
theorem hd.tw6136932545381038964 : True := trivial
theorem hd.tw6140570298594658328 : True := trivial
theorem hd.tw6164396464334811476 : True := trivial
theorem hd.tw617508947420966582 : True := trivial
theorem hd.tw6184460063843016694 : True := trivial
theorem hd.tw6186238094035137676 : True := trivial
theorem hd.tw6196171512934965099 : True := trivial
theorem hd.tw6213412439835118660 : True := trivial
theorem hd.tw6264232113106981867 : True := trivial
theorem hd.tw6276725880618359904 : True := trivial
theorem hd.tw6278647508926252785 : True := trivial
theorem hd.tw6291416237084387574 : True := trivial
theorem hd.tw6302793511295740619 : True := trivial
theorem hd.tw6308581086252854402 : True := trivial
theorem hd.tw6394381022753523788 : True := trivial
theorem hd.tw6423634429210846174 : True := trivial
theorem hd.tw6438293893037913957 : True := trivial
theorem hd.tw6442067068224118133 : True := trivial
theorem hd.tw6449127861642672459 : True := trivial
theorem hd.tw6463563184777811805 : True := trivial
theorem hd.tw6469175993241445255 : True := trivial
theorem hd.tw6528754448969337418 : True := trivial
theorem hd.tw6545403380812914513 : True := trivial
theorem hd.tw6547078798241139092 : True := trivial
theorem hd.tw6578402527460240241 : True := trivial
theorem hd.tw6615107907471364465 : True := trivial
theorem hd.tw6627881031435992008 : True := trivial
theorem hd.tw663384727985864361 : True := trivial
theorem hd.tw6636792957720756321 : True := trivial
theorem hd.tw6669269137521125552 : True := trivial
theorem hd.tw6683769817339685419 : True := trivial
theorem hd.tw6709418730364537143 : True := trivial
theorem hd.tw6755925336976613232 : True := trivial
theorem hd.tw6761669909254768831 : True := trivial
theorem hd.tw6767318904944593275 : True := trivial
theorem hd.tw6780557218761844654 : True := trivial
theorem hd.tw6785817131721698500 : True := trivial
theorem hd.tw6804821044290156842 : True := trivial
theorem hd.tw6819123309680001836 : True := trivial
theorem hd.tw6820862383352777685 : True := trivial
theorem hd.tw6830512106363814048 : True := trivial
theorem hd.tw6838551448383532254 : True := trivial
theorem hd.tw6848782300941138395 : True := trivial
theorem hd.tw6877226645827823821 : True := trivial
theorem hd.tw6885289447975202357 : True := trivial
theorem hd.tw6902198413751149823 : True := trivial
theorem hd.tw6906073325868019850 : True := trivial
theorem hd.tw6924109203229866365 : True := trivial
theorem hd.tw6931407450589930559 : True := trivial
theorem hd.tw6957150274394394060 : True := trivial
theorem hd.tw697623264460660564 : True := trivial
theorem hd.tw6982297934935202809 : True := trivial
theorem hd.tw6990203504111849199 : True := trivial
theorem hd.tw6998783941825042932 : True := trivial
theorem hd.tw7006195865600381663 : True := trivial
theorem hd.tw701333769924781912 : True := trivial
theorem hd.tw701787995468756871 : True := trivial
theorem hd.tw7023726343779634624 : True := trivial
theorem hd.tw7028611270464810887 : True := trivial
theorem hd.tw7031273417212677730 : True := trivial
theorem hd.tw7068711184596962023 : True := trivial
theorem hd.tw7080932558258925280 : True := trivial
theorem hd.tw7082855905992002993 : True := trivial
theorem hd.tw7085514621470718492 : True := trivial
theorem hd.tw7120233287515763914 : True := trivial
theorem hd.tw7152984921513172624 : True := trivial
theorem hd.tw7153062008950511462 : True := trivial
theorem hd.tw7174315439194531881 : True := trivial
theorem hd.tw7191455744419660376 : True := trivial
theorem hd.tw7240586211207864342 : True := trivial
theorem hd.tw7261450039545342454 : True := trivial
theorem hd.tw7270182246851987180 : True := trivial
theorem hd.tw728884934406724761 : True := trivial
theorem hd.tw7292484366425897655 : True := trivial
theorem hd.tw7296583596125217682 : True := trivial
theorem hd.tw7317836474542784337 : True := trivial
theorem hd.tw732345407407602841 : True := trivial
theorem hd.tw7339039647409124788 : True := trivial
theorem hd.tw7354087734392854552 : True := trivial
theorem hd.tw7369741819223213686 : True := trivial
theorem hd.tw7372000682148998216 : True := trivial
theorem hd.tw7379015992945566340 : True := trivial
theorem hd.tw7382370116671421104 : True := trivial
theorem hd.tw7492773218913965947 : True := trivial
theorem hd.tw7494724483528729301 : True := trivial
theorem hd.tw7510230149288206974 : True := trivial
theorem hd.tw7512474625130614241 : True := trivial
theorem hd.tw7519716089354478335 : True := trivial
theorem hd.tw7523672394736509286 : True := trivial
theorem hd.tw7525542149764818722 : True := trivial
theorem hd.tw7526368328331116154 : True := trivial
theorem hd.tw7534799579077118603 : True := trivial
theorem hd.tw7540655947842036084 : True := trivial
theorem hd.tw7541792107247259296 : True := trivial
theorem hd.tw7578210074245671484 : True := trivial
theorem hd.tw7598622570094877466 : True := trivial
theorem hd.tw7626941382939369770 : True := trivial
theorem hd.tw7628703163842673926 : True := trivial
theorem hd.tw7640094616464845771 : True := trivial
theorem hd.tw7654286748164834634 : True := trivial
theorem hd.tw7676003278276379012 : True := trivial
theorem hd.tw7691918140598264929 : True := trivial
theorem hd.tw7712595579559962911 : True := trivial
theorem hd.tw7712819752767893495 : True := trivial
theorem hd.tw7721951785955056133 : True := trivial
theorem hd.tw7746578258024575070 : True := trivial
theorem hd.tw7752569895197466512 : True := trivial
theorem hd.tw7754304195085646258 : True := trivial
theorem hd.tw7763873220885509757 : True := trivial
theorem hd.tw7792395482447073224 : True := trivial
theorem hd.tw7854228177987924090 : True := trivial
theorem hd.tw7880807054014371918 : True := trivial
theorem hd.tw7891253978561527248 : True := trivial
theorem hd.tw7898215921889874393 : True := trivial
theorem hd.tw7914949630228597729 : True := trivial
theorem hd.tw7927469264209771579 : True := trivial
theorem hd.tw7941745277869089046 : True := trivial
theorem hd.tw8004679753235328684 : True := trivial
theorem hd.tw8015326511298524721 : True := trivial
theorem hd.tw8025032847418708242 : True := trivial
theorem hd.tw8044012406986999415 : True := trivial
theorem hd.tw8047900516022102942 : True := trivial
theorem hd.tw8053944837975664402 : True := trivial
theorem hd.tw8112040973832200146 : True := trivial
theorem hd.tw8117029840178788049 : True := trivial
theorem hd.tw8134915037123179040 : True := trivial
theorem hd.tw8179070454071193570 : True := trivial
theorem hd.tw8191903926673212241 : True := trivial
theorem hd.tw8210421348078903774 : True := trivial
theorem hd.tw8226494294326810461 : True := trivial
theorem hd.tw8228950375871286339 : True := trivial
theorem hd.tw8242931771332617035 : True := trivial
theorem hd.tw8244733829118024811 : True := trivial
theorem hd.tw8268277133935991078 : True := trivial
theorem hd.tw8273930003744585626 : True := trivial
theorem hd.tw8312999807965096350 : True := trivial
theorem hd.tw8317466277049474617 : True := trivial
theorem hd.tw833173182276230429 : True := trivial
theorem hd.tw8343274005884668182 : True := trivial
theorem hd.tw8351282476255451920 : True := trivial
theorem hd.tw8356816923877370021 : True := trivial
theorem hd.tw8377043916266704855 : True := trivial
theorem hd.tw8381844023166312768 : True := trivial
theorem hd.tw8428860471423672150 : True := trivial
theorem hd.tw8457440626546761165 : True := trivial
theorem hd.tw8458067239894703972 : True := trivial
theorem hd.tw8472141830624432390 : True := trivial
theorem hd.tw8493152586797012548 : True := trivial
theorem hd.tw8516288146210602744 : True := trivial
theorem hd.tw8538877666451538035 : True := trivial
theorem hd.tw8545014587354053640 : True := trivial
theorem hd.tw8587404781116728655 : True := trivial
theorem hd.tw8589211134812392127 : True := trivial
theorem hd.tw8652628183442184457 : True := trivial
theorem hd.tw8655130359942090244 : True := trivial
theorem hd.tw8664936974563722654 : True := trivial
theorem hd.tw8671608845466749128 : True := trivial
theorem hd.tw8683856772340465682 : True := trivial
theorem hd.tw8684328023851190084 : True := trivial
theorem hd.tw8716120427605611371 : True := trivial
theorem hd.tw8727321023445011275 : True := trivial
theorem hd.tw8735263284916673568 : True := trivial
theorem hd.tw876933089483189297 : True := trivial
theorem hd.tw8770205317985620760 : True := trivial
theorem hd.tw8770659054964912022 : True := trivial
theorem hd.tw8773699223549846113 : True := trivial
theorem hd.tw8789358453043137523 : True := trivial
theorem hd.tw8801323125487838256 : True := trivial
theorem hd.tw8803977449572941912 : True := trivial
theorem hd.tw881544763273948857 : True := trivial
theorem hd.tw8879563391730754479 : True := trivial
theorem hd.tw8912348807662434688 : True := trivial
theorem hd.tw8913175085399131134 : True := trivial
theorem hd.tw8934143017859847078 : True := trivial
theorem hd.tw8959176491354863721 : True := trivial
theorem hd.tw8960069828448710407 : True := trivial
theorem hd.tw8965841893048198262 : True := trivial
theorem hd.tw8977307856219701671 : True := trivial
theorem hd.tw8977460988437922124 : True := trivial
theorem hd.tw9073681462420916055 : True := trivial
theorem hd.tw9077708301081682751 : True := trivial
theorem hd.tw9131607905817354932 : True := trivial
theorem hd.tw9132557439983319658 : True := trivial
theorem hd.tw9153386212771759811 : True := trivial
theorem hd.tw9170477692918782315 : True := trivial
theorem hd.tw920214292312260371 : True := trivial
theorem hd.tw9215827820722605749 : True := trivial
theorem hd.tw922143313871775805 : True := trivial
theorem hd.tw9258712216579463092 : True := trivial
theorem hd.tw9271970288684553227 : True := trivial
theorem hd.tw9277588360372424766 : True := trivial
theorem hd.tw9298403506768410418 : True := trivial
theorem hd.tw9325612240067072397 : True := trivial
theorem hd.tw9330823016148744750 : True := trivial
theorem hd.tw9330943631129107780 : True := trivial
theorem hd.tw9341642984632610673 : True := trivial
theorem hd.tw9345676750909349944 : True := trivial
theorem hd.tw9345929723534960622 : True := trivial
theorem hd.tw9390866547671247325 : True := trivial
theorem hd.tw9398405308114057262 : True := trivial
theorem hd.tw940617070666608080 : True := trivial
theorem hd.tw9406673726873002282 : True := trivial
theorem hd.tw9420132969298855359 : True := trivial
theorem hd.tw9421340871869096474 : True := trivial
theorem hd.tw9429285754427346401 : True := trivial
theorem hd.tw9430268157657104642 : True := trivial
theorem hd.tw9449672872311958731 : True := trivial
theorem hd.tw9459050058782445324 : True := trivial
theorem hd.tw9476321141362543215 : True := trivial
theorem hd.tw9496365245306024149 : True := trivial
theorem hd.tw9513423893830186035 : True := trivial
theorem hd.tw9533747618267967006 : True := trivial
theorem hd.tw9557236495431379559 : True := trivial
theorem hd.tw9566141503761928105 : True := trivial
theorem hd.tw9577689765879766989 : True := trivial
theorem hd.tw960944832710211464 : True := trivial
theorem hd.tw9617658007855726926 : True := trivial
theorem hd.tw9627899436633539337 : True := trivial
theorem hd.tw9631708518359487223 : True := trivial
theorem hd.tw9641152695372364146 : True := trivial
theorem hd.tw9657781627882305391 : True := trivial
theorem hd.tw9673543361469618366 : True := trivial
theorem hd.tw9702936160620672325 : True := trivial
theorem hd.tw9719896912496429819 : True := trivial
theorem hd.tw9741134391959003819 : True := trivial
theorem hd.tw9763420282994701918 : True := trivial
theorem hd.tw9783614193127449063 : True := trivial
theorem hd.tw978945382295711627 : True := trivial
theorem hd.tw9842699097658496709 : True := trivial
theorem hd.tw9864973744126774698 : True := trivial
theorem hd.tw9908193460736022307 : True := trivial
theorem hd.tw9960721518486171458 : True := trivial
theorem hd.tw9983964734214183352 : True := trivial
theorem hd.tw9983995961361265002 : True := trivial
theorem hd.tw9990345226319884068 : True := trivial
theorem hd.tw9995953887348947515 : True := trivial
set_option Elab.async true in
theorem hd (walk : WalkO view [Str.ofString "NIL", Str.ofString "list_term"] (XL view [(Str.ofString "NIL", .tuple [.str ⟨#[97]⟩, .int 0])]) (kHook Mine.hp.heap_1 [2, 3, 15, 17, 18, 20, 21, 22, 29, 30, 31, 32, 35, 42, 44, 45, 47, 48, 49, 50, 51, 54, 56, 57, 59, 60, 61, 63, 64, 66, 67, 75, 77, 78, 80, 81, 82, 84, 85, 87, 88, 89, 91, 92, 94, 95, 96, 98, 99, 101, 102, 103, 105, 106, 108, 109, 110, 112, 113, 115, 116, 117, 119, 120, 122, 123, 124, 126, 127, 129, 130, 131, 133, 134, 136, 137, 138, 140, 141, 143, 144, 145, 147, 148, 150, 151, 152, 153, 154, 155, 156, 159, 161, 162, 164, 165, 166, 168, 169, 171, 172, 173, 175, 176, 178, 179, 180, 182, 183, 185, 186, 187, 189, 190, 192, 193, 194, 196, 197, 199, 200, 201, 203, 204, 206, 207, 208, 210, 211, 213, 214, 215, 218, 219, 220, 222, 223, 225, 226, 227, 229, 230, 232, 233, 241, 242, 244, 245, 247, 248, 249, 251, 252, 254, 255, 256, 258, 259, 261, 262, 263, 265, 266, 268, 269, 270, 272, 273, 275, 276, 277, 279, 280, 282, 283, 284, 286, 287, 289, 290, 291, 293, 294, 296, 297, 298, 300, 301, 303, 304, 305, 307, 308, 310, 311, 312, 314, 315, 317, 318, 319, 321, 322, 324, 325, 326, 328, 329, 331, 332, 333, 335, 336, 338, 339, 340, 342, 343, 345, 346, 347, 349, 350, 352, 353, 354, 356, 357, 359, 360, 361, 363, 364, 366, 367, 368, 369, 370, 371, 372, 375, 376, 378, 379, 381, 382, 383, 385, 386, 388, 389, 390, 392, 393, 395, 396, 397, 399, 400, 402, 403, 404, 405, 407, 408, 410, 411, 412, 413, 414, 415, 417, 418, 420, 421, 422, 424, 425, 427, 428, 429, 431, 432, 434, 435, 436, 438, 439, 441, 442, 450, 451, 453, 454, 456, 457, 458, 460, 461, 463, 464, 465, 467, 468, 470, 471, 472, 474, 475, 477, 478, 479, 481, 482, 484, 485, 486, 488, 489, 491, 492, 493, 495, 496, 498, 499, 500, 502, 503, 505, 506, 507, 508, 509, 510, 511, 521, 523, 524, 526, 527, 528, 530, 531, 533, 534, 535, 537, 538, 540, 541, 542, 544, 545, 547, 548, 549, 551, 552, 554, 555, 556, 558, 559, 561, 562, 563, 564, 565, 566, 567, 570, 571, 579, 581, 582, 584, 585, 586, 587, 588, 589, 590, 593, 595, 596, 598, 599, 600, 602, 603, 605, 606, 607, 609, 610, 612, 613, 621, 623, 624, 626, 627, 628, 630, 631, 633, 634, 635, 637, 638, 640, 641, 642, 644, 645, 647, 648, 649, 651, 652, 654, 655, 656, 658, 659, 661, 662, 663, 665, 666, 668, 669, 670, 672, 673, 675, 676, 677, 679, 680, 682, 683, 684, 686, 687, 689, 690, 691, 693, 694, 696, 697, 698, 700, 701, 703, 704, 705, 707, 708, 710, 711, 712, 714, 715, 717, 718, 719, 721, 722, 724, 725, 726, 729, 730, 731, 733, 734, 736, 737, 738, 740, 741, 743, 744, 745, 747, 748, 750, 751, 752, 754, 755, 757, 758, 759, 761, 762, 764, 765, 766, 768, 769, 771, 772, 773, 775, 776, 778, 779, 780, 782, 783, 785, 786, 787, 789, 790, 792, 793, 794, 795, 796, 797, 798, 808, 809, 811, 812, 814, 815, 816, 818, 819, 821, 822, 823, 825, 826, 828, 829, 830, 832, 833, 835, 836, 837, 838, 839, 840, 841, 844, 847, 848] (fun _ => by kernel_rfl)).says PySem.Challenge.rw_rr0038_02.row.toRowW lawD [] fun f vs => PySem.call f vs) : PySem.Challenge.rw_rr0038_02.Holds := by
  w_on
  o_law
  show Gg walk _
  o_head (kHook Mine.hp.heap_1 [2, 3, 15, 17, 18, 20, 21, 22, 29, 30, 31, 32, 35, 42, 44, 45, 47, 48, 49, 50, 51, 54, 56, 57, 59, 60, 61, 63, 64, 66, 67, 75, 77, 78, 80, 81, 82, 84, 85, 87, 88, 89, 91, 92, 94, 95, 96, 98, 99, 101, 102, 103, 105, 106, 108, 109, 110, 112, 113, 115, 116, 117, 119, 120, 122, 123, 124, 126, 127, 129, 130, 131, 133, 134, 136, 137, 138, 140, 141, 143, 144, 145, 147, 148, 150, 151, 152, 153, 154, 155, 156, 159, 161, 162, 164, 165, 166, 168, 169, 171, 172, 173, 175, 176, 178, 179, 180, 182, 183, 185, 186, 187, 189, 190, 192, 193, 194, 196, 197, 199, 200, 201, 203, 204, 206, 207, 208, 210, 211, 213, 214, 215, 218, 219, 220, 222, 223, 225, 226, 227, 229, 230, 232, 233, 241, 242, 244, 245, 247, 248, 249, 251, 252, 254, 255, 256, 258, 259, 261, 262, 263, 265, 266, 268, 269, 270, 272, 273, 275, 276, 277, 279, 280, 282, 283, 284, 286, 287, 289, 290, 291, 293, 294, 296, 297, 298, 300, 301, 303, 304, 305, 307, 308, 310, 311, 312, 314, 315, 317, 318, 319, 321, 322, 324, 325, 326, 328, 329, 331, 332, 333, 335, 336, 338, 339, 340, 342, 343, 345, 346, 347, 349, 350, 352, 353, 354, 356, 357, 359, 360, 361, 363, 364, 366, 367, 368, 369, 370, 371, 372, 375, 376, 378, 379, 381, 382, 383, 385, 386, 388, 389, 390, 392, 393, 395, 396, 397, 399, 400, 402, 403, 404, 405, 407, 408, 410, 411, 412, 413, 414, 415, 417, 418, 420, 421, 422, 424, 425, 427, 428, 429, 431, 432, 434, 435, 436, 438, 439, 441, 442, 450, 451, 453, 454, 456, 457, 458, 460, 461, 463, 464, 465, 467, 468, 470, 471, 472, 474, 475, 477, 478, 479, 481, 482, 484, 485, 486, 488, 489, 491, 492, 493, 495, 496, 498, 499, 500, 502, 503, 505, 506, 507, 508, 509, 510, 511, 521, 523, 524, 526, 527, 528, 530, 531, 533, 534, 535, 537, 538, 540, 541, 542, 544, 545, 547, 548, 549, 551, 552, 554, 555, 556, 558, 559, 561, 562, 563, 564, 565, 566, 567, 570, 571, 579, 581, 582, 584, 585, 586, 587, 588, 589, 590, 593, 595, 596, 598, 599, 600, 602, 603, 605, 606, 607, 609, 610, 612, 613, 621, 623, 624, 626, 627, 628, 630, 631, 633, 634, 635, 637, 638, 640, 641, 642, 644, 645, 647, 648, 649, 651, 652, 654, 655, 656, 658, 659, 661, 662, 663, 665, 666, 668, 669, 670, 672, 673, 675, 676, 677, 679, 680, 682, 683, 684, 686, 687, 689, 690, 691, 693, 694, 696, 697, 698, 700, 701, 703, 704, 705, 707, 708, 710, 711, 712, 714, 715, 717, 718, 719, 721, 722, 724, 725, 726, 729, 730, 731, 733, 734, 736, 737, 738, 740, 741, 743, 744, 745, 747, 748, 750, 751, 752, 754, 755, 757, 758, 759, 761, 762, 764, 765, 766, 768, 769, 771, 772, 773, 775, 776, 778, 779, 780, 782, 783, 785, 786, 787, 789, 790, 792, 793, 794, 795, 796, 797, 798, 808, 809, 811, 812, 814, 815, 816, 818, 819, 821, 822, 823, 825, 826, 828, 829, 830, 832, 833, 835, 836, 837, 838, 839, 840, 841, 844, 847, 848] (fun _ => by kernel_rfl))
  (case hw => w_witness2)
  exact walk
end
end Mine
end

namespace Mine
theorem absG {G : Prop} (h : ∀ G' : Prop, (G → G') → G') : G := h G id
end Mine
section
open PySem PySem.W PyProof.Rows
set_option Elab.async false
set_option genSizeOf false
set_option linter.unusedVariables false
namespace Mine

inductive AV where
  | none
  | bool (b : Bool)
  | int (i : Int)
  | str (s : Str)
  | ref (a : Addr)
  | tup (vs : List AV)
  | type (n : String)
  | builtin (n : String)
  deriving Inhabited

noncomputable def tupObj (vs : List Value) (n : Nat) : Obj := { cls := .type "tuple", data := .seq vs.toArray n }

mutual
inductive VR (h : Heap) : Value → AV → Prop
  | none : VR h Value.none AV.none
  | bool (b : Bool) : VR h (Value.bool b) (AV.bool b)
  | int (i : Int) (t : Tok) : VR h (Value.int i t) (AV.int i)
  | str (x : Str) (t : Tok) : VR h (Value.str x t) (AV.str x)
  | ref (a : Addr) : VR h (Value.ref a) (AV.ref a)
  | tup {a : Addr} {vs : List Value} {n : Nat} {ds : List AV} : h.get? a = some (tupObj vs n) → VRs h vs ds → VR h (Value.ref a) (AV.tup ds)
  | type (n : String) : VR h (Value.type n) (AV.type n)
  | builtin (n : String) : VR h (Value.builtin n) (AV.builtin n)
inductive VRs (h : Heap) : List Value → List AV → Prop
  | nil : VRs h [] []
  | cons {v : Value} {vs : List Value} {d : AV} {ds : List AV} : VR h v d → VRs h vs ds → VRs h (v :: vs) (d :: ds)
end

noncomputable def TupKeep (h h' : Heap) : Prop := ∀ a o its n, h.get? a = some o → o.cls = .type "tuple" → o.data = .seq its n → h'.get? a = some o
theorem TupKeep.refl (h : Heap) : TupKeep h h := fun _ _ _ _ e _ _ => e
theorem TupKeep.trans {h₁ h₂ h₃ : Heap} (x : TupKeep h₁ h₂) (y : TupKeep h₂ h₃) : TupKeep h₁ h₃ := fun a o _ _ e c d => y a o _ _ (x a o _ _ e c d) c d
theorem TupKeep.of_keep {h h' : Heap} (k : ∀ b o, h.get? b = some o → h'.get? b = some o) : TupKeep h h' := fun a o _ _ e _ _ => k a o e
noncomputable def NoTup (o : Obj) : Prop := ∀ its n, o.cls = .type "tuple" → o.data = .seq its n → False
theorem TupKeep.extBut {h h' : Heap} {d : Addr} {o : Obj} (hs : Heap.ExtBut d h h') (ho : h.get? d = some o) (hc : NoTup o) : TupKeep h h' := fun a o' its n e c d' => by
  refine hs a o' (fun q => ?_) e
  subst q
  rw [ho] at e
  cases e
  exact hc its n c d'
theorem NoTup.of_cls {o : Obj} (h : o.cls ≠ .type "tuple") : NoTup o := fun _ _ c _ => h c
theorem NoTup.of_dict {o : Obj} {es : Array DictEntry} {ep : Nat} (h : o.data = .dict es ep) : NoTup o := fun _ _ _ d => by rw [h] at d; cases d
theorem NoTup.of_cell {o : Obj} {v : Option Value} (h : o.data = .cell v) : NoTup o := fun _ _ _ d => by rw [h] at d; cases d

theorem VR.both {h h' : Heap} (k : TupKeep h h') : (∀ v d, VR h v d → VR h' v d) ∧ ∀ vs ds, VRs h vs ds → VRs h' vs ds := by
  have A := fun (P : Prop) (q : (∀ v d, VR h v d → VR h' v d) → (∀ vs ds, VRs h vs ds → VRs h' vs ds) → P) => q
    (fun v d z => VR.rec (motive_1 := fun v d _ => VR h' v d) (motive_2 := fun vs ds _ => VRs h' vs ds) .none .bool .int .str .ref (fun e _ r => .tup (k _ _ _ _ e rfl rfl) r) .type .builtin .nil (fun _ _ a r => .cons a r) z)
    (fun v d z => VRs.rec (motive_1 := fun v d _ => VR h' v d) (motive_2 := fun vs ds _ => VRs h' vs ds) .none .bool .int .str .ref (fun e _ r => .tup (k _ _ _ _ e rfl rfl) r) .type .builtin .nil (fun _ _ a r => .cons a r) z)
  exact A _ And.intro
theorem VR.mono {h h' : Heap} (k : TupKeep h h') {v : Value} {d : AV} (z : VR h v d) : VR h' v d := (VR.both k).1 v d z
theorem VRs.mono {h h' : Heap} (k : TupKeep h h') {vs : List Value} {ds : List AV} (z : VRs h vs ds) : VRs h' vs ds := (VR.both k).2 vs ds z
theorem VRs.ind {h : Heap} {P : List Value → List AV → Prop} (n : P [] []) (c : ∀ {v : Value} {vs : List Value} {d : AV} {ds : List AV}, VR h v d → VRs h vs ds → P vs ds → P (v :: vs) (d :: ds)) {vs : List Value} {ds : List AV} (z : VRs h vs ds) : P vs ds :=
  VRs.rec (motive_1 := fun _ _ _ => True) (motive_2 := fun vs ds _ => P vs ds) trivial (fun _ => trivial) (fun _ _ => trivial) (fun _ _ => trivial) (fun _ => trivial) (fun _ _ _ => trivial) (fun _ => trivial) (fun _ => trivial) n (fun a r _ p => c a r p) z
theorem VRs.length {h : Heap} {vs : List Value} {ds : List AV} (z : VRs h vs ds) : vs.length = ds.length :=
  VRs.ind (P := fun vs ds => vs.length = ds.length) rfl (fun _ _ p => by rw [List.length_cons, List.length_cons, p]) z
theorem VRs.l0 {h : Heap} {vs : List Value} (z : VRs h vs []) : vs = [] := List.eq_nil_of_length_eq_zero z.length
theorem VR.noneI {h : Heap} {v : Value} (z : VR h v .none) : v = .none := by cases z; rfl
theorem VR.boolI {h : Heap} {v : Value} {b : Bool} (z : VR h v (.bool b)) : v = .bool b := by cases z; rfl
theorem VR.intI {h : Heap} {v : Value} {i : Int} (z : VR h v (.int i)) : ∃ t, v = .int i t := by cases z; exact ⟨_, rfl⟩
theorem VR.strI {h : Heap} {v : Value} {u : Str} (z : VR h v (.str u)) : ∃ t, v = .str u t := by cases z; exact ⟨_, rfl⟩
theorem VR.tupI {h : Heap} {v : Value} {ds : List AV} (z : VR h v (.tup ds)) : ∃ a vs n, v = .ref a ∧ h.get? a = some (tupObj vs n) ∧ VRs h vs ds := by cases z with | tup e r => exact ⟨_, _, _, rfl, e, r⟩
theorem VRs.lc {h : Heap} {vs : List Value} {d : AV} {ds : List AV} (z : VRs h vs (d :: ds)) : ∃ v ws, vs = v :: ws ∧ VR h v d ∧ VRs h ws ds := by
  cases z with
  | cons a r => exact ⟨_, _, rfl, a, r⟩
theorem VRs.ls {h : Heap} {vs : List Value} {d : AV} {ds : List AV} (z : VRs h vs (d :: ds)) : ∃ v ws, vs = v :: ws ∧ VRs h ws ds := let ⟨v, ws, e, _, r⟩ := z.lc; ⟨v, ws, e, r⟩
theorem VRs.l1 {h : Heap} {vs : List Value} {a : AV} (z : VRs h vs [a]) : ∃ v, vs = [v] := let ⟨v, _, e, r⟩ := z.ls; ⟨v, by rw [e, r.l0]⟩
theorem VRs.l2 {h : Heap} {vs : List Value} {a b : AV} (z : VRs h vs [a, b]) : ∃ v w, vs = [v, w] := let ⟨v, _, e, r⟩ := z.ls; let ⟨w, q⟩ := r.l1; ⟨v, w, by rw [e, q]⟩
theorem VRs.l3 {h : Heap} {vs : List Value} {a b c : AV} (z : VRs h vs [a, b, c]) : ∃ v w u, vs = [v, w, u] := let ⟨v, _, e, r⟩ := z.ls; let ⟨w, u, q⟩ := r.l2; ⟨v, w, u, by rw [e, q]⟩
theorem VRs.l4 {h : Heap} {vs : List Value} {a b c d : AV} (z : VRs h vs [a, b, c, d]) : ∃ v w u t, vs = [v, w, u, t] := let ⟨v, _, e, r⟩ := z.ls; let ⟨w, u, t, q⟩ := r.l3; ⟨v, w, u, t, by rw [e, q]⟩
theorem VRs.l5 {h : Heap} {vs : List Value} {a b c d e : AV} (z : VRs h vs [a, b, c, d, e]) : ∃ v w u t y, vs = [v, w, u, t, y] := let ⟨v, _, e, r⟩ := z.ls; let ⟨w, u, t, y, q⟩ := r.l4; ⟨v, w, u, t, y, by rw [e, q]⟩
theorem bB0 {h : Heap} {vs : List Value} {B : List Value → List Value → Prop} (z : VRs h vs []) (f : B [] []) : ∃ ws, VRs h ws [] ∧ B vs ws := by
  obtain rfl := z.l0
  exact ⟨_, z, f⟩
theorem bB1 {h : Heap} {vs : List Value} {a : AV} {B : List Value → List Value → Prop} (z : VRs h vs [a]) (f : ∀ v, B [v] [v]) : ∃ ws, VRs h ws [a] ∧ B vs ws := by
  obtain ⟨v, rfl⟩ := z.l1
  exact ⟨_, z, f v⟩
theorem bB2 {h : Heap} {vs : List Value} {a b : AV} {B : List Value → List Value → Prop} (z : VRs h vs [a, b]) (f : ∀ v w, B [v, w] [v, w]) : ∃ ws, VRs h ws [a, b] ∧ B vs ws := by
  obtain ⟨v, w, rfl⟩ := z.l2
  exact ⟨_, z, f v w⟩
theorem bB3 {h : Heap} {vs : List Value} {a b c : AV} {B : List Value → List Value → Prop} (z : VRs h vs [a, b, c]) (f : ∀ v w u, B [v, w, u] [v, w, u]) : ∃ ws, VRs h ws [a, b, c] ∧ B vs ws := by
  obtain ⟨v, w, u, rfl⟩ := z.l3
  exact ⟨_, z, f v w u⟩
theorem bB4 {h : Heap} {vs : List Value} {a b c d : AV} {B : List Value → List Value → Prop} (z : VRs h vs [a, b, c, d]) (f : ∀ v w u t, B [v, w, u, t] [v, w, u, t]) : ∃ ws, VRs h ws [a, b, c, d] ∧ B vs ws := by
  obtain ⟨v, w, u, t, rfl⟩ := z.l4
  exact ⟨_, z, f v w u t⟩
theorem bB5 {h : Heap} {vs : List Value} {a b c d e : AV} {B : List Value → List Value → Prop} (z : VRs h vs [a, b, c, d, e]) (f : ∀ v w u t y, B [v, w, u, t, y] [v, w, u, t, y]) : ∃ ws, VRs h ws [a, b, c, d, e] ∧ B vs ws := by
  obtain ⟨v, w, u, t, y, rfl⟩ := z.l5
  exact ⟨_, z, f v w u t y⟩
theorem VRs.append {h : Heap} {vs ws : List Value} {ds es : List AV} (z : VRs h vs ds) (y : VRs h ws es) : VRs h (vs ++ ws) (ds ++ es) :=
  VRs.ind (P := fun vs ds => VRs h (vs ++ ws) (ds ++ es)) y (fun a _ p => .cons a p) z
theorem VRs.get {h : Heap} {vs : List Value} {ds : List AV} (z : VRs h vs ds) : ∀ {i : Nat} {d : AV}, ds[i]? = some d → ∃ v, vs[i]? = some v ∧ VR h v d :=
  VRs.ind (P := fun vs ds => ∀ {i : Nat} {d : AV}, ds[i]? = some d → ∃ v, vs[i]? = some v ∧ VR h v d) (fun e => nomatch e)
    (fun a _ p i d e => by
      cases i with
      | zero => exact ⟨_, rfl, Option.some.inj e ▸ a⟩
      | succ i => exact p e) z
theorem VRs.take {h : Heap} {vs : List Value} {ds : List AV} (z : VRs h vs ds) : ∀ n, VRs h (vs.take n) (ds.take n) :=
  VRs.ind (P := fun vs ds => ∀ n, VRs h (vs.take n) (ds.take n)) (fun n => by rw [List.take_nil, List.take_nil]; exact .nil) (fun a _ p n => by
    cases n with
    | zero => exact .nil
    | succ n => exact .cons a (p n)) z
theorem VRs.drop {h : Heap} {vs : List Value} {ds : List AV} (z : VRs h vs ds) : ∀ n, VRs h (vs.drop n) (ds.drop n) :=
  VRs.ind (P := fun vs ds => ∀ n, VRs h (vs.drop n) (ds.drop n)) (fun n => by rw [List.drop_nil, List.drop_nil]; exact .nil) (fun a r p n => by
    cases n with
    | zero => exact .cons a r
    | succ n => exact p n) z
inductive AObj where
  | inst (C d : Addr) (fs : List (Str × AV))
  | own (a : Addr)
  | list (vs : List AV)
  | dictS (xs : List (Str × AV))
  | dictI (xs : List (Int × AV))
  | dictT (xs : List (List Int × AV))
  | exc (C d : Addr) (T : Option Addr) (ctx : Option Addr) (fs : List (Str × AV))
  | tb
  | exc0 (C : Addr)

inductive XO where
  | exact (o : Obj)
  | loose (o : Obj)
noncomputable def NonF (o : Obj) : Prop := ∃ es ep, o.data = .dict es ep
noncomputable def XO.at (h : Heap) (a : Addr) : XO → Prop
  | .exact o => h.get? a = some o
  | .loose o => NonF o ∧ ∃ sl, h.get? a = some { o with slots := sl }
theorem XO.at.keep {h h' : Heap} {a : Addr} : ∀ {x : XO}, x.at h a → (∀ o, h.get? a = some o → h'.get? a = some o) → x.at h' a
  | .exact _, z, k => k _ z
  | .loose _, ⟨n, sl, z⟩, k => ⟨n, sl, k _ z⟩
theorem XO.at.there {h : Heap} {a : Addr} : ∀ {x : XO}, x.at h a → ∃ o, h.get? a = some o
  | .exact _, z => ⟨_, z⟩
  | .loose _, ⟨_, _, z⟩ => ⟨_, z⟩
theorem XO.at.lt {h : Heap} {a : Addr} {x : XO} (z : x.at h a) : a < h.objs.size := let ⟨_, e⟩ := z.there; Heap.lt_size e

noncomputable abbrev AH := Addr → Option AObj
noncomputable abbrev XH := Addr → Option XO
noncomputable abbrev Loc := Str → Option AV
noncomputable def upd (H : AH) (a : Addr) (o : AObj) : AH := fun b => if b = a then some o else H b
theorem upd_same (H : AH) (a : Addr) (o : AObj) : upd H a o a = some o := if_pos rfl
theorem upd_ne {H : AH} {a b : Addr} {o : AObj} (h : b ≠ a) : upd H a o b = H b := if_neg h
noncomputable def setL (ρ : Loc) (x : Str) (v : AV) : Loc := fun y => if y = x then some v else ρ y
theorem setL_same (ρ : Loc) (x : Str) (v : AV) : setL ρ x v x = some v := if_pos rfl
theorem setL_ne {ρ : Loc} {x y : Str} {v : AV} (h : y ≠ x) : setL ρ x v y = ρ y := if_neg h

set_option genInjectivity false in
structure Gd (KF : Params → Frag) where
  prog : Program
  w : World
  p : Program
  loose : List Str
  mean : ExcName → Option Value
  mg : Str → Option Value
  mb : Str → Option Value
  hb : Heap
  X : (KF w.params).In hb
  T : Top p loose mean mg mb hb
  lo : sysModules < hb.objs.size

noncomputable abbrev Gd.K {KF : Params → Frag} (g : Gd KF) : Frag := KF g.w.params

inductive FR (h : Heap) : List DictEntry → List (Str × AV) → Prop
  | nil : FR h [] []
  | cons {hs : Int} {x : Str} {t : Tok} {v : Value} {d : AV} {es : List DictEntry} {fs : List (Str × AV)} : VR h v d → FR h es fs → FR h (⟨hs, .str x t, v⟩ :: es) ((x, d) :: fs)
theorem FR.mono {h h' : Heap} (k : TupKeep h h') {es : List DictEntry} {fs : List (Str × AV)} (z : FR h es fs) : FR h' es fs := FR.rec .nil (fun a _ r => .cons (a.mono k) r) z
theorem FR.length {h : Heap} {es : List DictEntry} {fs : List (Str × AV)} (z : FR h es fs) : es.length = fs.length := FR.rec (motive := fun es fs _ => es.length = fs.length) rfl (fun _ _ r => by rw [List.length_cons, List.length_cons, r]) z

inductive OVR (h : Heap) : Option Value → Option AV → Prop
  | none : OVR h .none .none
  | some {v : Value} {d : AV} : VR h v d → OVR h (.some v) (.some d)
inductive PR {K : Type} (h : Heap) : List (K × Value) → List (K × AV) → Prop
  | nil : PR h [] []
  | cons {k : K} {v : Value} {d : AV} {ys : List (K × Value)} {xs : List (K × AV)} : VR h v d → PR h ys xs → PR h ((k, v) :: ys) ((k, d) :: xs)
theorem PR.mono {K : Type} {h h' : Heap} (k : TupKeep h h') {ys : List (K × Value)} {xs : List (K × AV)} (z : PR h ys xs) : PR h' ys xs := PR.rec .nil (fun a _ r => .cons (a.mono k) r) z
inductive TR (h : Heap) : List (List Int × Addr × Value) → List (List Int × AV) → Prop
  | nil : TR h [] []
  | cons {k : List Int} {a : Addr} {v : Value} {d : AV} {ys : List (List Int × Addr × Value)} {xs : List (List Int × AV)} : VR h v d → TR h ys xs → TR h ((k, a, v) :: ys) ((k, d) :: xs)
theorem TR.mono {h h' : Heap} (k : TupKeep h h') {ys : List (List Int × Addr × Value)} {xs : List (List Int × AV)} (z : TR h ys xs) : TR h' ys xs := TR.rec .nil (fun a _ r => .cons (a.mono k) r) z

noncomputable def insOf : AObj → Option (Addr × Addr)
  | .inst C d _ => some (C, d)
  | .exc C d _ _ _ => some (C, d)
  | _ => none
noncomputable def ownOf : AObj → Option Addr
  | .own a => some a
  | _ => none
noncomputable def isTb : AObj → Bool
  | .tb => true
  | _ => false
noncomputable def ownTb (o : AObj) : Option Addr × Bool := (ownOf o, isTb o)
noncomputable def refO : Option Addr → Value
  | some a => .ref a
  | none => .none

noncomputable def OK {KF : Params → Frag} (g : Gd KF) (h : Heap) (H : AH) (a : Addr) : AObj → Prop
  | .inst C d fs => h.get? a = some (instObj C d) ∧ (∃ es n, h.get? d = some (dictOf es n) ∧ FR h es fs) ∧ H d = some (.own a)
  | .own b => ∃ C o, H b = some o ∧ insOf o = some (C, a)
  | .list vs => ∃ its n, h.get? a = some (listOf its.toArray n) ∧ VRs h its vs
  | .dictS xs => ∃ ys, h.DictOf (strKind g.prog g.w) a ys ∧ PR h ys xs
  | .dictI xs => ∃ ys, h.DictOf (intKind g.prog g.w) a ys ∧ PR h ys xs
  | .dictT xs => ∃ ys, h.DictOfH (tupleKind (intKind g.prog g.w)) a ys ∧ TR h ys xs
  | .exc C d T ctx fs => (∃ o vs, h.get? a = some o ∧ o.cls = .ref C ∧ o.dict = some d ∧ o.data = .fields vs ∧ vs.size = 6 ∧ vs[1]? = some (refO T) ∧ vs[2]? = some (refO ctx)) ∧ (∃ es n, h.get? d = some (dictOf es n) ∧ FR h es fs) ∧ H d = some (.own a) ∧ ∀ t, T = some t → H t = some .tb
  | .exc0 C => ∃ o vs, h.get? a = some o ∧ o.cls = .ref C ∧ o.dict = none ∧ o.data = .fields vs ∧ vs.size = 6 ∧ vs[1]? = some .none ∧ vs[2]? = some .none
  | .tb => ∃ o ts v, h.get? a = some o ∧ o.cls = .type "traceback" ∧ o.data = .fields ts ∧ ts[3]? = some v

structure Rep0 {KF : Params → Frag} (g : Gd KF) (h : Heap) (H : AH) (X : XH) : Prop where
  keep : ∀ b o, g.hb.get? b = some o → h.get? b = some o
  size : g.hb.objs.size ≤ h.objs.size
  obj : ∀ a x, H a = some x → g.hb.objs.size ≤ a ∧ OK g h H a x
  ext : ∀ a o, X a = some o → o.at h a ∧ H a = none ∧ g.hb.objs.size ≤ a

noncomputable def LocR (h : Heap) (m : Str → Option Value) (cl : List (Str × Addr)) (ρ : Loc) : Prop :=
  ∀ x d, ρ x = some d → match cl.lookup x with
    | none => ∃ v, m x = some v ∧ VR h v d
    | some c => ∃ v, h.IsCell c (some v) ∧ VR h v d

structure Cx where
  A : Around
  env : Env

noncomputable def FrmOk (b L : Addr) (X : XH) (e : Env) : Prop := e.scope.kind ≠ .module ∧ ∃ M, e.frame = some M ∧ b ≤ M ∧ (M = L ∨ ∃ o, X M = some (.loose o))
noncomputable def Stk (b : Addr) (c : Cx) (X : XH) : Prop := ∃ l, c.A.frames = some l ∧ (c.env.frame = some c.env.locals → ∃ r, l = c.env :: r) ∧ (∀ e ∈ l, FrmOk b c.env.locals X e) ∧ ∀ M, c.env.frame = some M → M = c.env.locals ∨ ∃ o, X M = some (.loose o)
structure FrR {KF : Params → Frag} (g : Gd KF) (c : Cx) (h : Heap) (ρ : Loc) (H : AH) (X : XH) : Prop where
  ns : ∃ m, h.Ns c.env.locals m ∧ LocR h m c.env.cells ρ
  nL : g.hb.objs.size ≤ c.env.locals ∧ H c.env.locals = none ∧ X c.env.locals = none
  cl : ∀ x a, c.env.cells.lookup x = some a → g.hb.objs.size ≤ a ∧ H a = none ∧ (c.env.func ≠ none → X a = none) ∧ a ≠ c.env.locals ∧ ∃ v, h.IsCell a v
  inj : ∀ x y a, c.env.cells.lookup x = some a → c.env.cells.lookup y = some a → x = y
  stk : Stk g.hb.objs.size c X

structure Rep {KF : Params → Frag} (g : Gd KF) (c : Cx) (h : Heap) (ρ : Loc) (H : AH) (X : XH) : Prop where
  o : Rep0 g h H X
  f : FrR g c h ρ H X

structure Step (s s' : Shared) : Prop where
  eq : s' = { s with heap := s'.heap, toks := s'.toks }
  tup : TupKeep s.heap s'.heap
theorem Step.refl (s : Shared) : Step s s := ⟨rfl, .refl _⟩
theorem Step.trans {s₁ s₂ s₃ : Shared} (x : Step s₁ s₂) (y : Step s₂ s₃) : Step s₁ s₃ := ⟨by rw [y.eq, x.eq], x.tup.trans y.tup⟩
theorem Step.tok (s : Shared) (t : Nat) : Step s { s with toks := t } := ⟨rfl, .refl _⟩
theorem Step.heap (s : Shared) {h : Heap} {t : Nat} (k : TupKeep s.heap h) (z : s.heap.objs.size ≤ h.objs.size) : Step s { s with heap := h, toks := t } := ⟨rfl, k⟩
theorem Step.heap' (s : Shared) {h : Heap} {t : Nat} (k : TupKeep s.heap h) : Step s { s with heap := h, toks := t } := ⟨rfl, k⟩

noncomputable abbrev Qs {KF : Params → Frag} (g : Gd KF) (c : Cx) {α β : Type} (V : Heap → α → β → Prop) (X : XH) (s : Shared) (k : β → Loc → AH → Prop) (Q : α → Shared → Prop) : Prop :=
  ∀ v b s' ρ' H', Step s s' → Rep g c s'.heap ρ' H' X → V s'.heap v b → k b ρ' H' → Q v s'
noncomputable abbrev Es {KF : Params → Frag} (g : Gd KF) (c : Cx) (X : XH) (s : Shared) (x : AV → Loc → AH → Prop) (E : Value → Shared → Prop) : Prop :=
  ∀ e b s' ρ' H', Step s s' → Rep g c s'.heap ρ' H' X → VR s'.heap e b → x b ρ' H' → E e s'
theorem Qs.step {KF : Params → Frag} {g : Gd KF} {c : Cx} {α β : Type} {V : Heap → α → β → Prop} {X : XH} {s s₁ : Shared} {k : β → Loc → AH → Prop} {Q : α → Shared → Prop} (q : Qs g c V X s k Q) (st : Step s s₁) : Qs g c V X s₁ k Q :=
  fun v b s' ρ' H' st' => q v b s' ρ' H' (st.trans st')
theorem Es.step {KF : Params → Frag} {g : Gd KF} {c : Cx} {X : XH} {s s₁ : Shared} {x : AV → Loc → AH → Prop} {E : Value → Shared → Prop} (q : Es g c X s x E) (st : Step s s₁) : Es g c X s₁ x E :=
  fun v b s' ρ' H' st' => q v b s' ρ' H' (st.trans st')
noncomputable def Tri {KF : Params → Frag} (g : Gd KF) (c : Cx) {α β : Type} (V : Heap → α → β → Prop) (t : Sem α) (ρ : Loc) (H : AH) (k : β → Loc → AH → Prop) (x : AV → Loc → AH → Prop) : Prop :=
  ∀ (s : Shared) (X : XH) (Q : α → Shared → Prop) (E : Value → Shared → Prop), Rep g c s.heap ρ H X → Qs g c V X s k Q → Es g c X s x E →
    wpAny (model g.prog g.w) c.A t Q E s

theorem Tri.mono {KF : Params → Frag} {g : Gd KF} {c : Cx} {α β : Type} {V : Heap → α → β → Prop} {t : Sem α} {ρ : Loc} {H : AH} {k k' : β → Loc → AH → Prop} {x x' : AV → Loc → AH → Prop}
    (h : Tri g c V t ρ H k x) (hk : ∀ b ρ' H', k b ρ' H' → k' b ρ' H') (hx : ∀ b ρ' H', x b ρ' H' → x' b ρ' H') : Tri g c V t ρ H k' x' :=
  fun s X Q E R q e => h s X Q E R (fun v b s' ρ' H' st R' hv kk => q v b s' ρ' H' st R' hv (hk _ _ _ kk)) fun v b s' ρ' H' st R' hv kk => e v b s' ρ' H' st R' hv (hx _ _ _ kk)

noncomputable abbrev Ev {KF : Params → Frag} (g : Gd KF) (c : Cx) (e : Expr) := Tri g c VR (eval e c.env)
noncomputable def BR (_ : Heap) (a b : Bool) : Prop := a = b
noncomputable abbrev Ts {KF : Params → Frag} (g : Gd KF) (c : Cx) (e : Expr) := Tri g c BR (isTrue e c.env (eval e c.env))

inductive AF where
  | next | brk | cont
  | ret (v : AV)
inductive FlR (h : Heap) : Flow → AF → Prop
  | next : FlR h .next .next
  | brk : FlR h .brk .brk
  | cont : FlR h .cont .cont
  | ret {v : Value} {d : AV} : VR h v d → FlR h (.ret v) (.ret d)
noncomputable abbrev Ex {KF : Params → Frag} (g : Gd KF) (c : Cx) (st : Stmt) := Tri g c FlR (exec st c.env)
noncomputable abbrev Exs {KF : Params → Frag} (g : Gd KF) (c : Cx) (st : List Stmt) := Tri g c FlR (execs st c.env)

noncomputable def Op1 {KF : Params → Frag} (g : Gd KF) (c : Cx) {α β : Type} (V : Heap → α → β → Prop) (f : Value → Sem α) (a : AV) (ρ : Loc) (H : AH) (k : β → Loc → AH → Prop) (x : AV → Loc → AH → Prop) : Prop :=
  ∀ (s : Shared) (X : XH) (Q : α → Shared → Prop) (E : Value → Shared → Prop) (va : Value), Rep g c s.heap ρ H X → VR s.heap va a →
    Qs g c V X s k Q → Es g c X s x E →
    wpAny (model g.prog g.w) c.A (f va) Q E s
noncomputable def OpL {KF : Params → Frag} (g : Gd KF) (c : Cx) {α β : Type} (V : Heap → α → β → Prop) (f : List Value → Sem α) (as : List AV) (ρ : Loc) (H : AH) (k : β → Loc → AH → Prop) (x : AV → Loc → AH → Prop) : Prop :=
  ∀ (s : Shared) (X : XH) (Q : α → Shared → Prop) (E : Value → Shared → Prop) (vs : List Value), Rep g c s.heap ρ H X → VRs s.heap vs as →
    Qs g c V X s k Q → Es g c X s x E →
    wpAny (model g.prog g.w) c.A (f vs) Q E s
noncomputable def Op2 {KF : Params → Frag} (g : Gd KF) (c : Cx) {α β : Type} (V : Heap → α → β → Prop) (f : Value → Value → Sem α) (a b : AV) (ρ : Loc) (H : AH) (k : β → Loc → AH → Prop) (x : AV → Loc → AH → Prop) : Prop :=
  ∀ (s : Shared) (X : XH) (Q : α → Shared → Prop) (E : Value → Shared → Prop) (va vb : Value), Rep g c s.heap ρ H X → VR s.heap va a → VR s.heap vb b →
    Qs g c V X s k Q → Es g c X s x E →
    wpAny (model g.prog g.w) c.A (f va vb) Q E s

end Mine
end

section
open PySem PySem.W PyProof.Rows
set_option Elab.async false
set_option genSizeOf false
set_option linter.unusedVariables false
namespace Mine
section
variable {KF : Params → Frag} {g : Gd KF} {c : Cx} {ρ : Loc} {H : AH} {k : AV → Loc → AH → Prop} {kb : Bool → Loc → AH → Prop} {x : AV → Loc → AH → Prop}

theorem Ev.cint {i : Int} {kd : Nat} {pos : Pos} (h : k (.int i) ρ H) : Ev g c (.Constant (.int i) kd pos) ρ H k x :=
  fun s _ _ _ R q _ => wpAny_Constant_int (q _ _ _ _ _ (Step.tok s _) R (.int _ _) h)
theorem Ev.cstr {y : Str} {kd : Nat} {pos : Pos} (h : k (.str y) ρ H) : Ev g c (.Constant (.str y) kd pos) ρ H k x :=
  fun s _ _ _ R q _ => wpAny_Constant_str (q _ _ _ _ _ (Step.tok s _) R (.str _ _) h)
theorem Ev.cbool {b : Bool} {kd : Nat} {pos : Pos} (h : k (.bool b) ρ H) : Ev g c (.Constant (.bool b) kd pos) ρ H k x :=
  fun s _ _ _ R q _ => wpAny_Constant_bool (q _ _ _ _ _ (Step.refl s) R (.bool _) h)
theorem Ev.cnone {kd : Nat} {pos : Pos} (h : k .none ρ H) : Ev g c (.Constant .none kd pos) ρ H k x :=
  fun s _ _ _ R q _ => wpAny_Constant_none (q _ _ _ _ _ (Step.refl s) R .none h)

theorem Ev.binop {l r : Expr} {op : Operator} {pos : Pos} (h : Ev g c l ρ H (fun a ρ₁ H₁ => Ev g c r ρ₁ H₁ (fun b ρ₂ H₂ => Op2 g c VR (binaryOp op) a b ρ₂ H₂ k x) x) x) :
    Ev g c (.BinOp l op r pos) ρ H k x := fun s X Q E R q e =>
  wpAny_BinOp (h s X _ _ R (fun a a' s₁ ρ₁ H₁ st₁ R₁ va h₁ => h₁ s₁ X _ _ R₁ (fun b b' s₂ ρ₂ H₂ st₂ R₂ vb h₂ =>
    h₂ s₂ X _ _ a b R₂ (va.mono st₂.tup) vb (q.step (st₁.trans st₂)) (e.step (st₁.trans st₂))) (e.step st₁)) e)
theorem Ev.compare1 {l r : Expr} {op : CmpOp} {pos : Pos} (h : Ev g c l ρ H (fun a ρ₁ H₁ => Ev g c r ρ₁ H₁ (fun b ρ₂ H₂ => Op2 g c VR (compareOp op) a b ρ₂ H₂ k x) x) x)
    (hm : behindInMarks op r = false := by kernel_rfl) :
    Ev g c (.Compare l [op] [r] pos) ρ H k x := fun s X Q E R q e =>
  wpAny_Compare1 (h s X _ _ R (fun a a' s₁ ρ₁ H₁ st₁ R₁ va h₁ => h₁ s₁ X _ _ R₁ (fun b b' s₂ ρ₂ H₂ st₂ R₂ vb h₂ =>
    h₂ s₂ X _ _ a b R₂ (va.mono st₂.tup) vb (q.step (st₁.trans st₂)) (e.step (st₁.trans st₂))) (e.step st₁)) e) hm
theorem Ev.unaryop {y : Expr} {op : UnaryOp} {pos : Pos} (h : Ev g c y ρ H (fun a ρ₁ H₁ => Op1 g c VR (unaryOp op) a ρ₁ H₁ k x) x) :
    Ev g c (.UnaryOp op y pos) ρ H k x := fun s X Q E R q e =>
  wpAny_UnaryOp (h s X _ _ R (fun a a' s₁ ρ₁ H₁ st₁ R₁ va h₁ => h₁ s₁ X _ _ a R₁ va (q.step st₁) (e.step st₁)) e)
noncomputable def EvB {KF : Params → Frag} (g : Gd KF) (c : Cx) (op : BoolOp) : List Expr → Loc → AH → (AV → Loc → AH → Prop) → (AV → Loc → AH → Prop) → Prop
  | [], _, _, _, _ => False
  | [e], ρ, H, k, x => Ev g c e ρ H k x
  | e :: e' :: es, ρ, H, k, x => Ev g c e ρ H (fun u ρ₁ H₁ => Op1 g c BR truthy u ρ₁ H₁ (fun t ρ₂ H₂ => if t = (op == .Or) then k u ρ₂ H₂ else EvB g c op (e' :: es) ρ₂ H₂ k x) x) x
theorem Ev.boolop {op : BoolOp} {es : List Expr} {pos : Pos} : ∀ {ρ : Loc} {H : AH}, EvB g c op es ρ H k x → Ev g c (.BoolOp op es pos) ρ H k x := by
  intro ρ H h
  have key : ∀ (es : List Expr) (ρ : Loc) (H : AH), EvB g c op es ρ H k x → Tri g c VR (boolOp pos op (evalEach es c.env)) ρ H k x := by
    intro es
    induction es with
    | nil => intro _ _ h; exact h.elim
    | cons a es ih =>
      cases es with
      | nil => intro ρ H h; exact h
      | cons b es =>
        intro ρ H h s X Q E R q e
        refine wpAny_bind (h s X _ _ R (fun v u s₁ ρ₁ H₁ st₁ R₁ hv h₁ => ?_) e)
        refine wpAny_bind (wpAny_standAt (wpAny_bind (wpAny_holding (h₁ s₁ X _ _ v R₁ hv (fun t t' s₂ ρ₂ H₂ st₂ R₂ ht h₂ => ?_) (e.step st₁)))))
        (first | obtain ⟨_, rfl⟩ := ht.strI | obtain ⟨_, rfl⟩ := ht.intI | obtain rfl := ht.boolI | obtain rfl := ht.noneI | cases ht)
        have fin : t = (op == .Or) → wpAny (model g.prog g.w) c.A (pure v) Q E s₂ := fun e' => by
          rw [if_pos e'] at h₂
          exact wpAny_pure (q _ _ _ _ _ (st₁.trans st₂) R₂ (hv.mono st₂.tup) h₂)
        have go : t ≠ (op == .Or) → wpAny (model g.prog g.w) c.A (boolOp pos op (evalEach (b :: es) c.env)) Q E s₂ := fun e' => by
          rw [if_neg e'] at h₂
          exact ih _ _ h₂ s₂ X _ _ R₂ (q.step (st₁.trans st₂)) (e.step (st₁.trans st₂))
        cases op <;> cases t
        · exact fin rfl
        · exact go (by decide)
        · exact go (by decide)
        · exact fin rfl
  exact key es ρ H h

theorem Ts.value {e : Expr} (h : Ev g c e ρ H (fun u ρ₁ H₁ => Op1 g c BR truthy u ρ₁ H₁ kb x) x)
    (he : ∀ whole, isTrue e c.env whole = (do let v ← whole; standAt e.pos; holding [v] (truthy v)) := by intro _; rfl) : Ts g c e ρ H kb x := fun s X Q E R q er =>
  wpAny_isTrue_value (h s X _ _ R (fun v u s₁ ρ₁ H₁ st₁ R₁ hv h₁ => h₁ s₁ X _ _ v R₁ hv (q.step st₁) (er.step st₁)) er) (he _)
theorem Ts.compare1 {l r : Expr} {op : CmpOp} {pos : Pos} (h : Ev g c l ρ H (fun a ρ₁ H₁ => Ev g c r ρ₁ H₁ (fun b ρ₂ H₂ => Op2 g c VR (compareOp op) a b ρ₂ H₂ (fun u ρ₃ H₃ => Op1 g c BR truthy u ρ₃ H₃ kb x) x) x) x)
    (hm : behindInMarks op r = false := by kernel_rfl) :
    Ts g c (.Compare l [op] [r] pos) ρ H kb x := fun s X Q E R q e =>
  wpAny_isTrue_Compare1 (h s X _ _ R (fun a a' s₁ ρ₁ H₁ st₁ R₁ va h₁ => h₁ s₁ X _ _ R₁ (fun b b' s₂ ρ₂ H₂ st₂ R₂ vb h₂ =>
    h₂ s₂ X _ _ a b R₂ (va.mono st₂.tup) vb (fun u u' s₃ ρ₃ H₃ st₃ R₃ vu h₃ => h₃ s₃ X _ _ u R₃ vu (q.step ((st₁.trans st₂).trans st₃)) (e.step ((st₁.trans st₂).trans st₃))) (e.step (st₁.trans st₂))) (e.step st₁)) e) hm
theorem Ts.not {y : Expr} {pos : Pos} (h : Ts g c y ρ H (fun b ρ₁ H₁ => kb (!b) ρ₁ H₁) x) : Ts g c (.UnaryOp .Not y pos) ρ H kb x := fun s X Q E R q e =>
  wpAny_isTrue_Not (h s X _ _ R (fun v b s₁ ρ₁ H₁ st₁ R₁ hv h₁ => by (first | obtain ⟨_, rfl⟩ := hv.strI | obtain ⟨_, rfl⟩ := hv.intI | obtain rfl := hv.boolI | obtain rfl := hv.noneI | cases hv); exact q _ _ _ _ _ st₁ R₁ rfl h₁) e)

noncomputable def TsA {KF : Params → Frag} (g : Gd KF) (c : Cx) (op : BoolOp) : List Expr → Loc → AH → (Bool → Loc → AH → Prop) → (AV → Loc → AH → Prop) → Prop
  | [], ρ, H, kb, _ => kb (op == .And) ρ H
  | e :: es, ρ, H, kb, x => Ts g c e ρ H (fun b ρ₁ H₁ => if b = (op == .Or) then kb b ρ₁ H₁ else TsA g c op es ρ₁ H₁ kb x) x
theorem Ts.boolop {op : BoolOp} {es : List Expr} {pos : Pos} (h : TsA g c op es ρ H kb x) : Ts g c (.BoolOp op es pos) ρ H kb x := by
  have key : ∀ (es : List Expr) (ρ : Loc) (H : AH), TsA g c op es ρ H kb x → Tri g c BR (allTrue op es c.env) ρ H kb x := by
    intro es
    induction es with
    | nil =>
      intro ρ H h s X Q E R q e
      exact wpAny_pure (q _ _ _ _ _ (Step.refl s) R rfl h)
    | cons a es ih =>
      intro ρ H h s X Q E R q e
      cases op with
      | And =>
        refine wpAny_allTrue_And_cons (h s X _ _ R (fun v b s₁ ρ₁ H₁ st₁ R₁ hv h₁ => ?_) e)
        (first | obtain ⟨_, rfl⟩ := hv.strI | obtain ⟨_, rfl⟩ := hv.intI | obtain rfl := hv.boolI | obtain rfl := hv.noneI | cases hv)
        cases v
        · exact q _ _ _ _ _ st₁ R₁ rfl h₁
        · exact ih _ _ h₁ s₁ X _ _ R₁ (q.step st₁) (e.step st₁)
      | Or =>
        refine wpAny_allTrue_Or_cons (h s X _ _ R (fun v b s₁ ρ₁ H₁ st₁ R₁ hv h₁ => ?_) e)
        (first | obtain ⟨_, rfl⟩ := hv.strI | obtain ⟨_, rfl⟩ := hv.intI | obtain rfl := hv.boolI | obtain rfl := hv.noneI | cases hv)
        cases v
        · exact ih _ _ h₁ s₁ X _ _ R₁ (q.step st₁) (e.step st₁)
        · exact q _ _ _ _ _ st₁ R₁ rfl h₁
  exact fun s X Q E R q e => wpAny_isTrue_BoolOp (key es ρ H h s X Q E R q e)

theorem EvB.one {op : BoolOp} {e : Expr} (h : Ev g c e ρ H k x) : EvB g c op [e] ρ H k x := h
theorem EvB.and {e e' : Expr} {es : List Expr} (h : Ev g c e ρ H (fun u ρ₁ H₁ => Op1 g c BR truthy u ρ₁ H₁ (fun t ρ₂ H₂ => if t = true then EvB g c .And (e' :: es) ρ₂ H₂ k x else k u ρ₂ H₂) x) x) : EvB g c .And (e :: e' :: es) ρ H k x := by
  unfold EvB
  refine Tri.mono h (fun u ρ₁ H₁ h₁ => fun s X Q E v R hv q er => h₁ s X Q E v R hv (fun t t' s' ρ' H' st R' ht hk => q t t' s' ρ' H' st R' ht ?_) er) fun _ _ _ h => h
  cases t' with
  | true => exact hk
  | false => exact hk
theorem EvB.or {e e' : Expr} {es : List Expr} (h : Ev g c e ρ H (fun u ρ₁ H₁ => Op1 g c BR truthy u ρ₁ H₁ (fun t ρ₂ H₂ => if t = true then k u ρ₂ H₂ else EvB g c .Or (e' :: es) ρ₂ H₂ k x) x) x) : EvB g c .Or (e :: e' :: es) ρ H k x := by
  unfold EvB
  refine Tri.mono h (fun u ρ₁ H₁ h₁ => fun s X Q E v R hv q er => h₁ s X Q E v R hv (fun t t' s' ρ' H' st R' ht hk => q t t' s' ρ' H' st R' ht ?_) er) fun _ _ _ h => h
  cases t' with
  | true => exact hk
  | false => exact hk
theorem TsA.nilA (h : kb true ρ H) : TsA g c .And [] ρ H kb x := h
theorem TsA.nilO (h : kb false ρ H) : TsA g c .Or [] ρ H kb x := h
theorem TsA.and {e : Expr} {es : List Expr} (h : Ts g c e ρ H (fun b ρ₁ H₁ => if b = true then TsA g c .And es ρ₁ H₁ kb x else kb false ρ₁ H₁) x) : TsA g c .And (e :: es) ρ H kb x := by
  unfold TsA
  refine Tri.mono h (fun b ρ₁ H₁ h₁ => ?_) fun _ _ _ h => h
  cases b with
  | true => exact h₁
  | false => exact h₁
theorem TsA.or {e : Expr} {es : List Expr} (h : Ts g c e ρ H (fun b ρ₁ H₁ => if b = true then kb true ρ₁ H₁ else TsA g c .Or es ρ₁ H₁ kb x) x) : TsA g c .Or (e :: es) ρ H kb x := by
  unfold TsA
  refine Tri.mono h (fun b ρ₁ H₁ h₁ => ?_) fun _ _ _ h => h
  cases b with
  | true => exact h₁
  | false => exact h₁

theorem Op1.truthy_bool {b : Bool} (h : kb b ρ H) : Op1 g c BR truthy (.bool b) ρ H kb x := fun s X Q E va R hv q e => by
  (first | obtain ⟨_, rfl⟩ := hv.strI | obtain ⟨_, rfl⟩ := hv.intI | obtain rfl := hv.boolI | obtain rfl := hv.noneI | cases hv)
  exact wpAny_truthy_bool (q _ _ _ _ _ (Step.refl s) R rfl h)
end
end Mine
end

section
open PySem PySem.W PyProof.Rows
set_option Elab.async false
set_option genSizeOf false
set_option linter.unusedVariables false
namespace Mine
section
variable {KF : Params → Frag} {g : Gd KF} {c : Cx} {ρ : Loc} {H : AH} {X : XH} {k : AV → Loc → AH → Prop} {kb : Bool → Loc → AH → Prop} {x : AV → Loc → AH → Prop}

theorem Rep.fr {cx : Cx} {h : Heap} (R : Rep g cx h ρ H X) : ∃ m, Fr g.hb cx.env.locals h m ∧ LocR h m cx.env.cells ρ :=
  let ⟨m, hn, hl⟩ := R.f.ns
  ⟨m, ⟨hn, R.o.keep, R.f.nL.1⟩, hl⟩
theorem Rep.K {cx : Cx} {h : Heap} (R : Rep g cx h ρ H X) : (KF g.w.params).In h := g.X.keeps R.o.keep

theorem Ev.local {y : Str} {pos : Pos} {v : AV} (hv : ρ y = some v) (h : k v ρ H) (hc : c.env.cells.lookup y = none := by kernel_rfl)
    (hk : c.env.scope.kind = .function := by kernel_rfl) (hx : c.env.kindOf y = some .local := by kernel_rfl) (hd : (y == ("__debug__" : Str)) = false := by kernel_rfl) : Ev g c (.Name y pos) ρ H k x := fun s X Q E R q e => by
  obtain ⟨m, hn, hl⟩ := R.f.ns
  have z := hl y v hv
  rw [hc] at z
  obtain ⟨cv, hm, hr⟩ := z
  exact wpAny_Name (wpAny_loadName_local hk hx hn hm (q _ _ _ _ _ (Step.refl s) R hr h)) hd
theorem Ev.cell {y : Str} {pos : Pos} {v : AV} {a : Addr} (hv : ρ y = some v) (h : k v ρ H) (hc : c.env.cells.lookup y = some a := by kernel_rfl)
    (hk : c.env.scope.kind = .function := by kernel_rfl) (hx : c.env.kindOf y = some .cell := by kernel_rfl) (hd : (y == ("__debug__" : Str)) = false := by kernel_rfl) : Ev g c (.Name y pos) ρ H k x := fun s X Q E R q e => by
  obtain ⟨m, hn, hl⟩ := R.f.ns
  have z := hl y v hv
  rw [hc] at z
  obtain ⟨cv, hm, hr⟩ := z
  exact wpAny_Name (wpAny_loadName_cell hk hx hc hm (q _ _ _ _ _ (Step.refl s) R hr h)) hd
noncomputable def GV {KF : Params → Frag} (g : Gd KF) (v : Value) (d : AV) : Prop := ∀ h : Heap, (∀ b o, g.hb.get? b = some o → h.get? b = some o) → VR h v d
theorem Ev.global {y : Str} {pos : Pos} {v : Value} {d : AV} (e : nsIn (KF g.w.params) mainGlobals y = some (some v)) (hv : GV g v d) (h : k d ρ H)
    (hg : c.env.globals = mainGlobals := by kernel_rfl) (hk : c.env.scope.kind = .function := by kernel_rfl) (hx : c.env.kindOf y = some .globalImplicit := by kernel_rfl) (hd : (y == ("__debug__" : Str)) = false := by kernel_rfl) :
    Ev g c (.Name y pos) ρ H k x := fun s X Q E R q er => by
  obtain ⟨m, F, hl⟩ := R.fr
  exact nameG_K F g.X (topRead_of g.T) e (q _ _ _ _ _ (Step.refl s) R (hv _ R.o.keep) h) hg hk hx hd
theorem Ev.builtin {y : Str} {pos : Pos} {v : Value} {d : AV} (e : nsIn (KF g.w.params) mainGlobals y = some none) (hb : bootBuiltins y = some v) (hv : ∀ h, VR h v d) (h : k d ρ H) (hn : (y == ("__name__" : Str)) = false := by kernel_rfl)
    (hg : c.env.globals = mainGlobals := by kernel_rfl) (hbu : c.env.builtins = builtinsNs := by kernel_rfl) (hk : c.env.scope.kind = .function := by kernel_rfl) (hx : c.env.kindOf y = some .globalImplicit := by kernel_rfl) (hd : (y == ("__debug__" : Str)) = false := by kernel_rfl) :
    Ev g c (.Name y pos) ρ H k x := fun s X Q E R q er =>
  Calls.Name_function_global hk hx (Calls.loadGlobal_builtin (env := c.env) (by rw [hg]; exact g.T.g.keeps R.o.keep) (mg_none_of g.X g.T.g e) (by rw [hbu]; exact g.T.b.keeps R.o.keep) ((g.T.builtins y (beq_eq_false_iff_ne.mp hn)).trans hb)
    (q _ _ _ _ _ (Step.refl s) R (hv _) h)) hd


theorem DictOfH.keeps {h h' : Heap} {a : Addr} {ys : List (List Int × Addr × Value)} (z : h.DictOfH (tupleKind (intKind g.prog g.w)) a ys) (kp : TupKeep h h') (ka : ∀ o, h.get? a = some o → h'.get? a = some o) :
    h'.DictOfH (tupleKind (intKind g.prog g.w)) a ys := by
  obtain ⟨o, es, ep, h1, h2, h3, h4, h5, h6⟩ := z
  refine ⟨o, es, ep, ka _ h1, h2, h3, h4, fun y hy => ?_, h6⟩
  obtain ⟨o', its, n, q1, q2, q3, q4⟩ := h5 y hy
  exact ⟨o', its, n, kp _ _ _ _ q1 q2 q3, q2, q3, q4⟩
theorem DictOf.keeps {K : Type} [DecidableEq K] {knd : KeyKind g.prog g.w K} {h h' : Heap} {a : Addr} {f : List (K × Value)} (z : h.DictOf knd a f) (ka : ∀ o, h.get? a = some o → h'.get? a = some o) : h'.DictOf knd a f :=
  let ⟨o, es, ep, h1, r⟩ := z
  ⟨o, es, ep, ka _ h1, r⟩

theorem OK.keep {h h' : Heap} {a : Addr} {o : AObj} (z : OK g h H a o) (kp : TupKeep h h') (ka : ∀ b ob, (b = a ∨ H b = some (.own a)) → ownOf o = Option.none → h.get? b = some ob → h'.get? b = some ob) : OK g h' H a o := by
  cases o with
  | inst C d fs =>
    obtain ⟨h1, ⟨es, n, h2, h3⟩, h4⟩ := z
    exact ⟨ka _ _ (.inl rfl) rfl h1, ⟨es, n, ka _ _ (.inr h4) rfl h2, h3.mono kp⟩, h4⟩
  | own b => exact z
  | exc C d T ctx fs =>
    obtain ⟨⟨ob, vs, h1, r⟩, ⟨es, n, h2, h3⟩, h4, h5⟩ := z
    exact ⟨⟨ob, vs, ka _ _ (.inl rfl) rfl h1, r⟩, ⟨es, n, ka _ _ (.inr h4) rfl h2, h3.mono kp⟩, h4, h5⟩
  | exc0 C =>
    obtain ⟨ob, vs, h1, r⟩ := z
    exact ⟨ob, vs, ka _ _ (.inl rfl) rfl h1, r⟩
  | tb =>
    obtain ⟨ob, ts, v, h1, r⟩ := z
    exact ⟨ob, ts, v, ka _ _ (.inl rfl) rfl h1, r⟩
  | list vs =>
    obtain ⟨its, n, h1, h2⟩ := z
    exact ⟨its, n, ka _ _ (.inl rfl) rfl h1, h2.mono kp⟩
  | dictS f =>
    obtain ⟨cf, h1, h2⟩ := z
    exact ⟨cf, DictOf.keeps h1 fun o => ka _ _ (.inl rfl) rfl, h2.mono kp⟩
  | dictI f =>
    obtain ⟨cf, h1, h2⟩ := z
    exact ⟨cf, DictOf.keeps h1 fun o => ka _ _ (.inl rfl) rfl, h2.mono kp⟩
  | dictT xs =>
    obtain ⟨ys, h1, h2⟩ := z
    exact ⟨ys, DictOfH.keeps h1 kp fun o => ka _ _ (.inl rfl) rfl, h2.mono kp⟩

theorem own_of {o o' : AObj} {a : Addr} (ho : ownTb o' = ownTb o) (e : o = .own a) : o' = .own a := by
  subst e
  have h := congrArg Prod.fst ho
  cases o' with
  | own c => cases h; rfl
  | _ => cases h
theorem tb_of {o o' : AObj} (ho : ownTb o' = ownTb o) (e : o = .tb) : o' = .tb := by
  subst e
  have h := congrArg Prod.snd ho
  cases o' with
  | tb => rfl
  | _ => cases h
theorem OK.upd {h : Heap} {a b : Addr} {o o₀ o' : AObj} (z : OK g h H b o) (hH : H a = some o₀) (hi : insOf o' = insOf o₀) (ho : ownTb o' = ownTb o₀) : OK g h (upd H a o') b o := by
  have own : ∀ {d c : Addr}, H d = some (.own c) → Mine.upd H a o' d = some (.own c) := fun {d c} e => by
    by_cases q : d = a
    · subst q
      rw [hH] at e
      rw [upd_same, own_of ho (Option.some.inj e)]
    · exact (upd_ne q).trans e
  have tb : ∀ {d : Addr}, H d = some .tb → Mine.upd H a o' d = some .tb := fun {d} e => by
    by_cases q : d = a
    · subst q
      rw [hH] at e
      rw [upd_same, tb_of ho (Option.some.inj e)]
    · exact (upd_ne q).trans e
  cases o with
  | inst C d fs =>
    obtain ⟨h1, h2, h4⟩ := z
    exact ⟨h1, h2, own h4⟩
  | exc C d T ctx fs =>
    obtain ⟨h1, h2, h4, h5⟩ := z
    exact ⟨h1, h2, own h4, fun t e => tb (h5 t e)⟩
  | own b' =>
    obtain ⟨C, ob, h1, h2⟩ := z
    by_cases q : b' = a
    · subst q
      rw [hH] at h1
      cases h1
      exact ⟨C, o', upd_same _ _ _, hi.trans h2⟩
    · exact ⟨C, ob, (upd_ne q).trans h1, h2⟩
  | list vs => exact z
  | tb => exact z
  | exc0 C => exact z
  | dictS f => exact z
  | dictI f => exact z
  | dictT xs => exact z
theorem OK.new {h : Heap} {a b : Addr} {o o' : AObj} (z : OK g h H b o) (hH : H a = Option.none) : OK g h (Mine.upd H a o') b o := by
  have up : ∀ {d : Addr} {x : AObj}, H d = some x → Mine.upd H a o' d = some x := fun {d x} e => (upd_ne fun q => by rw [q, hH] at e; cases e).trans e
  cases o with
  | inst C d fs =>
    obtain ⟨h1, h2, h4⟩ := z
    exact ⟨h1, h2, up h4⟩
  | exc C d T ctx fs =>
    obtain ⟨h1, h2, h4, h5⟩ := z
    exact ⟨h1, h2, up h4, fun t e => up (h5 t e)⟩
  | own b' =>
    obtain ⟨C, ob, h1, h2⟩ := z
    exact ⟨C, ob, up h1, h2⟩
  | list vs => exact z
  | tb => exact z
  | exc0 C => exact z
  | dictS f => exact z
  | dictI f => exact z
  | dictT xs => exact z

theorem OK.there {h : Heap} {a : Addr} {o : AObj} (z : OK g h H a o) (ho : ownOf o = Option.none) : ∃ ob, h.get? a = some ob ∧ ob.cls ≠ .type "tuple" := by
  cases o with
  | inst C d fs => exact ⟨_, z.1, by intro h; cases h⟩
  | own b => cases ho
  | exc C d T ctx fs => obtain ⟨⟨o, vs, h1, h2, _⟩, _⟩ := z; exact ⟨o, h1, by rw [h2]; intro h; cases h⟩
  | exc0 C => obtain ⟨o, vs, h1, h2, _⟩ := z; exact ⟨o, h1, by rw [h2]; intro h; cases h⟩
  | tb => obtain ⟨o, ts, v, h1, h2, _⟩ := z; exact ⟨o, h1, by rw [h2]; simp⟩
  | list vs => obtain ⟨its, n, h1, _⟩ := z; exact ⟨_, h1, by simp⟩
  | dictS f => obtain ⟨cf, ⟨o, es, ep, h1, h2, _⟩, _⟩ := z; exact ⟨o, h1, by rw [h2.1]; simp⟩
  | dictI f => obtain ⟨cf, ⟨o, es, ep, h1, h2, _⟩, _⟩ := z; exact ⟨o, h1, by rw [h2.1]; simp⟩
  | dictT xs => obtain ⟨ys, ⟨o, es, ep, h1, h2, _⟩, _⟩ := z; exact ⟨o, h1, by rw [h2.1]; simp⟩
theorem Rep0.there {h : Heap} (R : Rep0 g h H X) {a : Addr} {o : AObj} (e : H a = some o) : ∃ ob, h.get? a = some ob ∧ ob.cls ≠ .type "tuple" := by
  have z := (R.obj a o e).2
  cases o with
  | own b =>
    obtain ⟨C, ob, h1, h2⟩ := z
    have w := (R.obj b _ h1).2
    cases ob with
    | inst C' d fs =>
      cases h2
      obtain ⟨_, ⟨es, n, h2, _⟩, _⟩ := w
      exact ⟨_, h2, by simp⟩
    | exc C' d T ctx fs =>
      cases h2
      obtain ⟨_, ⟨es, n, h2, _⟩, _⟩ := w
      exact ⟨_, h2, by simp⟩
    | _ => cases h2
  | _ => exact z.there rfl
theorem Rep0.lt {h : Heap} (R : Rep0 g h H X) {a : Addr} {o : AObj} (e : H a = some o) : a < h.objs.size :=
  let ⟨_, h1, _⟩ := R.there e
  Heap.lt_size h1
theorem Rep0.fresh {h : Heap} (R : Rep0 g h H X) : H h.objs.size = Option.none := by
  cases q : H h.objs.size with
  | none => rfl
  | some o => exact absurd (R.lt q) (Nat.lt_irrefl _)

theorem LocR.mono {h h' : Heap} {m : Str → Option Value} {cl : List (Str × Addr)} (z : LocR h m cl ρ) (kp : TupKeep h h') (kc : ∀ y a v, cl.lookup y = some a → h.IsCell a v → h'.IsCell a v) : LocR h' m cl ρ := fun y d e => by
  have q := z y d e
  cases hc : cl.lookup y with
  | none => rw [hc] at q; obtain ⟨v, q1, q2⟩ := q; exact ⟨v, q1, q2.mono kp⟩
  | some a => rw [hc] at q; obtain ⟨v, q1, q2⟩ := q; exact ⟨v, kc y a _ hc q1, q2.mono kp⟩
theorem IsCell.at {h h' : Heap} {a : Addr} {v : Option Value} (z : h.IsCell a v) (k : ∀ o, h.get? a = some o → h'.get? a = some o) : h'.IsCell a v := let ⟨o, h1, h2⟩ := z; ⟨o, k _ h1, h2⟩

theorem Rep.change {cx : Cx} {h h' : Heap} (R : Rep g cx h ρ H X) {a d : Addr} {o₀ o' : AObj} (hH : H a = some o₀) (hd : d = a ∨ H d = some (.own a)) (hn : ownOf o₀ = Option.none) (hs : Heap.ExtBut d h h') (hz : h.objs.size ≤ h'.objs.size)
    (hi : insOf o' = insOf o₀) (ho : ownTb o' = ownTb o₀) (z : TupKeep h h' → OK g h' (Mine.upd H a o') a o') : Rep g cx h' ρ (Mine.upd H a o') X ∧ TupKeep h h' := by
  have hHd : ∃ od, H d = some od := hd.elim (fun q => ⟨_, q ▸ hH⟩) fun q => ⟨_, q⟩
  obtain ⟨od, hHd⟩ := hHd
  obtain ⟨obd, hod, hcd⟩ := R.o.there hHd
  have kp : TupKeep h h' := .extBut hs hod (.of_cls hcd)
  have ld := (R.o.obj d od hHd).1
  have nd : ∀ b, H b = Option.none → b ≠ d := fun b e q => by rw [q, hHd] at e; cases e
  have na : ∀ b, H b = Option.none → Mine.upd H a o' b = Option.none := fun b e => (upd_ne fun q => by rw [q, hH] at e; cases e).trans e
  refine ⟨⟨⟨fun b ob e => hs b ob (fun q => ?_) (R.o.keep b ob e), Nat.le_trans R.o.size hz, fun b o e => ?_, fun b ob e => ?_⟩, ⟨?_, ⟨R.f.nL.1, na _ R.f.nL.2.1, R.f.nL.2.2⟩, fun y c e => ?_, R.f.inj, R.f.stk⟩⟩, kp⟩
  · subst q; exact absurd (Heap.lt_size e) (Nat.not_lt.mpr ld)
  · by_cases q : b = a
    · subst q
      rw [upd_same] at e
      cases e
      exact ⟨(R.o.obj _ _ hH).1, z kp⟩
    · rw [upd_ne q] at e
      have w := R.o.obj b o e
      refine ⟨w.1, OK.upd (w.2.keep kp fun b' ob hb hn' e' => hs b' ob (fun q' => ?_) e') hH hi ho⟩
      subst q'
      rcases hb with rfl | hb
      · rcases hd with hd | hd
        · exact q hd
        · rw [hd] at e; cases e; cases hn'
      · rcases hd with hd | hd
        · rw [hd, hH] at hb; cases hb; cases hn
        · rw [hd] at hb; cases hb; exact q rfl
  · have w := R.o.ext b ob e
    exact ⟨w.1.keep fun o => hs b o (nd b w.2.1), na b w.2.1, w.2.2⟩
  · obtain ⟨m, h1, h2⟩ := R.f.ns
    refine ⟨m, h1.extBut hs (nd _ R.f.nL.2.1), h2.mono kp fun y c v e q => ?_⟩
    exact IsCell.at q fun o => hs c o (nd c (R.f.cl y c e).2.1)
  · obtain ⟨h1, h2, h3, h4, v, h5⟩ := R.f.cl y c e
    exact ⟨h1, na c h2, h3, h4, v, IsCell.at h5 fun o => hs c o (nd c h2)⟩

theorem Rep.grow {cx : Cx} {h h' : Heap} (R : Rep g cx h ρ H X) (hk : ∀ b o, h.get? b = some o → h'.get? b = some o) (hz : h.objs.size ≤ h'.objs.size) : Rep g cx h' ρ H X := by
  have kp : TupKeep h h' := .of_keep hk
  refine ⟨⟨fun b o e => hk b o (R.o.keep b o e), Nat.le_trans R.o.size hz, fun b o e => ⟨(R.o.obj b o e).1, (R.o.obj b o e).2.keep kp fun b' ob _ _ => hk b' ob⟩, fun b o e => ⟨(R.o.ext b o e).1.keep (hk b), (R.o.ext b o e).2⟩⟩, ⟨?_, R.f.nL, fun y c e => ?_, R.f.inj, R.f.stk⟩⟩
  · obtain ⟨m, h1, h2⟩ := R.f.ns
    exact ⟨m, h1.keeps hk, h2.mono kp fun y c v _ q => IsCell.at q (hk c)⟩
  · obtain ⟨h1, h2, h3, h4, v, h5⟩ := R.f.cl y c e
    exact ⟨h1, h2, h3, h4, v, IsCell.at h5 (hk c)⟩
theorem Rep.push {cx : Cx} {h : Heap} (R : Rep g cx h ρ H X) (ob : Obj) : Rep g cx (h.push ob) ρ H X :=
  R.grow (fun _ _ e => Heap.get?_push_of_some _ e) (by rw [Heap.size_push]; exact Nat.le_succ _)
theorem Rep.track {cx : Cx} {h : Heap} (R : Rep g cx h ρ H X) {a : Addr} {o' : AObj} (hH : H a = Option.none) (hX : X a = Option.none) (hL : cx.env.locals ≠ a) (hc : ∀ y c, cx.env.cells.lookup y = some c → c ≠ a) (hb : g.hb.objs.size ≤ a) (z : OK g h (Mine.upd H a o') a o') :
    Rep g cx h ρ (Mine.upd H a o') X := by
  refine ⟨⟨R.o.keep, R.o.size, fun b o e => ?_, fun b ob e => ⟨(R.o.ext b ob e).1, (upd_ne fun q => by rw [q, hX] at e; cases e).trans (R.o.ext b ob e).2.1, (R.o.ext b ob e).2.2⟩⟩,
    ⟨R.f.ns, ⟨R.f.nL.1, (upd_ne hL).trans R.f.nL.2.1, R.f.nL.2.2⟩, fun y c e => ?_, R.f.inj, R.f.stk⟩⟩
  · by_cases q : b = a
    · subst q; rw [upd_same] at e; cases e; exact ⟨hb, z⟩
    · rw [upd_ne q] at e
      exact ⟨(R.o.obj b o e).1, (R.o.obj b o e).2.new hH⟩
  · obtain ⟨h1, h2, r⟩ := R.f.cl y c e
    exact ⟨h1, (upd_ne (hc y c e)).trans h2, r⟩
theorem Rep.freshX {cx : Cx} {h : Heap} (R : Rep g cx h ρ H X) : X h.objs.size = Option.none := by
  cases q : X h.objs.size with
  | none => rfl
  | some o => exact absurd (R.o.ext _ o q).1.lt (Nat.lt_irrefl _)
theorem Rep.freshL {cx : Cx} {h : Heap} (R : Rep g cx h ρ H X) : cx.env.locals < h.objs.size := let ⟨_, h1, _⟩ := R.f.ns; h1.lt
theorem Rep.freshC {cx : Cx} {h : Heap} (R : Rep g cx h ρ H X) {y : Str} {a : Addr} (e : cx.env.cells.lookup y = some a) : a < h.objs.size :=
  let ⟨_, _, _, _, _, _, h5, _⟩ := R.f.cl y a e
  Heap.lt_size h5
theorem Rep.alloc {cx : Cx} {h : Heap} (R : Rep g cx h ρ H X) {ob : Obj} {o' : AObj} (z : OK g (h.push ob) (Mine.upd H h.objs.size o') h.objs.size o') : Rep g cx (h.push ob) ρ (Mine.upd H h.objs.size o') X :=
  (R.push ob).track R.o.fresh R.freshX (Nat.ne_of_lt R.freshL) (fun y c e => Nat.ne_of_lt (R.freshC e)) R.o.size z

theorem Rep.store {cx : Cx} {h h' : Heap} {m : Str → Option Value} {y : Str} {v : Value} {d : AV} (R : Rep g cx h ρ H X) (hm : h.Ns cx.env.locals m) (hl : LocR h m cx.env.cells ρ) (hc : cx.env.cells.lookup y = Option.none)
    (hn : h'.Ns cx.env.locals (fun z => if z = y then some v else m z)) (hs : Heap.SameBut cx.env.locals h h') (hv : VR h v d) : Rep g cx h' (setL ρ y d) H X ∧ TupKeep h h' := by
  obtain ⟨oL, es, ep, hL, hLd, _⟩ := hm
  have kp : TupKeep h h' := .extBut hs.extBut hL (.of_dict hLd)
  have nd : ∀ b o, H b = some o → b ≠ cx.env.locals := fun b o e q => by rw [q, R.f.nL.2.1] at e; cases e
  have hz : h.objs.size ≤ h'.objs.size := Nat.le_of_eq hs.1.symm
  refine ⟨⟨⟨fun b ob e => hs.extBut b ob (fun q => ?_) (R.o.keep b ob e), Nat.le_trans R.o.size hz, fun b o e => ?_, fun b ob e => ?_⟩, ⟨⟨_, hn, fun z u e => ?_⟩, R.f.nL, fun z c e => ?_, R.f.inj, R.f.stk⟩⟩, kp⟩
  · subst q; exact absurd (Heap.lt_size e) (Nat.not_lt.mpr R.f.nL.1)
  · have w := R.o.obj b o e
    refine ⟨w.1, w.2.keep kp fun b' ob hb hn' e' => hs.extBut b' ob ?_ e'⟩
    rcases hb with rfl | hb
    · exact nd _ _ e
    · exact nd _ _ hb
  · have w := R.o.ext b ob e
    exact ⟨w.1.keep fun o => hs.extBut b o (fun q => by rw [q, R.f.nL.2.2] at e; cases e), w.2⟩
  · by_cases q : z = y
    · subst q
      rw [setL_same] at e
      cases e
      rw [hc]
      exact ⟨v, if_pos rfl, hv.mono kp⟩
    · rw [setL_ne q] at e
      have w := hl z u e
      cases hz' : cx.env.cells.lookup z with
      | none =>
        rw [hz'] at w
        obtain ⟨v', w1, w2⟩ := w
        exact ⟨v', (if_neg q).trans w1, w2.mono kp⟩
      | some a =>
        rw [hz'] at w
        obtain ⟨v', w1, w2⟩ := w
        exact ⟨v', IsCell.at w1 fun o => hs.extBut a o (R.f.cl z a hz').2.2.2.1, w2.mono kp⟩
  · obtain ⟨h1, h2, h3, h4, v', h5⟩ := R.f.cl z c e
    exact ⟨h1, h2, h3, h4, v', IsCell.at h5 fun o => hs.extBut c o h4⟩
theorem Rep.storeC {cx : Cx} {h h' : Heap} {y : Str} {v : Value} {d : AV} {a : Addr} (R : Rep g cx h ρ H X) (hf : cx.env.func ≠ Option.none) (hc : cx.env.cells.lookup y = some a)
    (hn : h'.IsCell a (some v)) (hs : Heap.SameBut a h h') (hv : VR h v d) : Rep g cx h' (setL ρ y d) H X ∧ TupKeep h h' := by
  obtain ⟨c1, c2, c3, c4, v₀, oc, hoc, hdc⟩ := R.f.cl y a hc
  have kp : TupKeep h h' := .extBut hs.extBut hoc (.of_cell hdc)
  have nd : ∀ b o, H b = some o → b ≠ a := fun b o e q => by rw [q, c2] at e; cases e
  have hz : h.objs.size ≤ h'.objs.size := Nat.le_of_eq hs.1.symm
  obtain ⟨m, hm, hl⟩ := R.f.ns
  refine ⟨⟨⟨fun b ob e => hs.extBut b ob (fun q => ?_) (R.o.keep b ob e), Nat.le_trans R.o.size hz, fun b o e => ?_, fun b ob e => ?_⟩, ⟨⟨m, hm.extBut hs.extBut (Ne.symm c4), fun z u e => ?_⟩, R.f.nL, fun z c e => ?_, R.f.inj, R.f.stk⟩⟩, kp⟩
  · subst q; exact absurd (Heap.lt_size e) (Nat.not_lt.mpr c1)
  · have w := R.o.obj b o e
    refine ⟨w.1, w.2.keep kp fun b' ob hb hn' e' => hs.extBut b' ob ?_ e'⟩
    rcases hb with rfl | hb
    · exact nd _ _ e
    · exact nd _ _ hb
  · have w := R.o.ext b ob e
    exact ⟨w.1.keep fun o => hs.extBut b o (fun q => by rw [q, c3 hf] at e; cases e), w.2⟩
  · by_cases q : z = y
    · subst q
      rw [setL_same] at e
      cases e
      rw [hc]
      exact ⟨v, hn, hv.mono kp⟩
    · rw [setL_ne q] at e
      have w := hl z u e
      cases hz' : cx.env.cells.lookup z with
      | none =>
        rw [hz'] at w
        obtain ⟨v', w1, w2⟩ := w
        exact ⟨v', w1, w2.mono kp⟩
      | some b =>
        rw [hz'] at w
        obtain ⟨v', w1, w2⟩ := w
        exact ⟨v', IsCell.at w1 fun o => hs.extBut b o fun q' => q (R.f.inj z y a (q' ▸ hz') hc), w2.mono kp⟩
  · obtain ⟨h1, h2, h3, h4, v', h5⟩ := R.f.cl z c e
    by_cases q : c = a
    · subst q; exact ⟨h1, h2, h3, h4, _, hn⟩
    · exact ⟨h1, h2, h3, h4, v', IsCell.at h5 fun o => hs.extBut c o q⟩

theorem storeL {s : Shared} {Q : Unit → Shared → Prop} {E : Value → Shared → Prop} {y : Str} {v : Value} {d : AV} (R : Rep g c s.heap ρ H X) (hv : VR s.heap v d)
    (h : ∀ s', Step s s' → Rep g c s'.heap (setL ρ y d) H X → Q () s') (hc : c.env.cells.lookup y = Option.none) (hx : c.env.kindOf y = some .local) (hk : c.env.scope.kind = .function) : wpAny (model g.prog g.w) c.A (storeName c.env y v) Q E s := by
  obtain ⟨m, hm, hl⟩ := R.f.ns
  refine wpAny_storeName_local hx hm (fun h' hn hs => ?_) (by rw [hk]; rfl)
  obtain ⟨R', kp⟩ := R.store hm hl hc hn hs hv
  exact h _ (Step.heap s kp (Nat.le_of_eq hs.1.symm)) R'
theorem storeC {s : Shared} {Q : Unit → Shared → Prop} {E : Value → Shared → Prop} {y : Str} {v : Value} {d : AV} {a : Addr} (R : Rep g c s.heap ρ H X) (hv : VR s.heap v d)
    (h : ∀ s', Step s s' → Rep g c s'.heap (setL ρ y d) H X → Q () s') (hc : c.env.cells.lookup y = some a) (hx : c.env.kindOf y = some .cell) (hf : c.env.func ≠ Option.none) (hk : c.env.scope.kind = .function) : wpAny (model g.prog g.w) c.A (storeName c.env y v) Q E s := by
  obtain ⟨_, _, _, _, v₀, hcell⟩ := R.f.cl y a hc
  refine wpAny_storeName_cell hk hx hc hcell (fun h' hn hs => ?_)
  obtain ⟨R', kp⟩ := R.storeC hf hc hn hs hv
  exact h _ (Step.heap s kp (Nat.le_of_eq hs.1.symm)) R'
noncomputable def Stores (c : Cx) (y : Str) : Prop := c.env.scope.kind = .function ∧ ((c.env.cells.lookup y = Option.none ∧ c.env.kindOf y = some .local) ∨ ∃ a, c.env.cells.lookup y = some a ∧ c.env.kindOf y = some .cell ∧ c.env.func ≠ Option.none)
theorem storeA {s : Shared} {Q : Unit → Shared → Prop} {E : Value → Shared → Prop} {y : Str} {v : Value} {d : AV} (hS : Stores c y) (R : Rep g c s.heap ρ H X) (hv : VR s.heap v d)
    (h : ∀ s', Step s s' → Rep g c s'.heap (setL ρ y d) H X → Q () s') : wpAny (model g.prog g.w) c.A (storeName c.env y v) Q E s := by
  obtain ⟨hk, ⟨h1, h2⟩ | ⟨a, h1, h2, hf⟩⟩ := hS
  · exact storeL R hv h h1 h2 hk
  · exact storeC R hv h h1 h2 hf hk
end
end Mine
end

section
open PySem PySem.W PyProof.Rows
set_option Elab.async false
set_option genSizeOf false
set_option linter.unusedVariables false
namespace Mine
section
variable {KF : Params → Frag} {g : Gd KF} {c : Cx} {ρ : Loc} {H : AH} {X : XH} {k : AF → Loc → AH → Prop} {x : AV → Loc → AH → Prop}

theorem Exs.nil (h : k .next ρ H) : Exs g c [] ρ H k x := fun s X Q E R q e => wpAny_execs_nil (q _ _ _ _ _ (Step.refl s) R .next h)
noncomputable def Then {KF : Params → Frag} (g : Gd KF) (c : Cx) (rest : List Stmt) (k : AF → Loc → AH → Prop) (x : AV → Loc → AH → Prop) (f : AF) (ρ : Loc) (H : AH) : Prop := match f with
  | .next => Exs g c rest ρ H k x
  | f => k f ρ H
theorem Exs.cons {st : Stmt} {rest : List Stmt} (h : Ex g c st ρ H (Then g c rest k x) x) : Exs g c (st :: rest) ρ H k x := fun s X Q E R q e => by
  refine wpAny_execs_cons (h s X _ _ R (fun f f' s₁ ρ₁ H₁ st₁ R₁ hf h₁ => ?_) e)
  cases hf with
  | next => exact h₁ s₁ X _ _ R₁ (q.step st₁) (e.step st₁)
  | brk => exact q _ _ _ _ _ st₁ R₁ .brk h₁
  | cont => exact q _ _ _ _ _ st₁ R₁ .cont h₁
  | ret hv => exact q _ _ _ _ _ st₁ R₁ (.ret hv) h₁

theorem Ex.expr {e : Expr} {pos : Pos} (h : Ev g c e ρ H (fun _ => k .next) x) (hi : interactive c.env = false := by kernel_rfl) (hs : swapsWith e none pos.line c.env = pure false := by rfl) :
    Ex g c (.Expr e pos) ρ H k x := fun s X Q E R q er => by
  rw [exec_Expr c.env e pos hi hs]
  exact wpAny_bind (wpAny_standAt (wpAny_bind (h s X _ _ R (fun v b s₁ ρ₁ H₁ st₁ R₁ hv h₁ => wpAny_dropValue (q _ _ _ _ _ st₁ R₁ .next h₁)) er)))
theorem Ex.ret {e : Expr} {pos : Pos} (h : Ev g c e ρ H (fun v => k (.ret v)) x) : Ex g c (.Return (some e) pos) ρ H k x := fun s X Q E R q er =>
  wpAny_Return_some (h s X _ _ R (fun v b s₁ ρ₁ H₁ st₁ R₁ hv h₁ => q _ _ _ _ _ st₁ R₁ (.ret hv) h₁) er)
theorem Ex.ret0 {pos : Pos} (h : k (.ret .none) ρ H) : Ex g c (.Return none pos) ρ H k x := fun s X Q E R q er =>
  wpAny_Return_none (q _ _ _ _ _ (Step.refl s) R (.ret .none) h)
theorem Ex.ife {t : Expr} {a b : List Stmt} {pos : Pos} (h : Ts g c t ρ H (fun v ρ₁ H₁ => if v = true then Exs g c a ρ₁ H₁ k x else Exs g c b ρ₁ H₁ k x) x) :
    Ex g c (.If t a b pos) ρ H k x := fun s X Q E R q e =>
  wpAny_If (h s X _ _ R (fun v b s₁ ρ₁ H₁ st₁ R₁ hv h₁ => by
    subst hv
    split at h₁ <;> rename_i hb
    · rw [if_pos hb]; exact h₁ s₁ X _ _ R₁ (q.step st₁) (e.step st₁)
    · rw [if_neg hb]; exact h₁ s₁ X _ _ R₁ (q.step st₁) (e.step st₁)) e)

theorem Ex.assign {y : Str} {pos' pos : Pos} {e : Expr} (h : Ev g c e ρ H (fun v ρ₁ H₁ => k .next (setL ρ₁ y v) H₁) x) (hS : Stores c y)
    (hs : swapsWith e (some (.Name y pos')) pos.line c.env = pure false := by kernel_rfl) : Ex g c (.Assign [.Name y pos'] e pos) ρ H k x := fun s X Q E R q er =>
  wpAny_Assign_Name (h s X _ _ R (fun v b s₁ ρ₁ H₁ st₁ R₁ hv h₁ => storeA hS R₁ hv fun s₂ st₂ R₂ => q _ _ _ _ _ (st₁.trans st₂) R₂ .next h₁) er) hs
theorem Ex.aug {y : Str} {pos' pos : Pos} {op : Operator} {e : Expr} {v₀ : AV} (hv₀ : ρ y = some v₀)
    (h : Ev g c e ρ H (fun v ρ₁ H₁ => Op2 g c VR (inplaceOp op) v₀ v ρ₁ H₁ (fun r ρ₂ H₂ => k .next (setL ρ₂ y r) H₂) x) x) (hS : Stores c y) :
    Ex g c (.AugAssign (.Name y pos') op e pos) ρ H k x := fun s X Q E R q er => by
  have ld : ∀ (Q' : Value → Shared → Prop), (∀ v, VR s.heap v v₀ → Q' v s) → wpAny (model g.prog g.w) c.A (loadName c.env y) Q' E s := by
    intro Q' hQ
    obtain ⟨m, hn, hl⟩ := R.f.ns
    have z := hl y v₀ hv₀
    obtain ⟨hk, ⟨h1, h2⟩ | ⟨a, h1, h2, hf⟩⟩ := hS
    · rw [h1] at z
      obtain ⟨cv, z1, z2⟩ := z
      exact wpAny_loadName_local hk h2 hn z1 (hQ _ z2)
    · rw [h1] at z
      obtain ⟨cv, z1, z2⟩ := z
      exact wpAny_loadName_cell hk h2 h1 z1 (hQ _ z2)
  exact wpAny_AugAssign_Name (ld _ fun old hold => h s X _ _ R (fun v b s₁ ρ₁ H₁ st₁ R₁ hv h₁ => h₁ s₁ X _ _ old v R₁ (hold.mono st₁.tup) hv (fun r r' s₂ ρ₂ H₂ st₂ R₂ hr h₂ =>
    storeA hS R₂ hr fun s₃ st₃ R₃ => q _ _ _ _ _ ((st₁.trans st₂).trans st₃) R₃ .next h₂) (er.step st₁)) er)

theorem Ex.assignAttr {o e : Expr} {attr : Str} {pos' pos : Pos} (h : Ev g c e ρ H (fun v ρ₁ H₁ => Ev g c o ρ₁ H₁ (fun ov ρ₂ H₂ => Op2 g c (fun _ (_ : Unit) (_ : Unit) => True) (fun a b => setAttr a attr b) ov v ρ₂ H₂ (fun _ => k .next) x) x) x)
    (hs : swapsWith e (some (.Attribute o attr pos')) pos.line c.env = pure false := by kernel_rfl) : Ex g c (.Assign [.Attribute o attr pos'] e pos) ρ H k x := fun s X Q E R q er =>
  plainObj_wpAny_Assign_Attribute (h s X _ _ R (fun v b s₁ ρ₁ H₁ st₁ R₁ hv h₁ => h₁ s₁ X _ _ R₁ (fun ov ob s₂ ρ₂ H₂ st₂ R₂ ho h₂ =>
    h₂ s₂ X _ _ ov v R₂ ho (hv.mono st₂.tup) (fun _ _ s₃ ρ₃ H₃ st₃ R₃ _ h₃ => q _ _ _ _ _ ((st₁.trans st₂).trans st₃) R₃ .next h₃) (er.step (st₁.trans st₂))) (er.step st₁)) er) hs

noncomputable def Lp {KF : Params → Frag} (g : Gd KF) (c : Cx) (t : Expr) (b : List Stmt) (ρ : Loc) (H : AH) (k : AF → Loc → AH → Prop) (x : AV → Loc → AH → Prop) : Prop :=
  ∀ (s : Shared) (X : XH) (R : Result → Shared → Prop), Rep g c s.heap ρ H X → Qs g c FlR X s k (fun f s' => R (.ok f) s') →
    codeAny (model g.prog g.w) c.A (.whileLoop t b [] c.env) R s
theorem Ex.whil {t : Expr} {b : List Stmt} {pos : Pos} (h : Lp g c t b ρ H k x) : Ex g c (.While t b [] pos) ρ H k x := fun s X Q E R q er =>
  wpAny_While (h s X _ R q)
noncomputable def Turn {KF : Params → Frag} (g : Gd KF) (c : Cx) (t : Expr) (b : List Stmt) (k : AF → Loc → AH → Prop) (x : AV → Loc → AH → Prop) (f : AF) (ρ : Loc) (H : AH) : Prop := match f with
  | .next => Lp g c t b ρ H k x
  | .cont => Lp g c t b ρ H k x
  | .brk => k .next ρ H
  | .ret v => k (.ret v) ρ H
theorem Lp.step {t : Expr} {b : List Stmt} (h : Ts g c t ρ H (fun v ρ₁ H₁ => if v = true then Exs g c b ρ₁ H₁ (Turn g c t b k x) (fun _ _ _ => False) else k .next ρ₁ H₁) (fun _ _ _ => False)) : Lp g c t b ρ H k x := by
  intro s X R' R q
  refine codeAny_of_tree ?_
  show wpAny _ c.A ((whileTurn t b [] c.env).onRaise (fun x => do noteFrame x c.env; theTreesLotGoes x)) _ _ s
  refine wpAny_noted ?_
  simp only [whileTurn]
  refine wpAny_bind (h s X _ _ R (fun v v' s₁ ρ₁ H₁ st₁ R₁ hv h₁ => ?_) fun _ _ _ _ _ _ _ _ h => h.elim)
  cases hv
  cases v with
  | false =>
    simp only [Bool.false_eq_true, if_false] at h₁ ⊢
    exact wpAny_bind (wpAny_execs_nil (wpAny_pure (q _ _ _ _ _ st₁ R₁ .next h₁)))
  | true =>
    simp only [if_true] at h₁ ⊢
    refine wpAny_bind (h₁ s₁ X _ _ R₁ (fun f f' s₂ ρ₂ H₂ st₂ R₂ hf h₂ => ?_) fun _ _ _ _ _ _ _ _ h => h.elim)
    cases hf with
    | next => exact wpAny_pure ⟨rfl, h₂ s₂ X _ R₂ (Qs.step q (st₁.trans st₂))⟩
    | cont => exact wpAny_pure ⟨rfl, h₂ s₂ X _ R₂ (Qs.step q (st₁.trans st₂))⟩
    | brk => exact wpAny_pure (q _ _ _ _ _ (st₁.trans st₂) R₂ .next h₂)
    | ret hv => exact wpAny_pure (q _ _ _ _ _ (st₁.trans st₂) R₂ (.ret hv) h₂)
end
end Mine
end

section
open PySem PySem.W PyProof.Rows PySem.Calls
set_option Elab.async false
set_option genSizeOf false
set_option linter.unusedVariables false
namespace Mine

noncomputable def lookF : List (Str × AV) → Str → Option AV
  | [], _ => none
  | (y, v) :: r, x => if y = x then some v else lookF r x
noncomputable def putF : List (Str × AV) → Str → AV → List (Str × AV)
  | [], x, v => [(x, v)]
  | (y, w) :: r, x, v => if y = x then (y, v) :: r else (y, w) :: putF r x v
noncomputable def notBi : AV → Bool
  | .builtin _ => false
  | _ => true

structure ClsF (K : Frag) (C : Addr) : Prop where
  get : findIn K (.ref C) "__getattribute__" = some (some (.builtin "object.__getattribute__"))
  gattr : findIn K (.ref C) "__getattr__" = some none
  set : findIn K (.ref C) "__setattr__" = some (some (.builtin "object.__setattr__"))
  over : plainOver K C = true
  hd : hasDictIn K C = true

section
variable {KF : Params → Frag} {g : Gd KF} {c : Cx} {ρ : Loc} {H : AH} {X : XH} {k : AV → Loc → AH → Prop} {x : AV → Loc → AH → Prop}

theorem FR.no_ref {h : Heap} {es : List DictEntry} {fs : List (Str × AV)} (z : FR h es fs) : es.any (·.refKey) = false := FR.rec (motive := fun es _ _ => es.any (·.refKey) = false) rfl (fun _ _ r => by rw [List.any_cons, r]; rfl) z
theorem FR.look {h : Heap} {y : Str} : ∀ {es : List DictEntry} {fs : List (Str × AV)}, FR h es fs → ∃ v, getL y es = some v ∧ OVR h v (lookF fs y)
  | _, _, .nil => ⟨_, rfl, .none⟩
  | _, _, .cons (hs := hs) (x := z) (t := t) (v := w) (d := d) (es := es) (fs := fs) a r => by
    obtain ⟨v, h1, h2⟩ := FR.look (y := y) r
    have hk : (DictEntry.mk hs (.str z t) w).key.isStr y = (z == y) := rfl
    have hnr : ((DictEntry.mk hs (.str z t) w) :: es).any (·.refKey) = false := by rw [List.any_cons, FR.no_ref r]; rfl
    by_cases q : z = y
    · refine ⟨some w, ?_, ?_⟩
      · unfold getL
        rw [List.find?_cons, hk, beq_iff_eq.mpr q]
      · rw [lookF, if_pos q]; exact .some a
    · refine ⟨v, ?_, ?_⟩
      · have e1 : getL y ((DictEntry.mk hs (.str z t) w) :: es) = getL y es := by
          unfold getL
          rw [List.find?_cons, hk, beq_eq_false_iff_ne.mpr q, hnr, FR.no_ref r]
        rw [e1]; exact h1
      · rw [lookF, if_neg q]; exact h2
theorem FR.put {h : Heap} {y : Str} {hsh : Int} {tk : Tok} {v : Value} {d : AV} (hv : VR h v d) : ∀ {es : List DictEntry} {fs : List (Str × AV)}, FR h es fs → FR h (putL y hsh (.str y tk) v es) (putF fs y d)
  | _, _, .nil => .cons hv .nil
  | _, _, .cons (hs := hs) (x := z) (t := t) (v := w) (d := d') (es := es) (fs := fs) a r => by
    have hk : (DictEntry.mk hs (.str z t) w).key.isStr y = (z == y) := rfl
    unfold putL putF
    by_cases q : z = y
    · rw [hk, beq_iff_eq.mpr q, if_pos rfl, if_pos q]; exact .cons hv r
    · rw [hk, beq_eq_false_iff_ne.mpr q, if_neg (by decide), if_neg q]; exact .cons a (FR.put hv r)
theorem putL_length (y : Str) (hsh : Int) (ky v : Value) : ∀ es : List DictEntry, (putL y hsh ky v es).length ≤ es.length + 1
  | [] => Nat.le_refl _
  | e :: r => by
    unfold putL
    split
    · simp
    · simp only [List.length_cons]; have := putL_length y hsh ky v r; lia

theorem Rep.inst {cx : Cx} {h : Heap} {t C d : Addr} {fs : List (Str × AV)} (R : Rep g cx h ρ H X) (hH : H t = some (.inst C d fs)) : ∃ es n, InstAt h t (instObj C d) C (some (dictOf es n)) ∧ FR h es fs ∧ h.get? d = some (dictOf es n) := by
  refine absG fun G₀ hG₀ => ?_
  obtain ⟨h1, ⟨es, n, h2, h3⟩, _⟩ := (R.o.obj t _ hH).2
  refine hG₀ ?_
  exact ⟨es, n, ⟨h1, rfl, rfl, h2⟩, h3, h2⟩
theorem VR.handed {h : Heap} {v : Value} {d : AV} (z : VR h v d) (hb : notBi d = true) : handedIn v = true := by
  cases z <;> first | rfl | cases hb

theorem Op1.field {t C d : Addr} {fs : List (Str × AV)} {attr : Str} {v : AV} {at? : Option Value} (hH : H t = some (.inst C d fs)) (hc : ClsF (KF g.w.params) C) (ha : findIn (KF g.w.params) (.ref C) attr = some at?) (hn : noGet (KF g.w.params) at? = true) (hl : lookF fs attr = some v) (hb : notBi v = true)
    (h : k v ρ H) : Op1 g c VR (fun o => getAttr o attr true) (.ref t) ρ H k x := fun s X Q E va R hv q e => by
  cases hv
  refine absG fun G₀ hG₀ => ?_
  obtain ⟨es, n, I, hF, _⟩ := R.inst hH
  refine hG₀ ?_
  obtain ⟨w, h1, h2⟩ := hF.look (y := attr)
  rw [hl] at h2
  cases h2 with
  | some h2 => exact get_value R.K I hc.get (findObj_own hc.hd ha hn h1) (h2.handed hb) (q _ _ _ _ _ (Step.tok s _) R h2 h)

theorem Ev.attr {o : Expr} {a : Str} {pos : Pos} (h : Ev g c o ρ H (fun ov ρ₁ H₁ => Op1 g c VR (fun o => getAttr o a true) ov ρ₁ H₁ k x) x)
    (he : eval (.Attribute o a pos) c.env = (do
      let o' ← eval o c.env
      standAt pos.atName
      let r ← holding [o'] (getAttr o' a true)
      letTemporaryGo o o' r
      pure r) := by kernel_rfl) : Ev g c (.Attribute o a pos) ρ H k x := fun s X Q E R q e =>
  Attribute_any_ (h s X _ _ R (fun v b s₁ ρ₁ H₁ st₁ R₁ hv h₁ => h₁ s₁ X _ _ v R₁ hv (q.step st₁) (e.step st₁)) e) he

theorem set_at {K : Frag} {prog : Program} {w : World} {A : Around} {s : Shared} {t C d : Addr} {es : List DictEntry} {n : Nat} {name : Str} {v : Value} {Q : Unit → Shared → Prop} {E : Value → Shared → Prop} (X : K.In s.heap)
    (I : InstAt s.heap t (instObj C d) C (some (dictOf es n))) (hd : s.heap.get? d = some (dictOf es n)) (hc : ClsF K C) (ha : findIn K (.ref C) name = some none) (hr : es.any (·.refKey) = false) (hl : (getL name es).isSome = true) (hz : es.length ≤ 900)
    (h : Q () { s with heap := s.heap.update d (Obj.putName name (PyData.keyHash w.params name) (.str name (s.toks + 1)) v), toks := s.toks + 2 }) : wpAny (model prog w) A (setAttr (.ref t) name v) Q E s := by
  refine set_plain X I hc.set ?_
  have ht : takerIn K C name = some none := by unfold takerIn; rw [ha]; rfl
  refine osa_open (s := { s with toks := s.toks + 1 }) X I hc.over ht fun b => ?_
  obtain ⟨cd, hcd, hdd⟩ := any_some hc.hd
  have go : (s.heap.update d (Obj.putName name (PyData.keyHash w.params name) (.str name (s.toks + 1)) v)).get? d = some (dictOf (putL name (PyData.keyHash w.params name) (.str name (s.toks + 1)) v es) (putN name es n)) := by
    have e1 := putName_dict name (PyData.keyHash w.params name) (.str name (s.toks + 1)) v es n
    rw [← e1]
    exact Heap.get?_update_self _ hd (by rw [e1]; rfl)
  refine wpAny_bind (wpAny_pure (wpAny_bind (wpAny_bind (wpAny_loadPart I.at_ (wpAny_bind ((looks_clsIn X hcd).at ?_))))))
  rw [hdd]
  refine wpAny_pure (a := some d) (wpAny_bind (wpAny_pure (wpAny_bind ?_)))
  unfold nsSet
  refine wpAny_bind (wpAny_bind (wpAny_askSetting (wpAny_pure (wpAny_bind (wpAny_mkText (wpAny_bind (wpAny_loadPart hd ?_)))))))
  dsimp only
  have c0 : (!es.toArray.any (·.key.isStr name) && es.toArray.any (·.refKey)) = false := by
    rw [List.any_toArray, List.any_toArray, hr, Bool.and_false]
  rw [aRefKeyMayBeTheName_at, c0]
  refine wpAny_updatePart hd ?_
  refine wpAny_bind (wpAny_lookBehind go (pastItsLine_dict (by rw [List.size_toArray, sizeLine_eq]; have := putL_length name (PyData.keyHash w.params name) (.str name (s.toks + 1)) v es; lia)) ?_)
  exact wpAny_pure h

theorem Op2.setField {t C d : Addr} {fs : List (Str × AV)} {attr : Str} {v : AV} {k : Unit → Loc → AH → Prop} (hH : H t = some (.inst C d fs)) (hc : ClsF (KF g.w.params) C) (ha : findIn (KF g.w.params) (.ref C) attr = some none) (hz : fs.length ≤ 900)
    (h : k () ρ (upd H t (.inst C d (putF fs attr v)))) : Op2 g c (fun _ (_ : Unit) (_ : Unit) => True) (fun a b => setAttr a attr b) (.ref t) v ρ H k x := fun s X Q E va vb R hva hvb q e => by
  cases hva
  refine absG fun G₀ hG₀ => ?_
  obtain ⟨es, n, I, hF, hd⟩ := R.inst hH
  refine hG₀ ?_
  obtain ⟨w', h1, _⟩ := hF.look (y := attr)
  have hown := (R.o.obj t _ hH).2.2.2
  refine set_at R.K I hd hc ha hF.no_ref (by rw [h1]; rfl) (by rw [hF.length]; exact hz) ?_
  have hs := Heap.SameBut.update s.heap d (Obj.putName attr (PyData.keyHash g.w.params attr) (.str attr (s.toks + 1)) vb)
  have ntd : t ≠ d := fun q => by rw [q, hown] at hH; cases hH
  obtain ⟨R', kp⟩ := R.change (o' := .inst C d (putF fs attr v)) hH (.inr hown) rfl hs.extBut (Nat.le_of_eq hs.1.symm) rfl rfl (fun kp => by
    refine ⟨(hs.2 t ntd).trans I.at_, ⟨_, putN attr es n, ?_, (FR.put (hsh := PyData.keyHash g.w.params attr) (tk := s.toks + 1) hvb hF).mono kp⟩, (upd_ne (Ne.symm ntd)).trans hown⟩
    have e1 := putName_dict attr (PyData.keyHash g.w.params attr) (.str attr (s.toks + 1)) vb es n
    rw [← e1]
    exact Heap.get?_update_self _ hd (by rw [e1]; rfl))
  exact q () () _ _ _ (Step.heap s kp (Nat.le_of_eq hs.1.symm)) R' trivial h
end
end Mine
end

section
open PySem PySem.W PyProof.Rows PySem.Calls
set_option Elab.async false
set_option genSizeOf false
set_option linter.unusedVariables false
namespace Mine

structure Ok (n : Nat) (b : Bool) (A : Around) : Prop where
  depth : A.depth + 10 * n ≤ 900
  units : A.units + 40 * n ≤ 9000
  hand : b = true → A.handled = none
theorem Ok.le {n m : Nat} {b b' : Bool} {A : Around} (h : Ok n b A) (hn : m ≤ n) (hb : b' = true → b = true) : Ok m b' A :=
  ⟨by have := h.depth; lia, by have := h.units; lia, fun q => h.hand (hb q)⟩

noncomputable def StkA (b : Addr) (A : Around) (X : XH) : Prop := ∃ l, A.frames = some l ∧ ∀ e ∈ l, e.scope.kind ≠ .module ∧ ∃ M, e.frame = some M ∧ b ≤ M ∧ ∃ o, X M = some (.loose o)
theorem Ok.leB {n m : Nat} {b b' : Bool} {A : Around} (h : Ok n b A) (hn : (Nat.ble m n && (!b' || b)) = true) : Ok m b' A :=
  h.le (Nat.le_of_ble_eq_true (Bool.and_eq_true_iff.mp hn).1) (fun q => by have h2 := (Bool.and_eq_true_iff.mp hn).2; rw [q] at h2; exact h2)
noncomputable def Cal {KF : Params → Frag} (g : Gd KF) (n : Nat) (b : Bool) (f : Addr) (as : List AV) (H : AH) (k : AV → AH → Prop) (x : AV → AH → Prop) : Prop :=
  ∀ (A : Around) (s : Shared) (X : XH) (R : Result → Shared → Prop) (vs : List Value), Ok n b A → StkA g.hb.objs.size A X → VRs s.heap vs as → Rep0 g s.heap H X →
    (∀ v d s' H', Step s s' → Rep0 g s'.heap H' X → VR s'.heap v d → k d H' → R (.ok (.ret v)) s') →
    (∀ e d s' H', Step s s' → Rep0 g s'.heap H' X → VR s'.heap e d → x d H' → R (.error e) s') →
    codeAny (model g.prog g.w) A (.call (.ref f) ⟨vs, []⟩) R s
theorem Cal.mono {KF : Params → Frag} {g : Gd KF} {n m : Nat} {b b' : Bool} {f : Addr} {as : List AV} {H : AH} {k k' x x' : AV → AH → Prop} (h : Cal g n b f as H k x) (hk : ∀ d H', k d H' → k' d H') (hx : ∀ d H', x d H' → x' d H') (hn : n ≤ m) (hb : b = true → b' = true) : Cal g m b' f as H k' x' :=
  fun A s X R vs ok sk hv R0 q e => h A s X R vs (ok.le hn hb) sk hv R0 (fun v d s' H' st R' hv kk => q v d s' H' st R' hv (hk _ _ kk)) fun v d s' H' st R' hv kk => e v d s' H' st R' hv (hx _ _ kk)

noncomputable def noL : Loc := fun _ => none
noncomputable def locOf : List Str → List AV → Loc
  | x :: xs, v :: vs => setL (locOf xs vs) x v
  | _, _ => noL
noncomputable def retOf : AF → AV
  | .ret v => v
  | _ => .none

theorem locOf_zip {h : Heap} {xs : List Str} : ∀ {ws : List Value} {as : List AV}, VRs h ws as → ∀ {y : Str} {d : AV}, locOf xs as y = some d → ∃ v, (xs.zip ws).lookup y = some v ∧ VR h v d := by
  induction xs with
  | nil => intro ws as z y d e; cases e
  | cons x xs ih =>
    intro ws as z y d e
    cases as with
    | nil => cases e
    | cons a as =>
      refine absG fun G₀ hG₀ => ?_
      obtain ⟨v, vs, rfl, a, r⟩ := z.lc
      refine hG₀ ?_
      have e : (if y = x then some _ else locOf xs as y) = some d := e
      by_cases q : y = x
      · rw [if_pos q] at e
        rw [q, ← Option.some.inj e]
        exact ⟨v, by rw [List.zip_cons_cons, List.lookup_cons, beq_self_eq_true], a⟩
      · rw [if_neg q] at e
        obtain ⟨w, h1, h2⟩ := ih r e
        exact ⟨w, by rw [List.zip_cons_cons, List.lookup_cons, beq_eq_false_iff_ne.mpr q]; exact h1, h2⟩
theorem lookup_reverse {xs : List (Str × Value)} (hn : (xs.map (·.1)).Nodup) (y : Str) : xs.reverse.lookup y = xs.lookup y := by
  induction xs with
  | nil => rfl
  | cons p xs ih =>
    obtain ⟨z, v⟩ := p
    rw [List.map_cons, List.nodup_cons] at hn
    rw [List.reverse_cons, List.lookup_append, ih hn.2]
    by_cases q : y = z
    · subst q
      have : xs.lookup y = none := by
        rw [List.lookup_eq_none_iff]
        intro p hp
        exact bne_iff_ne.mpr fun e => hn.1 (show y ∈ _ from e ▸ List.mem_map.mpr ⟨p, hp, rfl⟩)
      rw [this, List.lookup_cons, List.lookup_cons, beq_self_eq_true]
      rfl
    · have hb : (y == z) = false := beq_eq_false_iff_ne.mpr q
      simp only [List.lookup_cons, List.lookup_nil, hb]
      cases xs.lookup y <;> rfl
theorem zip_keys_nodup {xs : List Str} (hn : xs.Nodup) (ws : List Value) : ((xs.zip ws).map (·.1)).Nodup := by
  have : ((xs.zip ws).map (·.1)) = xs.take ws.length := by
    induction xs generalizing ws with
    | nil => simp
    | cons x xs ih =>
      cases ws with
      | nil => simp
      | cons w ws => simp [ih (List.nodup_cons.mp hn).2 ws]
  rw [this]
  exact hn.sublist (List.take_sublist _ _)

structure FnF {KF : Params → Frag} (g : Gd KF) (f : Addr) (fd : FuncData) : Prop where
  ex : ∃ oc od osl, (KF g.w.params).lookup f = some ⟨oc, od, .func fd, osl⟩
  cd : codeIn (KF g.w.params) fd.code fd.qualname = true

noncomputable abbrev noX : AV → Loc → AH → Prop := fun _ _ _ => False

theorem StkA.deeper {b : Addr} {A : Around} {X : XH} {qual : Str} {scope : Scope} {L f : Addr} {cdv : Value} (sk : StkA b A X) (hL : b ≤ L) (hk : scope.kind = .function) : Stk b ⟨A.deeper (envOf qual scope L f cdv), envOf qual scope L f cdv⟩ X := by
  obtain ⟨l, h1, h2⟩ := sk
  refine ⟨envOf qual scope L f cdv :: l, by show A.frames.map _ = _; rw [h1]; rfl, fun _ => ⟨l, rfl⟩, fun e he => ?_, fun M e => .inl (Option.some.inj e).symm⟩
  rcases List.mem_cons.mp he with rfl | he
  · exact ⟨by show scope.kind ≠ _; rw [hk]; decide, L, rfl, hL, .inl rfl⟩
  · refine absG fun G₀ hG₀ => ?_
    obtain ⟨k1, M, k2, k3, k4⟩ := h2 e he
    refine hG₀ ?_
    exact ⟨k1, M, k2, k3, .inr k4⟩
theorem Cal.enter0 {KF : Params → Frag} {g : Gd KF} {n : Nat} {b : Bool} {f : Addr} {as as' : List AV} {H : AH} {k : AV → AH → Prop} {x : AV → AH → Prop} {name qual : Str} {params : Arguments} {body : List Stmt} {scope : Scope} {dV kV doc pm cdv ct : Value} {an : Option Addr} (xs : List Str)
    (F : FnF g f (fnOf name qual params body scope dV kV doc pm an cdv ct))
    (hbind : ∀ (s : Shared) (vs : List Value), VRs s.heap vs as → (KF g.w.params).In s.heap → ∃ ws, VRs s.heap ws as' ∧ BindsTo s (fnOf name qual params body scope dV kV doc pm an cdv ct) ⟨vs, []⟩ (xs.zip ws))
    (hn : xs.Nodup) (hloc : ∀ y ∈ xs, scope.names.lookup y = some .local) (hcell : ∀ y ∈ scope.names, y.2 ≠ .cell)
    (h : ∀ (A : Around) (L : Addr), Ok n b A → Exs g ⟨A, envOf qual scope L f cdv⟩ body (locOf xs as') H (fun fl _ H' => k (retOf fl) H') noX)
    (hco : scope.isCoroutine = false := by kernel_rfl) (hgen : scope.isGenerator = false := by rfl) (hk : scope.kind = .function := by rfl) : Cal g (n + 1) b f as H k x := by
  intro A s X R vs ok sk hv R0 q e
  refine absG fun G₀ hG₀ => ?_
  obtain ⟨oc, od, osl, ho⟩ := F.ex
  refine hG₀ ?_
  have K := g.X.keeps R0.keep
  obtain ⟨ws, hws, hb⟩ := hbind s vs hv K
  refine codeAny_call_def (fd := fnOf name qual params body scope dV kV doc pm an cdv ct) (body := body) (by have := ok.depth; show A.depth < 1000; lia) (K _ _ ho) rfl (g.T.nolimit.keeps R0.keep) (codeRec_of K F.cd) rfl hb hcell (fun y hy => ?_) (fun h₁ hns hk₁ => ?_) hco hgen hk
  · exact hloc y.1 (List.of_mem_zip (a := y.1) (b := y.2) hy).1
  · have kp : TupKeep s.heap h₁ := .of_keep hk₁
    have zN := zip_keys_nodup hn ws
    have zL : s.heap.objs.size < h₁.objs.size := hns.lt
    have R1 : Rep g ⟨A.deeper (envOf qual scope s.heap.objs.size f cdv), envOf qual scope s.heap.objs.size f cdv⟩ h₁ (locOf xs as') H X := by
      refine ⟨⟨fun b o e => hk₁ b o (R0.keep b o e), Nat.le_trans R0.size (Nat.le_of_lt zL), fun b o e => ⟨(R0.obj b o e).1, (R0.obj b o e).2.keep kp fun b' ob _ _ => hk₁ b' ob⟩, fun b o e => ⟨(R0.ext b o e).1.keep (hk₁ b), (R0.ext b o e).2⟩⟩,
        ⟨⟨_, hns, fun y d e => ?_⟩, ⟨R0.size, R0.fresh, ?_⟩, fun y c e => (nomatch e), fun y y' c e => (nomatch e), ?_⟩⟩
      rotate_left 2
      · exact sk.deeper R0.size hk
      · show ∃ v, _ ∧ _
        obtain ⟨v, h1, h2⟩ := locOf_zip hws e
        exact ⟨v, (lookup_reverse zN y).trans h1, h2.mono kp⟩
      · show X s.heap.objs.size = none
        cases q' : X s.heap.objs.size with
        | none => rfl
        | some o => exact absurd (R0.ext _ o q').1.lt (Nat.lt_irrefl _)
    have ok' : Ok n b (A.deeper (envOf qual scope s.heap.objs.size f cdv)) := ⟨by show A.depth + 1 + 10 * n ≤ 900; have := ok.depth; lia, by show A.units + 3 + 40 * n ≤ 9000; have := ok.units; lia, ok.hand⟩
    have st₁ : Step s { s with heap := h₁, toks := s.toks + (xs.zip ws).length } := Step.heap s kp (Nat.le_of_lt zL)
    refine h (A.deeper (envOf qual scope s.heap.objs.size f cdv)) s.heap.objs.size ok' _ X _ _ R1 (fun fl fl' s' ρ' H' st R' hf hk' => ?_) fun _ _ _ _ _ _ _ _ h => h.elim
    refine q _ _ _ _ (st₁.trans st) R'.o ?_ hk'
    cases hf <;> first | exact .none | assumption

noncomputable def okScope (xs : List Str) (sc : Scope) : Bool := !sc.isCoroutine && (!sc.isGenerator && (decide (sc.kind = .function) && (decide xs.Nodup && (decide (∀ y ∈ xs, sc.names.lookup y = some .local) && decide (∀ y ∈ sc.names, y.2 ≠ .cell)))))
theorem Cal.enter {KF : Params → Frag} {g : Gd KF} {n : Nat} {b : Bool} {f : Addr} {as as' : List AV} {H : AH} {k : AV → AH → Prop} {x : AV → AH → Prop} {name qual : Str} {params : Arguments} {body : List Stmt} {scope : Scope} {dV kV doc pm cdv ct : Value} {an : Option Addr} (xs : List Str)
    (F : FnF g f (fnOf name qual params body scope dV kV doc pm an cdv ct))
    (hbind : ∀ (s : Shared) (vs : List Value), VRs s.heap vs as → (KF g.w.params).In s.heap → ∃ ws, VRs s.heap ws as' ∧ BindsTo s (fnOf name qual params body scope dV kV doc pm an cdv ct) ⟨vs, []⟩ (xs.zip ws))
    (hok : okScope xs scope = true)
    (h : ∀ (A : Around) (L : Addr), Ok n b A → Exs g ⟨A, envOf qual scope L f cdv⟩ body (locOf xs as') H (fun fl _ H' => k (retOf fl) H') noX) : Cal g (n + 1) b f as H k x := by
  unfold okScope at hok
  rw [Bool.and_eq_true, Bool.and_eq_true, Bool.and_eq_true, Bool.and_eq_true, Bool.and_eq_true, Bool.not_eq_true', Bool.not_eq_true', decide_eq_true_eq, decide_eq_true_eq, decide_eq_true_eq, decide_eq_true_eq] at hok
  exact Cal.enter0 xs F hbind hok.2.2.2.1 hok.2.2.2.2.1 hok.2.2.2.2.2 h hok.1 hok.2.1 hok.2.2.1

open Classical in
noncomputable def frz (env : Env) (h : Heap) (X : XH) : XH := fun b => match X b with
  | some o => some o
  | none => if b = env.locals then (h.get? b).map .loose else if ∃ y, env.cells.lookup y = some b then (h.get? b).map .exact else none
theorem frz_X {env : Env} {h : Heap} {X : XH} {b : Addr} {o : XO} (e : X b = some o) : frz env h X b = some o := by unfold frz; rw [e]
theorem frz_L {env : Env} {h : Heap} {X : XH} {o : Obj} (n : X env.locals = none) (e : h.get? env.locals = some o) : frz env h X env.locals = some (.loose o) := by unfold frz; rw [n]; dsimp only; rw [if_pos rfl, e]; rfl
theorem frz_C {env : Env} {h : Heap} {X : XH} {b : Addr} {o : Obj} {y : Str} (n : X b = none) (nL : b ≠ env.locals) (c : env.cells.lookup y = some b) (e : h.get? b = some o) : frz env h X b = some (.exact o) := by
  unfold frz; rw [n]; dsimp only; rw [if_neg nL, if_pos ⟨y, c⟩, e]; rfl
theorem frz_some {env : Env} {h : Heap} {X : XH} {b : Addr} {o : XO} (e : frz env h X b = some o) : X b = some o ∨ (X b = none ∧ ∃ ob, h.get? b = some ob ∧ ((b = env.locals ∧ o = .loose ob) ∨ (b ≠ env.locals ∧ (∃ y, env.cells.lookup y = some b) ∧ o = .exact ob))) := by
  unfold frz at e
  cases q : X b with
  | some o' => rw [q] at e; exact .inl e
  | none =>
    rw [q] at e
    dsimp only at e
    refine .inr ⟨rfl, ?_⟩
    by_cases p : b = env.locals
    · rw [if_pos p] at e
      cases r : h.get? b with
      | none => rw [r] at e; cases e
      | some ob => rw [r] at e; cases e; exact ⟨ob, rfl, .inl ⟨p, rfl⟩⟩
    · rw [if_neg p] at e
      split at e
      · rename_i c
        cases r : h.get? b with
        | none => rw [r] at e; cases e
        | some ob => rw [r] at e; cases e; exact ⟨ob, rfl, .inr ⟨p, c, rfl⟩⟩
      · cases e
theorem frz_none {env : Env} {h : Heap} {X : XH} {b : Addr} (n : X b = none) (nL : b ≠ env.locals) (c : ¬ ∃ y, env.cells.lookup y = some b) : frz env h X b = none := by
  unfold frz; rw [n]; dsimp only; rw [if_neg nL, if_neg c]
theorem Ns.nonF {h : Heap} {L : Addr} {m : Str → Option Value} (x : h.Ns L m) : ∃ o, h.get? L = some o ∧ NonF o := by
  refine absG fun G₀ hG₀ => ?_
  obtain ⟨o, es, ep, h1, h2, _⟩ := x
  refine hG₀ ?_
  exact ⟨o, h1, es, ep, h2⟩
theorem Rep.freeze {KF : Params → Frag} {g : Gd KF} {cx : Cx} {h : Heap} {ρ : Loc} {H : AH} {X : XH} (R : Rep g cx h ρ H X) : Rep0 g h H (frz cx.env h X) := by
  refine ⟨R.o.keep, R.o.size, R.o.obj, fun b o e => ?_⟩
  rcases frz_some e with e | ⟨n, ob, e1, ⟨rfl, rfl⟩ | ⟨nL, ⟨y, q⟩, rfl⟩⟩
  · exact R.o.ext b o e
  · obtain ⟨m, hm, _⟩ := R.f.ns
    obtain ⟨o', e2, nf⟩ := Ns.nonF hm
    rw [e1] at e2; cases e2
    exact ⟨⟨nf, ob.slots, e1⟩, R.f.nL.2.1, R.f.nL.1⟩
  · exact ⟨e1, (R.f.cl y b q).2.1, (R.f.cl y b q).1⟩
theorem Rep.stk {KF : Params → Frag} {g : Gd KF} {cx : Cx} {h : Heap} {ρ : Loc} {H : AH} {X : XH} (R : Rep g cx h ρ H X) : StkA g.hb.objs.size cx.A (frz cx.env h X) := by
  refine absG fun G₀ hG₀ => ?_
  obtain ⟨l, h1, _, h2, _⟩ := R.f.stk
  refine hG₀ ?_
  refine ⟨l, h1, fun e he => ?_⟩
  refine absG fun G₀ hG₀ => ?_
  obtain ⟨k1, M, k2, k3, k4⟩ := h2 e he
  refine hG₀ ?_
  refine ⟨k1, M, k2, k3, ?_⟩
  rcases k4 with rfl | ⟨o, k4⟩
  · obtain ⟨m, hm, _⟩ := R.f.ns
    obtain ⟨o, e2, _⟩ := Ns.nonF hm
    exact ⟨o, frz_L R.f.nL.2.2 e2⟩
  · exact ⟨o, frz_X k4⟩
theorem XO.at.two {h h' : Heap} {a : Addr} {o : Obj} : ∀ {x : XO}, x.at h a → x.at h' a → h.get? a = some o → ∃ sl, h'.get? a = some { o with slots := sl }
  | .exact _, z, z', e => by
    have z : h.get? a = some _ := z
    rw [e] at z; cases z; exact ⟨o.slots, z'⟩
  | .loose _, ⟨_, sl, z⟩, ⟨_, sl', z'⟩, e => by rw [e] at z; cases z; exact ⟨sl', z'⟩
theorem Rep.thaw {KF : Params → Frag} {g : Gd KF} {cx : Cx} {h h' : Heap} {ρ : Loc} {H H' : AH} {X : XH} (R : Rep g cx h ρ H X) (kp : TupKeep h h') (R' : Rep0 g h' H' (frz cx.env h X)) : Rep g cx h' ρ H' X := by
  have back : ∀ b, (b = cx.env.locals ∨ ∃ y, cx.env.cells.lookup y = some b) → ∀ o, h.get? b = some o → (∃ sl, h'.get? b = some { o with slots := sl }) ∧ H' b = none := fun b q o e => by
    cases qx : X b with
    | some xo =>
      have z := R'.ext b xo (frz_X qx)
      exact ⟨(R.o.ext b xo qx).1.two z.1 e, z.2.1⟩
    | none =>
      by_cases p : b = cx.env.locals
      · subst p
        have z := R'.ext _ _ (frz_L qx e)
        exact ⟨z.1.2, z.2.1⟩
      · obtain ⟨y, c⟩ := q.resolve_left p
        have z := R'.ext _ _ (frz_C qx p c e)
        exact ⟨⟨o.slots, z.1⟩, z.2.1⟩
  obtain ⟨m, hm, hl⟩ := R.f.ns
  refine absG fun G₀ hG₀ => ?_
  obtain ⟨oL, es, ep, hL, hr⟩ := hm
  refine hG₀ ?_
  obtain ⟨⟨slL, bL⟩, nLL⟩ := back cx.env.locals (.inl rfl) oL hL
  refine ⟨⟨R'.keep, R'.size, R'.obj, fun b o e => R'.ext b o (frz_X e)⟩, ⟨⟨m, ⟨_, es, ep, bL, hr⟩, hl.mono kp fun y c v hc z => ?_⟩, ⟨R.f.nL.1, nLL, R.f.nL.2.2⟩, fun y c hc => ?_, R.f.inj, R.f.stk⟩⟩
  · obtain ⟨o, z1, z2⟩ := z
    obtain ⟨⟨sl, w⟩, _⟩ := back c (.inr ⟨y, hc⟩) o z1
    exact ⟨_, w, z2⟩
  · refine absG fun G₀ hG₀ => ?_
    obtain ⟨h1, h2, h3, h4, v, o, h5, h6⟩ := R.f.cl y c hc
    refine hG₀ ?_
    obtain ⟨⟨sl, w⟩, w2⟩ := back c (.inr ⟨y, hc⟩) o h5
    exact ⟨h1, w2, h3, h4, v, _, w, h6⟩

section
variable {KF : Params → Frag} {g : Gd KF} {c : Cx} {ρ : Loc} {H : AH} {X : XH} {k : AV → Loc → AH → Prop} {x : AV → Loc → AH → Prop}

theorem Cal.at {n : Nat} {b : Bool} {f : Addr} {as : List AV} (h : Cal g n b f as H (fun v H' => k v ρ H') (fun v H' => x v ρ H')) (ok : Ok n b c.A) : OpL g c VR (fun vs => call (.ref f) vs) as ρ H k x := fun s X Q E vs R hv q e => by
  refine wpAny_call (h c.A s _ _ vs ok R.stk hv R.freeze (fun v d s' H' st R' hv' hk => ?_) fun v d s' H' st R' hv' hk => ?_)
  · exact q _ _ _ _ _ st (R.thaw st.tup R') hv' hk
  · exact e _ _ _ _ _ st (R.thaw st.tup R') hv' hk

noncomputable abbrev EvL {KF : Params → Frag} (g : Gd KF) (c : Cx) (pos : Pos) (es : List Expr) := Tri g c VRs (spliced (backTo pos (starEach es c.env)))
theorem EvL.nil {pos : Pos} {k : List AV → Loc → AH → Prop} (h : k [] ρ H) : EvL g c pos [] ρ H k x := fun s X Q E R q e => wpAny_items_nil (q _ _ _ _ _ (Step.refl s) R .nil h)
noncomputable def notStar : Expr → Bool
  | .Starred .. => false
  | _ => true
theorem each_of {e : Expr} {es : List Expr} {env : Env} (h : notStar e = true) : starEach (e :: es) env = (false, eval e env) :: starEach es env := by
  cases e <;> first | rfl | cases h
theorem EvL.cons {pos : Pos} {e : Expr} {es : List Expr} {k : List AV → Loc → AH → Prop} (h : Ev g c e ρ H (fun v ρ₁ H₁ => EvL g c pos es ρ₁ H₁ (fun vs ρ₂ H₂ => k (v :: vs) ρ₂ H₂) x) x)
    (he : notStar e = true := by rfl) : EvL g c pos (e :: es) ρ H k x := fun s X Q E R q er =>
  wpAny_items_cons (h s X _ _ R (fun v d s₁ ρ₁ H₁ st₁ R₁ hv h₁ => h₁ s₁ X _ _ R₁ (fun vs ds s₂ ρ₂ H₂ st₂ R₂ hvs h₂ => q _ _ _ _ _ (st₁.trans st₂) R₂ (.cons (hv.mono st₂.tup) hvs) h₂) (er.step st₁)) er) (each_of he)

noncomputable def CW {KF : Params → Frag} (g : Gd KF) (c : Cx) (pos : Pos) (f : AV) (first : List AV) (es : List Expr) (ρ : Loc) (H : AH) (k : AV → Loc → AH → Prop) (x : AV → Loc → AH → Prop) : Prop :=
  ∀ (s : Shared) (X : XH) (Q : Value → Shared → Prop) (E : Value → Shared → Prop) (fv : Value) (fs : List Value), Rep g c s.heap ρ H X → VR s.heap fv f → VRs s.heap fs first → Qs g c VR X s k Q → Es g c X s x E →
    wpAny (model g.prog g.w) c.A (callWith pos fv fs (backTo pos (starEach es c.env)) []) Q E s

theorem Ev.call {func : Expr} {args : List Expr} {pos : Pos} (h : Ev g c func ρ H (fun f ρ₁ H₁ => CW g c pos f [] args ρ₁ H₁ k x) x)
    (he : eval (.Call func args [] pos) c.env = (do callWith pos (← eval func c.env) [] (backTo pos (starEach args c.env)) (backToKw pos (keywordEach [] c.env))) := by kernel_rfl) : Ev g c (.Call func args [] pos) ρ H k x := fun s X Q E R q e =>
  Call_ (h s X _ _ R (fun f d s₁ ρ₁ H₁ st₁ R₁ hv h₁ => h₁ s₁ X _ _ f [] R₁ hv .nil (q.step st₁) (e.step st₁)) e) he

theorem VR.refInv {h : Heap} {v : Value} {a : Addr} (z : VR h v (.ref a)) : v = .ref a := by cases z; rfl

theorem evalArgs_list {M : Model} {A : Around} {E : Value → Shared → Prop} {s : Shared} {f : Value} {l : List (Bool × Sem Value)} {Q : Args → Shared → Prop} (hp : l.any (·.1) = false)
    (h : wpAny M A (spliced l) (fun vs s₁ => Q ⟨vs, []⟩ s₁) E s) : wpAny M A (evalArgs f true l []) Q E s := by
  cases l with
  | nil =>
    unfold evalArgs
    show wpAny M A (spliced [] >>= _) _ E s
    refine wpAny_bind (wpAny_mono h (fun vs s₁ h₁ => wpAny_bind (wpAny_pure (wpAny_holding ?_))) fun _ _ x => x)
    exact wpAny_bind (wpAny_pure (wpAny_bind (wpAny_pure (wpAny_pure h₁))))
  | cons p l =>
    obtain ⟨b, t⟩ := p
    rw [List.any_cons, Bool.or_eq_false_iff] at hp
    obtain ⟨hb, _⟩ := hp
    dsimp only at hb
    subst hb
    exact evalArgs_plain h
theorem CW.own {pos : Pos} {f : Addr} {first : List AV} {es : List Expr} (hk : keepIn (KF g.w.params) (.ref f) = true) (hplain : (backTo pos (starEach es c.env)).any (·.1) = false)
    (h : EvL g c pos es ρ H (fun vs ρ₁ H₁ => OpL g c VR (fun vs => PySem.call (.ref f) vs) (first ++ vs) ρ₁ H₁ k x) x) : CW g c pos (.ref f) first es ρ H k x := fun s X Q E fv fs R hf hfs q e => by
  cases hf.refInv
  have key : wpAny (model g.prog g.w) c.A (spliced (backTo pos (starEach es c.env))) (fun vs s₁ => (KF g.w.params).In s₁.heap ∧ wpAny (model g.prog g.w) c.A (PySem.call (.ref f) (fs ++ vs)) Q E s₁) E s :=
    h s X _ _ R (fun vs ds s₁ ρ₁ H₁ st₁ R₁ hvs h₁ => ⟨R₁.K, h₁ s₁ X _ _ (fs ++ vs) R₁ (.append (hfs.mono st₁.tup) hvs) (q.step st₁) (e.step st₁)⟩) e
  refine callWith_of (by rw [hplain]; rfl) (keeps_K hk) ?_
  exact evalArgs_list hplain key
end
end Mine
end

section
open PySem PySem.W PyProof.Rows PySem.Calls
set_option Elab.async false
set_option genSizeOf false
set_option linter.unusedVariables false
namespace Mine
section
variable {KF : Params → Frag} {g : Gd KF} {c : Cx} {ρ : Loc} {H : AH} {X : XH} {k : AV → Loc → AH → Prop} {x : AV → Loc → AH → Prop}

noncomputable def Meth {KF : Params → Frag} (g : Gd KF) (c : Cx) (pos : Pos) (name : Str) (es : List Expr) (ov : AV) (ρ : Loc) (H : AH) (k : AV → Loc → AH → Prop) (x : AV → Loc → AH → Prop) : Prop :=
  ∀ (s : Shared) (X : XH) (Q : Value → Shared → Prop) (E : Value → Shared → Prop) (v : Value) (pl : Sem Bool), Rep g c s.heap ρ H X → VR s.heap v ov → Qs g c VR X s k Q → Es g c X s x E →
    wpAny (model g.prog g.w) c.A (getMethod v name pl) (fun r s' => wpAny (model g.prog g.w) c.A (callWith pos r.1 r.2 (backTo pos (starEach es c.env)) []) Q E s') E s

theorem Ev.method {o : Expr} {name : Str} {apos pos : Pos} {args : List Expr} (h : Ev g c o ρ H (fun ov ρ₁ H₁ => Meth g c pos name args ov ρ₁ H₁ k x) x)
    (hbase : attributeBase o name c.env (eval o c.env) = eval o c.env := by kernel_rfl)
    (hfew : methodCallForm (args.length + ([] : List Keyword).length) (backTo pos (starEach args c.env)) (backToKw pos (keywordEach [] c.env)) = true := by kernel_rfl)
    (hline : (apos.endLine == pos.line) = true := by kernel_rfl) : Ev g c (.Call (.Attribute o name apos) args [] pos) ρ H k x := by
  intro s X Q E R q e
  rw [arm_eval_Call, hbase]
  refine wpAny_bind (h s X _ _ R (fun ov d s₁ ρ₁ H₁ st₁ R₁ hv h₁ => ?_) e)
  refine wpAny_bind (wpAny_standAt ?_)
  have hpos : methodCallPos true o c.env apos pos = pure pos := by unfold methodCallPos; simp [hline]
  unfold methodCall
  rw [hfew]
  refine wpAny_bind (wpAny_holding (wpAny_mono (h₁ s₁ X _ _ ov _ R₁ hv (q.step st₁) (e.step st₁)) (fun r s₂ h₂ => ?_) fun _ _ z => z))
  exact wpAny_bind (wpAny_of_eq hpos h₂)

theorem Meth.own {pos : Pos} {name : Str} {es : List Expr} {t C d f : Addr} {fs : List (Str × AV)} (hH : H t = some (.inst C d fs)) (hc : ClsF (KF g.w.params) C) (hf : findIn (KF g.w.params) (.ref C) name = some (some (.ref f))) (ht : typeIn (KF g.w.params) (.ref f) = some (.type "function")) (hl : lookF fs name = none)
    (h : CW g c pos (.ref f) [.ref t] es ρ H k x) : Meth g c pos name es (.ref t) ρ H k x := by
  intro s X Q E v pl R hv q e
  (first | obtain ⟨_, rfl⟩ := hv.strI | obtain ⟨_, rfl⟩ := hv.intI | obtain rfl := hv.boolI | obtain rfl := hv.noneI | cases hv)
  obtain ⟨es', n, I, hF, _⟩ := R.inst hH
  obtain ⟨w, h1, h2⟩ := hF.look (y := name)
  rw [hl] at h2
  (first | obtain ⟨_, rfl⟩ := h2.strI | obtain ⟨_, rfl⟩ := h2.intI | obtain rfl := h2.boolI | obtain rfl := h2.noneI | cases h2)
  refine method_fn R.K I hc.get hc.gattr hf ht ?_ (h s X Q E _ _ R (.ref f) (.cons (.ref t) .nil) q e)
  show (lookIn name (dictOf es' n)).map _ = _
  rw [lookIn_dict, h1]; rfl

structure MkF (K : Frag) (C fI : Addr) : Prop where
  made : makesIn K C = true
  ini : findIn K (.ref C) "__init__" = some (some (.ref fI))
  fn : typeIn K (.ref fI) = some (.type "function")

theorem Rep0.make {h : Heap} {C : Addr} (R : Rep0 g h H X) : Rep0 g ((h.push emptyDict).push (instObj C h.objs.size)) (upd (upd H h.objs.size (.own (h.objs.size + 1))) (h.objs.size + 1) (.inst C h.objs.size [])) X := by
  have hk : ∀ b o, h.get? b = some o → ((h.push emptyDict).push (instObj C h.objs.size)).get? b = some o := fun b o e => Heap.get?_push_of_some _ (Heap.get?_push_of_some _ e)
  have kp : TupKeep h _ := .of_keep hk
  have f0 := R.fresh
  have f1 : H (h.objs.size + 1) = none := by
    cases q : H (h.objs.size + 1) with
    | none => rfl
    | some o => exact absurd (R.lt q) (Nat.not_lt.mpr (Nat.le_succ _))
  have g1 : ((h.push emptyDict).push (instObj C h.objs.size)).get? h.objs.size = some emptyDict := Heap.get?_push_of_some _ (Heap.get?_push_size _ rfl)
  have g2 : ((h.push emptyDict).push (instObj C h.objs.size)).get? (h.objs.size + 1) = some (instObj C h.objs.size) := by
    have := Heap.get?_push_size (h.push emptyDict) (o := instObj C h.objs.size) rfl
    rwa [Heap.size_push] at this
  have ne : h.objs.size ≠ h.objs.size + 1 := Nat.ne_of_lt (Nat.lt_succ_self _)
  refine ⟨fun b o e => hk b o (R.keep b o e), by rw [Heap.size_push, Heap.size_push]; have := R.size; lia, fun b o e => ?_, fun b o e => ?_⟩
  · by_cases q2 : b = h.objs.size + 1
    · subst q2
      rw [upd_same] at e
      cases e
      exact ⟨by have := R.size; lia, g2, ⟨[], 0, g1, .nil⟩, (upd_ne ne).trans (upd_same _ _ _)⟩
    · rw [upd_ne q2] at e
      by_cases q1 : b = h.objs.size
      · subst q1
        rw [upd_same] at e
        cases e
        exact ⟨R.size, C, _, upd_same _ _ _, rfl⟩
      · rw [upd_ne q1] at e
        have z := R.obj b o e
        have w := (z.2.keep kp fun b' ob _ _ => hk b' ob).new (o' := .own (h.objs.size + 1)) f0
        exact ⟨z.1, w.new ((upd_ne (Ne.symm ne)).trans f1)⟩
  · have z := R.ext b o e
    have hb := z.1.lt
    exact ⟨z.1.keep (hk b), (upd_ne (Nat.ne_of_lt (Nat.lt_succ_of_lt hb))).trans ((upd_ne (Nat.ne_of_lt hb)).trans z.2.1), z.2.2⟩

theorem Cal.make {n : Nat} {b : Bool} {C fI : Addr} {as : List AV} {k x : AV → AH → Prop} (M : MkF (KF g.w.params) C fI)
    (h : ∀ a d, H a = none → H d = none → a ≠ d → Cal g n b fI (.ref a :: as) (upd (upd H d (.own a)) a (.inst C d [])) (fun v H' => v = .none ∧ k (.ref a) H') x) : Cal g (n + 1) b C as H k x := by
  intro A s X R vs ok sk hv R0 q e
  obtain ⟨hh, gn, dr, tk, os⟩ := s
  have f1 : H (hh.objs.size + 1) = none := by
    cases q : H (hh.objs.size + 1) with
    | none => rfl
    | some o => exact absurd (R0.lt q) (Nat.not_lt.mpr (Nat.le_succ _))
  have kp : TupKeep hh ((hh.push emptyDict).push (instObj C hh.objs.size)) := .of_keep fun b o e => Heap.get?_push_of_some _ (Heap.get?_push_of_some _ e)
  have st : Step ⟨hh, gn, dr, tk, os⟩ ⟨(hh.push emptyDict).push (instObj C hh.objs.size), gn, dr, tk, os⟩ := ⟨rfl, kp⟩
  have K := g.X.keeps R0.keep
  refine make_core (makes_of K M.made) (looks_findIn K M.ini) (fun self => bind_fn K self M.fn) (.inl rfl) ?_
  refine h (hh.objs.size + 1) hh.objs.size f1 R0.fresh (Nat.succ_ne_self _) _ _ X _ (.ref (hh.objs.size + 1) :: vs) ⟨?_, ?_, ok.hand⟩ ?_ (.cons (.ref _) (hv.mono kp)) R0.make (fun v d s' H' st' R' hv' hk => ?_) fun v d s' H' st' R' hv' hk => ?_
  · rw [depth_under_kw]; have := ok.depth; lia
  · show A.units + 1 + 40 * n ≤ 9000; have := ok.units; lia
  · obtain ⟨l, h1, h2⟩ := sk; exact ⟨l, h1, h2⟩
  · obtain ⟨rfl, hk⟩ := hk
    (first | obtain ⟨_, rfl⟩ := hv'.strI | obtain ⟨_, rfl⟩ := hv'.intI | obtain rfl := hv'.boolI | obtain rfl := hv'.noneI | cases hv')
    exact ⟨rfl, q _ _ _ _ (st.trans st') R' (.ref _) hk⟩
  · exact e _ _ _ _ (st.trans st') R' hv' hk
end
end Mine
end

section
open PySem PySem.W PyProof.Rows PySem.Calls
set_option Elab.async false
set_option genSizeOf false
set_option linter.unusedVariables false
namespace Mine
section
variable {KF : Params → Frag} {g : Gd KF} {c : Cx} {ρ : Loc} {H : AH} {X : XH} {k : AV → Loc → AH → Prop} {kb : Bool → Loc → AH → Prop} {x : AV → Loc → AH → Prop}

noncomputable def plainF : AV → Bool
  | .builtin _ => true
  | .type _ => true
  | _ => false
noncomputable def CallV (f : AV) (vs : List Value) : Sem Value := match f with
  | .builtin n => PySem.call (.builtin n) vs
  | .type n => PySem.call (.type n) vs
  | .ref a => PySem.call (.ref a) vs
  | _ => PySem.call .none vs
theorem plain_keeps {M : Model} {h : Heap} {f : AV} {fv : Value} (hf : plainF f = true) (hfv : VR h fv f) : (∀ h' : Heap, ∃ kp, (kp = Keeper.frame ∨ kp = Keeper.machine ∨ kp = Keeper.boundFrame) ∧ Looks M h' (keeperOf fv) kp) ∧ ∀ vs, CallV f vs = PySem.call fv vs := by
  cases f <;> first | ((first | obtain ⟨_, rfl⟩ := hf.strI | obtain ⟨_, rfl⟩ := hf.intI | obtain rfl := hf.boolI | obtain rfl := hf.noneI | cases hf); done) | ((first | obtain ⟨_, rfl⟩ := hfv.strI | obtain ⟨_, rfl⟩ := hfv.intI | obtain rfl := hfv.boolI | obtain rfl := hfv.noneI | cases hfv); exact ⟨fun h' => ⟨.machine, .inr (.inl rfl), Looks.of_pure rfl⟩, fun _ => rfl⟩)
theorem CW.plain {pos : Pos} {f : AV} {first : List AV} {es : List Expr} (hf : plainF f = true) (hplain : (backTo pos (starEach es c.env)).any (·.1) = false)
    (h : EvL g c pos es ρ H (fun vs ρ₁ H₁ => OpL g c VR (CallV f) (first ++ vs) ρ₁ H₁ k x) x) : CW g c pos f first es ρ H k x := fun s X Q E fv fs R hfv hfs q e => by
  have hv := plain_keeps (M := model g.prog g.w) hf hfv
  refine callWith_of (P := fun _ => True) (by rw [hplain]; rfl) (fun h' _ => hv.1 h') (evalArgs_list hplain ?_)
  exact h s X _ _ R (fun vs ds s₁ ρ₁ H₁ st₁ R₁ hvs h₁ => ⟨trivial, by
    have := h₁ s₁ X Q E (fs ++ vs) R₁ (.append (hfs.mono st₁.tup) hvs) (q.step st₁) (e.step st₁)
    rwa [hv.2] at this⟩) e

theorem Op2.of {α β : Type} {V : Heap → α → β → Prop} {f : Value → Value → Sem α} {a b : AV} {k : β → Loc → AH → Prop} {d : β}
    (h : ∀ (s : Shared) (va vb : Value) (Q : α → Shared → Prop) (E : Value → Shared → Prop), VR s.heap va a → VR s.heap vb b → (∀ v tk, V s.heap v d → Q v { s with toks := tk }) → wpAny (model g.prog g.w) c.A (f va vb) Q E s) (hk : k d ρ H) : Op2 g c V f a b ρ H k x :=
  fun s X Q E va vb R ha hb q e => h s va vb Q E ha hb fun v tk hv => q _ _ _ _ _ (Step.tok s tk) R hv hk
theorem Op1.of {α β : Type} {V : Heap → α → β → Prop} {f : Value → Sem α} {a : AV} {k : β → Loc → AH → Prop} {d : β}
    (h : ∀ (s : Shared) (va : Value) (Q : α → Shared → Prop) (E : Value → Shared → Prop), VR s.heap va a → (∀ v tk, V s.heap v d → Q v { s with toks := tk }) → wpAny (model g.prog g.w) c.A (f va) Q E s) (hk : k d ρ H) : Op1 g c V f a ρ H k x :=
  fun s X Q E va R ha q e => h s va Q E ha fun v tk hv => q _ _ _ _ _ (Step.tok s tk) R hv hk

variable {a b : Int} {u v : Str}
theorem Op2.add (h : k (.int (a + b)) ρ H) : Op2 g c VR (binaryOp .Add) (.int a) (.int b) ρ H k x := .of (fun s va vb Q E ha hb q => by obtain ⟨_, rfl⟩ := ha.intI; obtain ⟨_, rfl⟩ := hb.intI; exact add_int (q _ _ (.int _ _))) h
theorem Op2.mod (hb : b ≠ 0) (h : k (.int (a.fmod b)) ρ H) : Op2 g c VR (binaryOp .Mod) (.int a) (.int b) ρ H k x := .of (fun s va vb Q E ha hb' q => by obtain ⟨_, rfl⟩ := ha.intI; obtain ⟨_, rfl⟩ := hb'.intI; exact mod_int' hb (q _ _ (.int _ _))) h
theorem Op2.fdiv (hb : b ≠ 0) (hp : Builtin.divisionGoesByPylong a b = false) (h : k (.int (a.fdiv b)) ρ H) : Op2 g c VR (binaryOp .FloorDiv) (.int a) (.int b) ρ H k x := .of (fun s va vb Q E ha hb' q => by obtain ⟨_, rfl⟩ := ha.intI; obtain ⟨_, rfl⟩ := hb'.intI; exact floordiv_int hb (q _ _ (.int _ _)) (.inl hp)) h
theorem Op1.neg (h : k (.int (-a)) ρ H) : Op1 g c VR (unaryOp .USub) (.int a) ρ H k x := .of (fun s va Q E ha q => by obtain ⟨_, rfl⟩ := ha.intI; exact neg_int (q _ _ (.int _ _))) h
theorem Op2.lt (h : k (.bool (decide (a < b))) ρ H) : Op2 g c VR (compareOp .Lt) (.int a) (.int b) ρ H k x := .of (fun s va vb Q E ha hb q => by obtain ⟨_, rfl⟩ := ha.intI; obtain ⟨_, rfl⟩ := hb.intI; exact lt_int (q _ s.toks (.bool _))) h
theorem Op2.le (h : k (.bool (decide (a ≤ b))) ρ H) : Op2 g c VR (compareOp .LtE) (.int a) (.int b) ρ H k x := .of (fun s va vb Q E ha hb q => by obtain ⟨_, rfl⟩ := ha.intI; obtain ⟨_, rfl⟩ := hb.intI; exact le_int (q _ s.toks (.bool _))) h
theorem Op2.gt (h : k (.bool (decide (b < a))) ρ H) : Op2 g c VR (compareOp .Gt) (.int a) (.int b) ρ H k x := .of (fun s va vb Q E ha hb q => by obtain ⟨_, rfl⟩ := ha.intI; obtain ⟨_, rfl⟩ := hb.intI; exact gt_int (q _ s.toks (.bool _))) h
theorem Op2.ge (h : k (.bool (decide (b ≤ a))) ρ H) : Op2 g c VR (compareOp .GtE) (.int a) (.int b) ρ H k x := .of (fun s va vb Q E ha hb q => by obtain ⟨_, rfl⟩ := ha.intI; obtain ⟨_, rfl⟩ := hb.intI; exact ge_int (q _ s.toks (.bool _))) h
theorem Op2.eq (h : k (.bool (decide (a = b))) ρ H) : Op2 g c VR (compareOp .Eq) (.int a) (.int b) ρ H k x := .of (fun s va vb Q E ha hb q => by obtain ⟨_, rfl⟩ := ha.intI; obtain ⟨_, rfl⟩ := hb.intI; exact eq_int (q _ s.toks (.bool _))) h
theorem Op2.ne (h : k (.bool (!decide (a = b))) ρ H) : Op2 g c VR (compareOp .NotEq) (.int a) (.int b) ρ H k x := .of (fun s va vb Q E ha hb q => by obtain ⟨_, rfl⟩ := ha.intI; obtain ⟨_, rfl⟩ := hb.intI; exact ne_int (q _ s.toks (.bool _))) h
theorem Op2.eqS (h : k (.bool (decide (u = v))) ρ H) : Op2 g c VR (compareOp .Eq) (.str u) (.str v) ρ H k x := .of (fun s va vb Q E ha hb q => by obtain ⟨_, rfl⟩ := ha.strI; obtain ⟨_, rfl⟩ := hb.strI; exact eq_str (q _ s.toks (.bool _))) h
theorem Op2.neS (h : k (.bool (!decide (u = v))) ρ H) : Op2 g c VR (compareOp .NotEq) (.str u) (.str v) ρ H k x := .of (fun s va vb Q E ha hb q => by obtain ⟨_, rfl⟩ := ha.strI; obtain ⟨_, rfl⟩ := hb.strI; exact ne_str (q _ s.toks (.bool _))) h
theorem Op2.inS (h : k (.bool (!(Builtin.Str.occurrences v u 0 v.length 1).isEmpty)) ρ H) : Op2 g c VR (compareOp .In) (.str u) (.str v) ρ H k x := .of (fun s va vb Q E ha hb q => by obtain ⟨_, rfl⟩ := ha.strI; obtain ⟨_, rfl⟩ := hb.strI; exact in_str (q _ s.toks (.bool _))) h
theorem Op2.addS (hz : u.length + v.length ≤ sizeLine) (h : k (.str (u ++ v)) ρ H) : Op2 g c VR (binaryOp .Add) (.str u) (.str v) ρ H k x := .of (fun s va vb Q E ha hb q => by obtain ⟨_, rfl⟩ := ha.strI; obtain ⟨_, rfl⟩ := hb.strI; exact add_str (fun _ _ => q _ _ (.str _ _)) hz) h

noncomputable def isNone : AV → Bool
  | .none => true
  | _ => false
theorem VR.isNone {h : Heap} {v : Value} {d : AV} (z : VR h v d) : (v == Value.none) = Mine.isNone d := by (first | obtain ⟨_, rfl⟩ := z.strI | obtain ⟨_, rfl⟩ := z.intI | obtain rfl := z.boolI | obtain rfl := z.noneI | cases z) <;> rfl
theorem Op2.isN {d : AV} (h : k (.bool (isNone d)) ρ H) : Op2 g c VR (compareOp .Is) d .none ρ H k x := .of (fun s va vb Q E ha hb q => by (first | obtain ⟨_, rfl⟩ := hb.strI | obtain ⟨_, rfl⟩ := hb.intI | obtain rfl := hb.boolI | obtain rfl := hb.noneI | cases hb); exact is_none (q _ s.toks (by rw [ha.isNone]; exact .bool _))) h
theorem OpL.of {α β : Type} {V : Heap → α → β → Prop} {f : List Value → Sem α} {as : List AV} {k : β → Loc → AH → Prop} {d : β}
    (h : ∀ (s : Shared) (vs : List Value) (Q : α → Shared → Prop) (E : Value → Shared → Prop), VRs s.heap vs as → (∀ v tk, V s.heap v d → Q v { s with toks := tk }) → wpAny (model g.prog g.w) c.A (f vs) Q E s) (hk : k d ρ H) : OpL g c V f as ρ H k x :=
  fun s X Q E vs R ha q e => h s vs Q E ha fun v tk hv => q _ _ _ _ _ (Step.tok s tk) R hv hk
theorem OpL.chr (h0 : 0 ≤ a) (h1 : a ≤ 1114111) (h : k (.str ⟨#[a.toNat]⟩) ρ H) : OpL g c VR (CallV (.builtin "chr")) [.int a] ρ H k x := .of (fun s vs Q E ha q => by
  cases ha with
  | cons z r => (first | obtain ⟨_, rfl⟩ := z.strI | obtain ⟨_, rfl⟩ := z.intI | obtain rfl := z.boolI | obtain rfl := z.noneI | cases z); cases r; exact chr_of_range h0 h1 (q _ _ (.str _ _))) h
theorem OpL.ord {n : Nat} (h : k (.int n) ρ H) : OpL g c VR (CallV (.builtin "ord")) [.str ⟨#[n]⟩] ρ H k x := .of (fun s vs Q E ha q => by
  cases ha with
  | cons z r => (first | obtain ⟨_, rfl⟩ := z.strI | obtain ⟨_, rfl⟩ := z.intI | obtain rfl := z.boolI | obtain rfl := z.noneI | cases z); cases r; exact P.ord_of_char (q _ _ (.int _ _))) h

theorem Rep.list {cx : Cx} {h : Heap} {t : Addr} {vs : List AV} (R : Rep g cx h ρ H X) (hH : H t = some (.list vs)) : ∃ its n, h.get? t = some (listOf its.toArray n) ∧ VRs h its vs := (R.o.obj t _ hH).2
theorem isList_of {h : Heap} {t : Addr} {its : List Value} {n : Nat} (e : h.get? t = some (listOf its.toArray n)) : h.IsList t its.toArray := ⟨_, e, rfl, n, rfl⟩


theorem OpL.lenL {t : Addr} {vs : List AV} (hH : H t = some (.list vs)) (hz : vs.length < 2 ^ 60) (h : k (.int vs.length) ρ H) : OpL g c VR (CallV (.builtin "len")) [.ref t] ρ H k x := fun s X Q E ws R ha q e => by
  cases ha with
  | cons z r =>
    cases z.refInv
    cases r
    obtain ⟨its, n, h1, h2⟩ := R.list hH
    refine len_list (isList_of h1) (by rw [List.size_toArray, h2.length]; lia) (q _ _ _ _ _ (Step.tok s _) R ?_ h)
    rw [List.size_toArray, h2.length]
    exact .int _ _
theorem VRs.isTup {h : Heap} {v : Value} {ds : List AV} (z : VR h v (.tup ds)) : ∃ a vs, v = .ref a ∧ IsTup h a vs.toArray ∧ VRs h vs ds := by
  cases z with
  | tup e r => exact ⟨_, _, rfl, ⟨_, e, rfl, _, rfl⟩, r⟩
theorem Ev.sub {value slice : Expr} {pos : Pos} (h : Ev g c value ρ H (fun o ρ₁ H₁ => Ev g c slice ρ₁ H₁ (fun i ρ₂ H₂ => Op2 g c VR (subscriptTail value slice) o i ρ₂ H₂ k x) x) x) : Ev g c (.Subscript value slice pos) ρ H k x := fun s X Q E R q e =>
  Subscript_ (h s X _ _ R (fun a a' s₁ ρ₁ H₁ st₁ R₁ va h₁ => h₁ s₁ X _ _ R₁ (fun b b' s₂ ρ₂ H₂ st₂ R₂ vb h₂ =>
    h₂ s₂ X _ _ a b R₂ (va.mono st₂.tup) vb (q.step (st₁.trans st₂)) (e.step (st₁.trans st₂))) (e.step st₁)) e)
noncomputable def PlainSub (slice : Expr) : Prop := ∀ o i, subscripted slice false o i = operate [o, i] (getItem o i)
theorem Op2.itemL {value slice : Expr} {t : Addr} {vs : List AV} {i : Int} {d : AV} (hH : H t = some (.list vs)) (h0 : 0 ≤ i) (hz : i < 2 ^ 63) (hd : vs[i.toNat]? = some d) (h : k d ρ H) (hs : PlainSub slice := by intro _ _; with_unfolding_all rfl) :
    Op2 g c VR (subscriptTail value slice) (.ref t) (.int i) ρ H k x := fun s X Q E va vb R ha hb q e => by
  cases ha.refInv
  (first | obtain ⟨_, rfl⟩ := hb.strI | obtain ⟨_, rfl⟩ := hb.intI | obtain rfl := hb.boolI | obtain rfl := hb.noneI | cases hb)
  obtain ⟨its, n, h1, h2⟩ := R.list hH
  obtain ⟨v, h3, h4⟩ := h2.get hd
  have hl := isList_of h1
  exact tail_any hl.typeIs slot_list_getitem.lookup (wpAny_getItem_list hl h0 hz (by simpa using h3) (q _ _ _ _ _ (Step.refl s) R h4 h)) (hs _ _)
theorem Op2.itemLneg {value slice : Expr} {t : Addr} {vs : List AV} {i : Int} {d : AV} (hH : H t = some (.list vs)) (h0 : i < 0) (hz : -(2 ^ 63) ≤ i) (hn : -(vs.length : Int) ≤ i) (hd : vs[(i + vs.length).toNat]? = some d) (h : k d ρ H) (hs : PlainSub slice := by intro _ _; with_unfolding_all rfl) :
    Op2 g c VR (subscriptTail value slice) (.ref t) (.int i) ρ H k x := fun s X Q E va vb R ha hb q e => by
  cases ha.refInv
  (first | obtain ⟨_, rfl⟩ := hb.strI | obtain ⟨_, rfl⟩ := hb.intI | obtain rfl := hb.boolI | obtain rfl := hb.noneI | cases hb)
  obtain ⟨its, n, h1, h2⟩ := R.list hH
  obtain ⟨v, h3, h4⟩ := h2.get hd
  have hl := isList_of h1
  have hlen := h2.length
  exact tail_any hl.typeIs slot_list_getitem.lookup (wpAny_getItem_list_neg hl h0 (by rw [List.size_toArray, hlen]; exact hn) hz (by rw [List.size_toArray, hlen]; simpa using h3) (q _ _ _ _ _ (Step.refl s) R h4 h)) (hs _ _)
theorem Op2.itemT {value slice : Expr} {ds : List AV} {i : Int} {d : AV} (h0 : 0 ≤ i) (hz : i < 2 ^ 63) (hd : ds[i.toNat]? = some d) (h : k d ρ H) (hs : PlainSub slice := by intro _ _; with_unfolding_all rfl) :
    Op2 g c VR (subscriptTail value slice) (.tup ds) (.int i) ρ H k x := fun s X Q E va vb R ha hb q e => by
  obtain ⟨a, vs, rfl, h1, h2⟩ := VRs.isTup ha
  (first | obtain ⟨_, rfl⟩ := hb.strI | obtain ⟨_, rfl⟩ := hb.intI | obtain rfl := hb.boolI | obtain rfl := hb.noneI | cases hb)
  obtain ⟨v, h3, h4⟩ := h2.get hd
  have hlt : i.toNat < ds.length := (List.getElem?_eq_some_iff.mp hd).1
  have hlen := h2.length
  refine tail_any h1.typeIs slot_tuple_getitem.lookup (getItem_tuple h1 (by lia) hz (j := i.toNat) ?_ (by simpa using h3) (q _ _ _ _ _ (Step.refl s) R h4 h)) (hs _ _)
  unfold seqIndex?
  simp only [if_neg (show ¬ i < 0 by lia)]
  rw [if_pos]
  rw [Bool.and_eq_true, decide_eq_true_eq, decide_eq_true_eq, List.size_toArray, hlen]
  lia

theorem Ev.tuple {es : List Expr} {n : Nat} {pos : Pos} (h : EvL g c pos es ρ H (fun vs ρ₁ H₁ => vs.length ≤ 1000000 ∧ k (.tup vs) ρ₁ H₁) x) : Ev g c (.Tuple es n pos) ρ H k x := fun s X Q E R q e =>
  wpAny_Tuple (h s X _ _ R (fun vs ds s₁ ρ₁ H₁ st₁ R₁ hvs h₁ => ⟨by rw [sizeLine_eq, hvs.length]; lia, by
    have hk : ∀ b o, s₁.heap.get? b = some o → (s₁.heap.push { cls := .type "tuple", data := .seq vs.toArray }).get? b = some o := fun b o e => Heap.get?_push_of_some _ e
    refine q _ _ _ _ _ (st₁.trans (s₃ := { s₁ with heap := s₁.heap.push { cls := .type "tuple", data := .seq vs.toArray } }) ⟨rfl, .of_keep hk⟩) (R₁.push _) ?_ h₁.2
    exact .tup (n := 0) (Heap.get?_push_size _ rfl) (hvs.mono (.of_keep hk))⟩) e)
theorem Ev.list {es : List Expr} {pos : Pos} (h : EvL g c pos es ρ H (fun vs ρ₁ H₁ => vs.length ≤ 1000000 ∧ ∀ a, H₁ a = none → k (.ref a) ρ₁ (upd H₁ a (.list vs))) x) : Ev g c (.List es pos) ρ H k x := fun s X Q E R q e =>
  wpAny_List (h s X _ _ R (fun vs ds s₁ ρ₁ H₁ st₁ R₁ hvs h₁ => ⟨by rw [sizeLine_eq, hvs.length]; lia, by
    have hk : ∀ b o, s₁.heap.get? b = some o → (s₁.heap.push { cls := .type "list", data := .seq vs.toArray }).get? b = some o := fun b o e => Heap.get?_push_of_some _ e
    refine q _ _ _ _ _ (st₁.trans (s₃ := { s₁ with heap := s₁.heap.push { cls := .type "list", data := .seq vs.toArray } }) ⟨rfl, .of_keep hk⟩) (R₁.alloc ?_) (.ref _) (h₁.2 _ R₁.o.fresh)
    exact ⟨vs, 0, Heap.get?_push_size _ rfl, hvs.mono (.of_keep hk)⟩⟩) e)
end
end Mine
end

section
open PySem PySem.W PyProof.Rows PySem.Calls
set_option Elab.async false
set_option genSizeOf false
set_option linter.unusedVariables false
namespace Mine
theorem ifT {p : Prop} [Decidable p] {A B : Prop} (h : p) (a : A) : if p then A else B := by rw [if_pos h]; exact a
theorem ifF {p : Prop} [Decidable p] {A B : Prop} (h : ¬ p) (b : B) : if p then A else B := by rw [if_neg h]; exact b
theorem ifDT {p : Prop} [Decidable p] {A B : Prop} (h : p) (a : A) : if decide p = true then A else B := ifT (decide_eq_true h) a
theorem ifDF {p : Prop} [Decidable p] {A B : Prop} (h : ¬ p) (b : B) : if decide p = true then A else B := ifF (by rw [decide_eq_false h]; decide) b
theorem ifDS {p : Prop} [Decidable p] {A B : Prop} (a : p → A) (b : ¬ p → B) : if decide p = true then A else B := by
  by_cases h : p
  · exact ifDT h (a h)
  · exact ifDF h (b h)
theorem ifNT {p : Prop} [Decidable p] {A B : Prop} (h : ¬ p) (a : A) : if (!decide p) = true then A else B := ifT (by rw [decide_eq_false h]; rfl) a
theorem ifNF {p : Prop} [Decidable p] {A B : Prop} (h : p) (b : B) : if (!decide p) = true then A else B := ifF (by rw [decide_eq_true h]; decide) b
theorem ifNS {p : Prop} [Decidable p] {A B : Prop} (a : ¬ p → A) (b : p → B) : if (!decide p) = true then A else B := by
  by_cases h : p
  · exact ifNF h (b h)
  · exact ifNT h (a h)
theorem then_next {KF : Params → Frag} {g : Gd KF} {c : Cx} {rest : List Stmt} {k : AF → Loc → AH → Prop} {x : AV → Loc → AH → Prop} {ρ : Loc} {H : AH} (h : Exs g c rest ρ H k x) : Then g c rest k x .next ρ H := h
theorem then_ret {KF : Params → Frag} {g : Gd KF} {c : Cx} {rest : List Stmt} {k : AF → Loc → AH → Prop} {x : AV → Loc → AH → Prop} {ρ : Loc} {H : AH} {v : AV} (h : k (.ret v) ρ H) : Then g c rest k x (.ret v) ρ H := h
theorem turn_next {KF : Params → Frag} {g : Gd KF} {c : Cx} {t : Expr} {b : List Stmt} {k : AF → Loc → AH → Prop} {x : AV → Loc → AH → Prop} {ρ : Loc} {H : AH} (h : Lp g c t b ρ H k x) : Turn g c t b k x .next ρ H := h
theorem turn_ret {KF : Params → Frag} {g : Gd KF} {c : Cx} {t : Expr} {b : List Stmt} {k : AF → Loc → AH → Prop} {x : AV → Loc → AH → Prop} {ρ : Loc} {H : AH} {v : AV} (h : k (.ret v) ρ H) : Turn g c t b k x (.ret v) ρ H := h
theorem GV.ref {KF : Params → Frag} {g : Gd KF} {a : Addr} : GV g (.ref a) (.ref a) := fun _ _ => .ref _
theorem GV.int {KF : Params → Frag} {g : Gd KF} {i : Int} {t : Tok} : GV g (.int i t) (.int i) := fun _ _ => .int _ _
theorem GV.str {KF : Params → Frag} {g : Gd KF} {i : Str} {t : Tok} : GV g (.str i t) (.str i) := fun _ _ => .str _ _
theorem lookF_same {r : List (Str × AV)} {y : Str} {v : AV} : lookF ((y, v) :: r) y = some v := if_pos rfl
theorem lookF_next {r : List (Str × AV)} {y z : Str} {v : AV} {w : Option AV} (h : (y == z) = false) (e : lookF r z = w) : lookF ((y, v) :: r) z = w := (if_neg (beq_eq_false_iff_ne.mp h)).trans e
theorem putF_same {r : List (Str × AV)} {y : Str} {v w : AV} : putF ((y, w) :: r) y v = (y, v) :: r := if_pos rfl
theorem putF_next {r r' : List (Str × AV)} {y z : Str} {v w : AV} (h : (y == z) = false) (e : putF r z v = r') : putF ((y, w) :: r) z v = (y, w) :: r' := (if_neg (beq_eq_false_iff_ne.mp h)).trans (by rw [e])
theorem upd_other {H : AH} {a b : Addr} {o : AObj} {o' : Option AObj} (h : b ≠ a) (e : H b = o') : upd H a o b = o' := (upd_ne h).trans e
theorem setL_other {ρ : Loc} {x y : Str} {v : AV} {o : Option AV} (h : (y == x) = false) (e : ρ y = o) : setL ρ x v y = o := (setL_ne (beq_eq_false_iff_ne.mp h)).trans e
theorem Op2.setF {KF : Params → Frag} {g : Gd KF} {c : Cx} {ρ : Loc} {H : AH} {x : AV → Loc → AH → Prop} {t C d : Addr} {fs fs' : List (Str × AV)} {attr : Str} {v : AV} {k : Unit → Loc → AH → Prop} (hH : H t = some (.inst C d fs)) (hc : ClsF (KF g.w.params) C) (ha : findIn (KF g.w.params) (.ref C) attr = some none) (hf : putF fs attr v = fs') (hz : fs.length ≤ 900)
    (h : k () ρ (upd H t (.inst C d fs'))) : Op2 g c (fun _ (_ : Unit) (_ : Unit) => True) (fun a b => setAttr a attr b) (.ref t) v ρ H k x := .setField hH hc ha hz (by rw [hf]; exact h)
theorem Op1.getF {KF : Params → Frag} {g : Gd KF} {c : Cx} {ρ : Loc} {H : AH} {k : AV → Loc → AH → Prop} {x : AV → Loc → AH → Prop} {t C d : Addr} {fs : List (Str × AV)} {attr : Str} {v : AV} (hH : H t = some (.inst C d fs)) (hc : ClsF (KF g.w.params) C) (ha : findIn (KF g.w.params) (.ref C) attr = some none) (hl : lookF fs attr = some v) (hb : notBi v = true)
    (h : k v ρ H) : Op1 g c VR (fun o => getAttr o attr true) (.ref t) ρ H k x := .field hH hc ha rfl hl hb h
end Mine
end

section
open PySem PySem.W PyProof.Rows PySem.Calls
set_option Elab.async false
set_option genSizeOf false
set_option linter.unusedVariables false
namespace Mine
noncomputable abbrev XE := Addr → Option Obj
noncomputable def ovr (X : XH) (XI : XE) : XH := fun a => match XI a with
  | some o => some (.exact o)
  | none => X a
theorem ovr_none {X : XH} {XI : XE} {a : Addr} (e : XI a = none) : ovr X XI a = X a := by unfold ovr; rw [e]
theorem ovr_some {X : XH} {XI : XE} {a : Addr} {o : Obj} (e : XI a = some o) : ovr X XI a = some (.exact o) := by unfold ovr; rw [e]
theorem ovr_isnone {X : XH} {XI : XE} {a : Addr} (e : ovr X XI a = none) : XI a = none ∧ X a = none := by
  cases q : XI a with
  | some o => rw [ovr_some q] at e; cases e
  | none => rw [ovr_none q] at e; exact ⟨rfl, e⟩
noncomputable def one (I : Addr) (o : Obj) : XE := fun a => if a = I then some o else none
theorem one_same (I : Addr) (o : Obj) : one I o I = some o := if_pos rfl
theorem one_some {I a : Addr} {o o' : Obj} (e : one I o a = some o') : a = I ∧ o = o' := by
  unfold one at e
  split at e
  · rename_i q; exact ⟨q, Option.some.inj e⟩
  · cases e
noncomputable def ExtOff (XI : XE) (h h' : Heap) : Prop := ∀ b o, XI b = none → h.get? b = some o → h'.get? b = some o
theorem ExtOff.one {I : Addr} {o : Obj} {h h' : Heap} (e : Heap.ExtBut I h h') : ExtOff (Mine.one I o) h h' := fun b ob q eb => e b ob (fun e' => by subst e'; rw [one_same] at q; cases q) eb

section
variable {KF : Params → Frag} {g : Gd KF} {c : Cx} {ρ : Loc} {H : AH} {X : XH} {x : AV → Loc → AH → Prop}

theorem Rep.master {cx : Cx} {h h' : Heap} (R : Rep g cx h ρ H X) (S : Addr → Prop) (ext : ∀ b o, ¬ S b → h.get? b = some o → h'.get? b = some o) (kp : TupKeep h h')
    (hS : ∀ b, S b → H b = none ∧ X b = none ∧ b ≠ cx.env.locals ∧ g.hb.objs.size ≤ b ∧ ∀ y, cx.env.cells.lookup y ≠ some b) : Rep g cx h' ρ H X := by
  obtain ⟨m, h1, h2⟩ := R.f.ns
  have nl : ¬ S cx.env.locals := fun q => (hS _ q).2.2.1 rfl
  have hns : h'.Ns cx.env.locals m := by
    obtain ⟨oL, es, ep, hL, hr⟩ := h1
    exact ⟨oL, es, ep, ext _ _ nl hL, hr⟩
  refine ⟨⟨fun b o e => ext b o (fun q => ?_) (R.o.keep b o e), Nat.le_trans R.f.nL.1 (Nat.le_of_lt hns.lt), fun b o e => ?_, fun b o e => ?_⟩, ⟨⟨m, hns, h2.mono kp fun y c v hc q => IsCell.at q fun o => ext c o fun q' => (hS _ q').2.2.2.2 y hc⟩, R.f.nL, fun y c e => ?_, R.f.inj, R.f.stk⟩⟩
  · exact absurd (Heap.lt_size e) (Nat.not_lt.mpr (hS b q).2.2.2.1)
  · have w := R.o.obj b o e
    refine ⟨w.1, w.2.keep kp fun b' ob hb _ e' => ext b' ob (fun q => ?_) e'⟩
    have := (hS b' q).1
    rcases hb with rfl | hb
    · rw [e] at this; cases this
    · rw [hb] at this; cases this
  · have w := R.o.ext b o e
    exact ⟨w.1.keep fun o' => ext b o' (fun q => by have := (hS b q).2.1; rw [e] at this; cases this), w.2⟩
  · obtain ⟨h1, h2, h3, h4, v, h5⟩ := R.f.cl y c e
    exact ⟨h1, h2, h3, h4, v, IsCell.at h5 fun o => ext c o fun q' => (hS _ q').2.2.2.2 y e⟩
theorem Stk.weaken {b : Addr} {cx : Cx} {X : XH} {XI : XE} (k : Stk b cx (ovr X XI)) : Stk b cx X := by
  obtain ⟨l, h1, h2, h3, h4⟩ := k
  have key : ∀ M, (∃ o, ovr X XI M = some (.loose o)) → ∃ o, X M = some (.loose o) := fun M ⟨o, w⟩ => ⟨o, by
    cases q : XI M with
    | none => rwa [ovr_none q] at w
    | some o' => rw [ovr_some q] at w; cases w⟩
  refine ⟨l, h1, h2, fun e he => ?_, fun M e => (h4 M e).imp id (key M)⟩
  obtain ⟨k1, M, k2, k3, k4⟩ := h3 e he
  exact ⟨k1, M, k2, k3, k4.imp id (key M)⟩
theorem Stk.over {b : Addr} {cx : Cx} {X : XH} {XI : XE} (k : Stk b cx X) (hd : ∀ a o, XI a = some o → X a = none) : Stk b cx (ovr X XI) := by
  obtain ⟨l, h1, h2, h3, h4⟩ := k
  have key : ∀ M, (∃ o, X M = some (.loose o)) → ∃ o, ovr X XI M = some (.loose o) := fun M ⟨o, w⟩ => ⟨o, by
    cases q : XI M with
    | none => rw [ovr_none q]; exact w
    | some o' => rw [hd M o' q] at w; cases w⟩
  refine ⟨l, h1, h2, fun e he => ?_, fun M e => (h4 M e).imp id (key M)⟩
  obtain ⟨k1, M, k2, k3, k4⟩ := h3 e he
  exact ⟨k1, M, k2, k3, k4.imp id (key M)⟩
theorem Rep.weaken {cx : Cx} {h : Heap} {XI : XE} (R : Rep g cx h ρ H (ovr X XI)) (hd : ∀ a o, XI a = some o → X a = none) : Rep g cx h ρ H X :=
  ⟨⟨R.o.keep, R.o.size, R.o.obj, fun b o e => R.o.ext b o (by
    cases q : XI b with
    | none => exact (ovr_none q).trans e
    | some o' => rw [hd b o' q] at e; cases e)⟩,
   ⟨R.f.ns, ⟨R.f.nL.1, R.f.nL.2.1, (ovr_isnone R.f.nL.2.2).2⟩, fun y c e => let ⟨h1, h2, h3, h4⟩ := R.f.cl y c e; ⟨h1, h2, fun hf => (ovr_isnone (h3 hf)).2, h4⟩, R.f.inj, R.f.stk.weaken⟩⟩
theorem Rep.addX {cx : Cx} {h : Heap} {XI : XE} (R : Rep g cx h ρ H X) (hi : ∀ b o, XI b = some o → h.get? b = some o ∧ H b = none ∧ g.hb.objs.size ≤ b ∧ b ≠ cx.env.locals ∧ ∀ y, cx.env.cells.lookup y ≠ some b) (hX : ∀ b o, XI b = some o → X b = none) : Rep g cx h ρ H (ovr X XI) := by
  have no : ∀ b, (∀ o, XI b = some o → False) → XI b = none := fun b q => by
    cases e : XI b with
    | none => rfl
    | some o => exact (q o e).elim
  refine ⟨⟨R.o.keep, R.o.size, R.o.obj, fun b o e => ?_⟩, ⟨R.f.ns, ⟨R.f.nL.1, R.f.nL.2.1, ?_⟩, fun y c e => ?_, R.f.inj, R.f.stk.over hX⟩⟩
  · cases q : XI b with
    | none => rw [ovr_none q] at e; exact R.o.ext b o e
    | some o' => rw [ovr_some q] at e; cases e; obtain ⟨h1, h2, h3, _⟩ := hi b _ q; exact ⟨h1, h2, h3⟩
  · exact (ovr_none (no _ fun o e => (hi _ o e).2.2.2.1 rfl)).trans R.f.nL.2.2
  · obtain ⟨h1, h2, h3, h4⟩ := R.f.cl y c e
    exact ⟨h1, h2, fun hf => (ovr_none (no _ fun o e' => (hi _ o e').2.2.2.2 y e)).trans (h3 hf), h4⟩
structure Off (X : XH) (env : Env) (XI : XE) : Prop where
  x : ∀ a o, XI a = some o → X a = none
  c : ∀ a o, XI a = some o → ∀ y, env.cells.lookup y ≠ some a
theorem Off.dom {env : Env} {XI XI' : XE} (f : Off X env XI) (hd : ∀ a, (XI' a).isSome = (XI a).isSome) : Off X env XI' := by
  have key : ∀ a o, XI' a = some o → ∃ o', XI a = some o' := fun a o e => by have := hd a; rw [e] at this; exact Option.isSome_iff_exists.mp this.symm
  exact ⟨fun a o e => let ⟨o', e'⟩ := key a o e; f.x a o' e', fun a o e => let ⟨o', e'⟩ := key a o e; f.c a o' e'⟩
theorem Rep.offS {cx : Cx} {h : Heap} {XI : XE} (R : Rep g cx h ρ H (ovr X XI)) (f : Off X cx.env XI) (b : Addr) (o : Obj) (e : XI b = some o) : H b = none ∧ X b = none ∧ b ≠ cx.env.locals ∧ g.hb.objs.size ≤ b ∧ ∀ y, cx.env.cells.lookup y ≠ some b :=
  ⟨(R.o.ext b _ (ovr_some e)).2.1, f.x b o e, (fun q => by have := (ovr_isnone R.f.nL.2.2).1; rw [← q, e] at this; cases this), (R.o.ext b _ (ovr_some e)).2.2, f.c b o e⟩
theorem Rep.leave {cx : Cx} {h h' : Heap} {XI : XE} (R : Rep g cx h ρ H (ovr X XI)) (f : Off X cx.env XI) (ext : ExtOff XI h h') (kp : TupKeep h h') : Rep g cx h' ρ H X :=
  (R.weaken f.x).master (fun b => XI b ≠ none) (fun b o q e => ext b o (by
    cases q' : XI b with
    | none => rfl
    | some o' => exact (q (by rw [q']; intro z; cases z)).elim) e) kp fun b q => by
    obtain ⟨o, e⟩ := Option.ne_none_iff_exists'.mp q
    exact R.offS f b o e
theorem Rep.turn {cx : Cx} {h h' : Heap} {XI XI' : XE} (R : Rep g cx h ρ H (ovr X XI)) (f : Off X cx.env XI) (ext : ExtOff XI h h') (kp : TupKeep h h') (hd : ∀ a, (XI' a).isSome = (XI a).isSome) (hi : ∀ a o, XI' a = some o → h'.get? a = some o) : Rep g cx h' ρ H (ovr X XI') :=
  (R.leave f ext kp).addX (fun b o e => by
    have := hd b; rw [e] at this
    obtain ⟨o', e'⟩ := Option.isSome_iff_exists.mp this.symm
    have z := R.offS f b o' e'
    exact ⟨hi b o e, z.1, z.2.2.2.1, z.2.2.1, z.2.2.2.2⟩) (f.dom hd).x

noncomputable def ItP {KF : Params → Frag} (g : Gd KF) (A : Around) (tg : Expr) (it : Value) (D : AH → Prop) : List AV → Heap → XE → Prop
  | [], h0, XI => ∀ (s : Shared) (H : AH) (X : XH) (Q : Option Value → Shared → Prop) (E : Value → Shared → Prop), Rep0 g s.heap H (ovr X XI) → TupKeep h0 s.heap → D H →
      (∀ h', ExtOff XI s.heap h' → TupKeep s.heap h' → Q none { s with heap := h' }) → wpAny (model g.prog g.w) A (pyNext it) Q E s
  | v :: vs, h0, XI => ∀ (s : Shared) (H : AH) (X : XH) (Q : Option Value → Shared → Prop) (E : Value → Shared → Prop), Rep0 g s.heap H (ovr X XI) → TupKeep h0 s.heap → D H →
      (∀ x h' tk XI', ExtOff XI s.heap h' → TupKeep s.heap h' → (∀ a, (XI' a).isSome = (XI a).isSome) → (∀ a o, XI' a = some o → h'.get? a = some o) → VR h' x v → ItP g A tg it D vs h' XI' →
        (∀ Q' E', Q' () { s with heap := h', toks := tk } → wpAny (model g.prog g.w) A (letOwnedTupleGo tg it x) Q' E' { s with heap := h', toks := tk }) → Q (some x) { s with heap := h', toks := tk }) → wpAny (model g.prog g.w) A (pyNext it) Q E s
noncomputable def ItI {KF : Params → Frag} (g : Gd KF) (A : Around) (it : Value) (XI : XE) : Prop :=
  ∀ (s : Shared) (Q : Value → Shared → Prop) (E : Value → Shared → Prop), (∀ a o, XI a = some o → s.heap.get? a = some o) → Q it s → wpAny (model g.prog g.w) A (pyIter it) Q E s

theorem letGo_plain {A : Around} {s : Shared} {tg : Expr} {I : Addr} {xv : Value} {o : Obj} {n : String} {Q : Unit → Shared → Prop} {E : Value → Shared → Prop} (ho : s.heap.get? I = some o) (hc : o.cls = .type n)
    (hn : (["enumerate", "zip", "dict_itemiterator", "dict_reverseitemiterator", "odict_iterator", "itertools.zip_longest", "itertools.pairwise"].contains n) = false) (h : Q () s) :
    wpAny (model g.prog g.w) A (letOwnedTupleGo tg (.ref I) xv) Q E s := by
  have key : ∀ a : Addr, wpAny (model g.prog g.w) A (do
      let o ← load I
      match o.cls, o.data with
      | .type n, .fields vs =>
        if ["enumerate", "zip", "dict_itemiterator", "dict_reverseitemiterator", "odict_iterator", "itertools.zip_longest", "itertools.pairwise"].contains n && vs[0]? == some (rawInt a) then
          rule "for.unpacks-the-owned-tuple"
          updateField I 0 .none
      | _, _ => pure ()) Q E s := fun a => by
    refine wpAny_bind (wpAny_load ho ?_)
    rw [hc]
    cases o.data <;> first
      | exact wpAny_pure h
      | (dsimp only
         rw [hn, Bool.false_and, if_neg Bool.false_ne_true]
         exact wpAny_pure h)
  cases tg <;> first
    | exact wpAny_pure h
    | (cases xv <;> first | exact wpAny_pure h | exact key _)

theorem drop_eq {α : Type} {all : List α} {i : Nat} {v : α} {vs : List α} (e : all.drop i = v :: vs) : all[i]? = some v ∧ all.drop (i + 1) = vs := by
  constructor
  · rw [← List.head?_drop, e]; rfl
  · rw [← List.tail_drop, e]; rfl
theorem drop_nil {α : Type} {all : List α} {i : Nat} (e : all.drop i = []) : all[i]? = none := by rw [← List.head?_drop, e]; rfl
theorem VRs.none {h : Heap} {vs : List Value} {ds : List AV} (z : VRs h vs ds) {i : Nat} (e : ds[i]? = Option.none) : vs[i]? = Option.none := by
  rw [List.getElem?_eq_none_iff] at e ⊢
  rw [z.length]; exact e
theorem one_dom {I : Addr} {o o' : Obj} (a : Addr) : (one I o' a).isSome = (one I o a).isSome := by unfold one; split <;> rfl

theorem ItP.list {A : Around} {tg : Expr} {I l : Addr} {all : List AV} (hh : A.handled = none) : ∀ (rest : List AV) (i : Nat) (h0 : Heap) (o : Obj), all.drop i = rest → o.cls = .type "list_iterator" → o.data = .fields #[.ref l, .int i 0] →
    ItP g A tg (.ref I) (fun H => H l = some (.list all)) rest h0 (one I o)
  | [], i, h0, o, hr, hc, hd => fun s H X Q E R kp hD q => by
    have ho := (R.ext I _ (ovr_some (one_same I o))).1
    obtain ⟨its, n, h1, h2⟩ := (R.obj l _ hD).2
    refine wpAny_pyNext_list_end hh ⟨o, ho, hc, hd⟩ (isList_of h1) (by rw [List.getElem?_toArray]; exact h2.none (drop_nil hr)) fun h' e => q h' (.one e) (.extBut e ho (.of_cls (by rw [hc]; simp)))
  | v :: vs, i, h0, o, hr, hc, hd => fun s H X Q E R kp hD q => by
    have ho := (R.ext I _ (ovr_some (one_same I o))).1
    obtain ⟨its, n, h1, h2⟩ := (R.obj l _ hD).2
    obtain ⟨hv, hr'⟩ := drop_eq hr
    obtain ⟨x, hx, hxv⟩ := h2.get hv
    refine wpAny_pyNext_list_item ⟨o, ho, hc, hd⟩ (isList_of h1) (by rw [List.getElem?_toArray]; exact hx) fun h' hit' hs' => ?_
    obtain ⟨o', ho', hc', hd'⟩ := hit'
    have kp' : TupKeep s.heap h' := .extBut hs'.extBut ho (.of_cls (by rw [hc]; simp))
    exact q x h' s.toks (one I o') (.one hs'.extBut) kp' one_dom (fun a ob e => by obtain ⟨rfl, rfl⟩ := one_some e; exact ho') (hxv.mono kp') (ItP.list hh vs (i + 1) h' o' hr' hc' hd') fun Q' E' hq => letGo_plain ho' hc' (by decide) hq
theorem ItP.tup {A : Around} {tg : Expr} {I t : Addr} {all : List AV} {its : List Value} {n : Nat} (hh : A.handled = none) : ∀ (rest : List AV) (i : Nat) (h0 : Heap) (o : Obj), all.drop i = rest → h0.get? t = some (tupObj its n) → VRs h0 its all → t ≠ I → o.cls = .type "tuple_iterator" → o.data = .fields #[.ref t, .int i 0] →
    ItP g A tg (.ref I) (fun _ => True) rest h0 (one I o)
  | [], i, h0, o, hr, ht, h2, hne, hc, hd => fun s H X Q E R kp hD q => by
    have ho := (R.ext I _ (ovr_some (one_same I o))).1
    have ht' := kp _ _ _ _ ht rfl rfl
    refine wpAny_pyNext_tuple_end hh ⟨o, ho, hc, hd⟩ ⟨_, ht', rfl, _, rfl⟩ (by rw [List.getElem?_toArray]; exact h2.none (drop_nil hr)) fun h' e => q h' (.one e) (.extBut e ho (.of_cls (by rw [hc]; simp)))
  | v :: vs, i, h0, o, hr, ht, h2, hne, hc, hd => fun s H X Q E R kp hD q => by
    have ho := (R.ext I _ (ovr_some (one_same I o))).1
    have ht' := kp _ _ _ _ ht rfl rfl
    obtain ⟨hv, hr'⟩ := drop_eq hr
    obtain ⟨x, hx, hxv⟩ := h2.get hv
    refine wpAny_pyNext_tuple_item ⟨o, ho, hc, hd⟩ ⟨_, ht', rfl, _, rfl⟩ (by rw [List.getElem?_toArray]; exact hx) fun h' hit' hs' => ?_
    obtain ⟨o', ho', hc', hd'⟩ := hit'
    have kp' : TupKeep s.heap h' := .extBut hs'.extBut ho (.of_cls (by rw [hc]; simp))
    exact q x h' s.toks (one I o') (.one hs'.extBut) kp' one_dom (fun a ob e => by obtain ⟨rfl, rfl⟩ := one_some e; exact ho') (hxv.mono (kp.trans kp'))
      (ItP.tup hh vs (i + 1) h' o' hr' (kp' _ _ _ _ ht' rfl rfl) (h2.mono (kp.trans kp')) hne hc' hd') fun Q' E' hq => letGo_plain ho' hc' (by decide) hq
noncomputable def rngObj (x left step : Int) : Obj := { cls := .type "range_iterator", dict := none, data := .fields #[rawInt x, rawInt left, rawInt step], slots := #[] }
noncomputable def rngFrom (a : Int) : Nat → List AV
  | 0 => []
  | n + 1 => .int a :: rngFrom (a + 1) n
theorem ItP.rng {A : Around} {tg : Expr} {I : Addr} (hh : A.handled = none) : ∀ (n : Nat) (a : Int) (h0 : Heap), ItP g A tg (.ref I) (fun _ => True) (rngFrom a n) h0 (one I (rngObj a n 1))
  | 0, a, h0 => fun s H X Q E R kp hD q => by
    have ho := (R.ext I _ (ovr_some (one_same I _))).1
    exact wpAny_pyNext_range_end hh ho (by decide) fun h' e => q h' (.one e) (.extBut e ho (.of_cls (by unfold rngObj; simp)))
  | n + 1, a, h0 => fun s H X Q E R kp hD q => by
    have ho := (R.ext I _ (ovr_some (one_same I _))).1
    refine wpAny_pyNext_range_item ho (by lia) fun h' hit' hs' => ?_
    have e1 : ((n + 1 : Nat) : Int) - 1 = n := by lia
    rw [e1] at hit'
    have kp' : TupKeep s.heap h' := .extBut hs'.extBut ho (.of_cls (by unfold rngObj; simp))
    exact q (.int a s.toks) h' (s.toks + 1) (one I (rngObj (a + 1) n 1)) (.one hs'.extBut) kp' one_dom (fun a' ob e => by obtain ⟨rfl, rfl⟩ := one_some e; exact hit') (.int _ _) (ItP.rng hh n (a + 1) h') fun Q' E' hq => letGo_plain (n := "range_iterator") hit' rfl (by decide) hq
noncomputable def chrs (x : Str) : List AV := x.cps.toList.map fun c => AV.str ⟨#[c]⟩
theorem ItP.str {A : Around} {tg : Expr} {I : Addr} {y : Str} {t : Tok} (hh : A.handled = none) : ∀ (rest : List AV) (i : Nat) (h0 : Heap) (o : Obj), (chrs y).drop i = rest → o.cls = .type "str_ascii_iterator" → o.data = .fields #[.str y t, .int i 0] → ItP g A tg (.ref I) (fun _ => True) rest h0 (one I o)
  | [], i, h0, o, hr, hc, hd => fun s H X Q E R kp hD q => by
    have ho := (R.ext I _ (ovr_some (one_same I _))).1
    have hx : y.cps[i]? = none := by
      have := drop_nil hr
      unfold chrs at this
      rw [List.getElem?_map] at this
      rw [← Array.getElem?_toList]
      cases e : y.cps.toList[i]? with
      | none => rfl
      | some z => rw [e] at this; cases this
    exact wpAny_pyNext_ascii_end hh ⟨o, ho, hc, hd⟩ hx fun h' e => q h' (.one e) (.extBut e ho (.of_cls (by rw [hc]; simp)))
  | v :: vs, i, h0, o, hr, hc, hd => fun s H X Q E R kp hD q => by
    have ho := (R.ext I _ (ovr_some (one_same I _))).1
    obtain ⟨hv, hr'⟩ := drop_eq hr
    obtain ⟨c, hx, rfl⟩ : ∃ c, y.cps[i]? = some c ∧ AV.str ⟨#[c]⟩ = v := by
      unfold chrs at hv
      rw [List.getElem?_map] at hv
      cases e : y.cps.toList[i]? with
      | none => rw [e] at hv; cases hv
      | some z => rw [e] at hv; exact ⟨z, by rw [← Array.getElem?_toList]; exact e, Option.some.inj hv⟩
    refine wpAny_pyNext_ascii_item ⟨o, ho, hc, hd⟩ hx fun h' hit' hs' => ?_
    obtain ⟨o', ho', hc', hd'⟩ := hit'
    have kp' : TupKeep s.heap h' := .extBut hs'.extBut ho (.of_cls (by rw [hc]; simp))
    exact q _ h' _ (one I o') (.one hs'.extBut) kp' one_dom (fun a' ob e => by obtain ⟨rfl, rfl⟩ := one_some e; exact ho') (.str _ _) (ItP.str hh vs (i + 1) h' o' hr' hc' hd') fun Q' E' hq => letGo_plain ho' hc' (by decide) hq
end
end Mine
end

section
open PySem PySem.W PyProof.Rows PySem.Calls
set_option Elab.async false
set_option genSizeOf false
set_option linter.unusedVariables false
namespace Mine
section
variable {KF : Params → Frag} {g : Gd KF} {c : Cx} {ρ : Loc} {H : AH} {X : XH} {x : AV → Loc → AH → Prop}

theorem Rep.ext1 {cx : Cx} {h h' : Heap} (R : Rep g cx h ρ H X) (e : Heap.ExtBut h.objs.size h h') : Rep g cx h' ρ H X ∧ TupKeep h h' := by
  have kp : TupKeep h h' := fun a o its n ho _ _ => e a o (Nat.ne_of_lt (Heap.lt_size ho)) ho
  refine ⟨R.master (fun b => b = h.objs.size) (fun b o q ho => e b o q ho) kp fun b q => ?_, kp⟩
  subst q
  exact ⟨R.o.fresh, R.freshX, (Nat.ne_of_lt R.freshL).symm, R.o.size, fun y hy => absurd (R.freshC hy) (Nat.lt_irrefl _)⟩

noncomputable abbrev As {KF : Params → Frag} (g : Gd KF) (c : Cx) (tg : Expr) (v : AV) (ρ : Loc) (H : AH) (k : Loc → AH → Prop) : Prop :=
  ∀ (s : Shared) (X : XH) (Q : Unit → Shared → Prop) (E : Value → Shared → Prop) (vv : Value), Rep g c s.heap ρ H X → VR s.heap vv v →
    (∀ s' ρ' H', Step s s' → Rep g c s'.heap ρ' H' X → k ρ' H' → Q () s') → wpAny (model g.prog g.w) c.A (assign tg c.env vv) Q E s
theorem As.name {y : Str} {pos : Pos} {v : AV} {k : Loc → AH → Prop} (h : k (setL ρ y v) H) (hS : Stores c y) : As g c (.Name y pos) v ρ H k := fun s X Q E vv R hv q =>
  wpAny_assign_Name (storeA hS R hv fun s' st R' => q s' _ _ st R' h)
noncomputable def AsL {KF : Params → Frag} (g : Gd KF) (c : Cx) : List Expr → List AV → Loc → AH → (Loc → AH → Prop) → Prop
  | [], [], ρ, H, k => k ρ H
  | e :: es, d :: ds, ρ, H, k => As g c e d ρ H (fun ρ₁ H₁ => AsL g c es ds ρ₁ H₁ k)
  | _, _, _, _, _ => False
theorem AsL.nil {k : Loc → AH → Prop} (h : k ρ H) : AsL g c [] [] ρ H k := h
theorem AsL.cons {e : Expr} {es : List Expr} {d : AV} {ds : List AV} {k : Loc → AH → Prop} (h : As g c e d ρ H (fun ρ₁ H₁ => AsL g c es ds ρ₁ H₁ k)) : AsL g c (e :: es) (d :: ds) ρ H k := h
theorem AsL.run : ∀ {es : List Expr} {ds : List AV} {vs : List Value} {ρ : Loc} {H : AH} {k : Loc → AH → Prop}, AsL g c es ds ρ H k → ∀ (s : Shared) (X : XH) (Q : Unit → Shared → Prop) (E : Value → Shared → Prop), Rep g c s.heap ρ H X → VRs s.heap vs ds →
    (∀ s' ρ' H', Step s s' → Rep g c s'.heap ρ' H' X → k ρ' H' → Q () s') → wpAny (model g.prog g.w) c.A (assignInOrder (es.map fun e => assign e c.env) vs) Q E s
  | [], [], vs, ρ, H, k, h, s, X, Q, E, R, hv, q => by
    cases hv
    exact wpAny_pure (q s _ _ (.refl s) R h)
  | e :: es, d :: ds, _, ρ, H, k, h, s, X, Q, E, R, .cons a r, q =>
    wpAny_bind (wpAny_holding (h s X _ E _ R a fun s₁ ρ₁ H₁ st₁ R₁ h₁ => AsL.run h₁ s₁ X Q E R₁ (r.mono st₁.tup) fun s₂ ρ₂ H₂ st₂ => q s₂ ρ₂ H₂ (st₁.trans st₂)))
  | [], _ :: _, _, _, _, _, h, _, _, _, _, _, _, _ => h.elim
theorem As.tup {elts : List Expr} {x1 : Nat} {pos : Pos} {ds : List AV} {k : Loc → AH → Prop} (hh : c.A.handled = none) (hl : elts.length = ds.length) (h : AsL g c elts ds ρ H k) (hm : assignEach elts c.env = elts.map (fun e => (false, assign e c.env)) := by rfl) :
    As g c (.Tuple elts x1 pos) (.tup ds) ρ H k := fun s X Q E vv R hv q => by
  obtain ⟨a, vs, rfl, h1, h2⟩ := VRs.isTup hv
  have hm2 : (assignEach elts c.env).map (·.2) = elts.map fun e => assign e c.env := by rw [hm, List.map_map]; rfl
  obtain ⟨o, ho, hc, n, hd⟩ := h1
  refine wpAny_assign_Tuple hh (items := vs.toArray) ⟨o, ho, hc, n, hd⟩ (by rw [hm, List.length_map, List.size_toArray, h2.length, hl]) (by
    rw [hm, List.findIdx?_map]
    exact List.findIdx?_eq_none_iff.mpr fun _ _ => rfl) fun h' e => ?_
  obtain ⟨R', kp⟩ := R.ext1 e
  rw [hm2]
  exact AsL.run h _ X Q E R' (h2.mono kp) fun s₂ ρ₂ H₂ st₂ => q s₂ ρ₂ H₂ ((Step.heap' s (h := h') (t := s.toks) kp).trans st₂)

noncomputable def ItK {KF : Params → Frag} (g : Gd KF) (c : Cx) (tg : Expr) (s : Shared) (X : XH) (k : List AV → (AH → Prop) → Loc → AH → Prop) (Q : Value → Shared → Prop) : Prop :=
  ∀ it s' ρ' H' vs D XI, Step s s' → Rep g c s'.heap ρ' H' (ovr X XI) → Off X c.env XI → ItP g c.A tg it D vs s'.heap XI → ItI g c.A it XI → D H' → k vs D ρ' H' → Q it s'
theorem ItK.step {tg : Expr} {s s₁ : Shared} {k : List AV → (AH → Prop) → Loc → AH → Prop} {Q : Value → Shared → Prop} (q : ItK g c tg s X k Q) (st : Step s s₁) : ItK g c tg s₁ X k Q := fun it s' ρ' H' vs D XI st' => q it s' ρ' H' vs D XI (st.trans st')
noncomputable def EvIt {KF : Params → Frag} (g : Gd KF) (c : Cx) (tg iter : Expr) (ρ : Loc) (H : AH) (k : List AV → (AH → Prop) → Loc → AH → Prop) (x : AV → Loc → AH → Prop) : Prop :=
  ∀ (s : Shared) (X : XH) (Q : Value → Shared → Prop) (E : Value → Shared → Prop), Rep g c s.heap ρ H X → ItK g c tg s X k Q → Es g c X s x E →
    wpAny (model g.prog g.w) c.A (eval iter c.env) (fun v s' => wpAny (model g.prog g.w) c.A (pyIter v) Q E s') E s
noncomputable def It1 {KF : Params → Frag} (g : Gd KF) (c : Cx) (tg : Expr) (v : AV) (ρ : Loc) (H : AH) (k : List AV → (AH → Prop) → Loc → AH → Prop) : Prop :=
  ∀ (s : Shared) (X : XH) (Q : Value → Shared → Prop) (E : Value → Shared → Prop) (vv : Value), Rep g c s.heap ρ H X → VR s.heap vv v → ItK g c tg s X k Q → wpAny (model g.prog g.w) c.A (pyIter vv) Q E s
theorem EvIt.val {tg iter : Expr} {k : List AV → (AH → Prop) → Loc → AH → Prop} (h : Ev g c iter ρ H (fun v ρ₁ H₁ => It1 g c tg v ρ₁ H₁ k) x) : EvIt g c tg iter ρ H k x := fun s X Q E R q e =>
  h s X _ _ R (fun v d s₁ ρ₁ H₁ st₁ R₁ hv h₁ => h₁ s₁ X Q E v R₁ hv (q.step st₁)) e
theorem Rep.newIt {cx : Cx} {h : Heap} (R : Rep g cx h ρ H X) (o : Obj) (hf : o.isFreed = false) : Rep g cx (h.push o) ρ H (ovr X (one h.objs.size o)) ∧ Off X cx.env (one h.objs.size o) := by
  refine ⟨(R.push o).addX (fun b ob e => ?_) (fun a ob e => by obtain ⟨rfl, rfl⟩ := one_some e; exact R.freshX), ⟨fun a ob e => ?_, fun a ob e y hy => ?_⟩⟩
  · obtain ⟨rfl, rfl⟩ := one_some e
    exact ⟨Heap.get?_push_size _ hf, R.o.fresh, R.o.size, (Nat.ne_of_lt R.freshL).symm, fun y hy => absurd (R.freshC hy) (Nat.lt_irrefl _)⟩
  · obtain ⟨rfl, rfl⟩ := one_some e; exact R.freshX
  · obtain ⟨rfl, rfl⟩ := one_some e; exact absurd (R.freshC hy) (Nat.lt_irrefl _)
theorem step_push (s : Shared) (o : Obj) (t : Nat) : Step s { s with heap := s.heap.push o, toks := t } := ⟨rfl, .of_keep fun _ _ e => Heap.get?_push_of_some _ e⟩
theorem It1.list {tg : Expr} {l : Addr} {vs : List AV} {k : List AV → (AH → Prop) → Loc → AH → Prop} (hh : c.A.handled = none) (hH : H l = some (.list vs)) (h : k vs (fun H => H l = some (.list vs)) ρ H) : It1 g c tg (.ref l) ρ H k := fun s X Q E vv R hv q => by
  cases hv.refInv
  obtain ⟨its, n, h1, h2⟩ := R.list hH
  refine wpAny_pyIter_list (isList_of h1) ?_
  obtain ⟨R', f⟩ := R.newIt { cls := .type "list_iterator", data := .fields #[.ref l, .int 0 0] } rfl
  exact q _ { s with heap := s.heap.push _ } _ _ vs _ _ (step_push s _ s.toks) R' f (ItP.list hh vs 0 _ _ rfl rfl rfl) (fun s' Q' E' hi hq => wpAny_pyIter_listiter ⟨_, hi _ _ (one_same _ _), rfl, rfl⟩ hq) hH h
theorem It1.tup {tg : Expr} {ds : List AV} {k : List AV → (AH → Prop) → Loc → AH → Prop} (hh : c.A.handled = none) (h : k ds (fun _ => True) ρ H) : It1 g c tg (.tup ds) ρ H k := fun s X Q E vv R hv q => by
  cases hv with
  | tup e r =>
    refine wpAny_pyIter_tuple ⟨_, e, rfl, _, rfl⟩ ?_
    rename_i a vs n
    obtain ⟨R', f⟩ := R.newIt { cls := .type "tuple_iterator", data := .fields #[.ref a, .int 0 0] } rfl
    have st := step_push s { cls := .type "tuple_iterator", data := .fields #[.ref a, .int 0 0] } s.toks
    exact q _ { s with heap := s.heap.push _ } _ _ ds _ _ st R' f (ItP.tup hh ds 0 _ _ rfl (st.tup _ _ _ _ e rfl rfl) (r.mono st.tup) (Nat.ne_of_lt (Heap.lt_size e)) rfl rfl) (fun s' Q' E' hi hq => wpAny_pyIter_tupleiter ⟨_, hi _ _ (one_same _ _), rfl, rfl⟩ hq) trivial h
theorem It1.str {tg : Expr} {y : Str} {k : List AV → (AH → Prop) → Loc → AH → Prop} (hh : c.A.handled = none) (ha : y.cps.all (· < 128) = true) (h : k (chrs y) (fun _ => True) ρ H) : It1 g c tg (.str y) ρ H k := fun s X Q E vv R hv q => by
  cases hv with
  | str _ t =>
    refine wpAny_pyIter_ascii ha ?_
    obtain ⟨R', f⟩ := R.newIt { cls := .type "str_ascii_iterator", data := .fields #[.str y t, .int 0 0] } rfl
    exact q _ { s with heap := s.heap.push _ } _ _ _ _ _ (step_push s _ s.toks) R' f (ItP.str hh _ 0 _ _ rfl rfl rfl) (fun s' Q' E' hi hq => wpAny_pyIter_striter_ascii ⟨_, hi _ _ (one_same _ _), rfl, rfl⟩ hq) trivial h
noncomputable def ItC {KF : Params → Frag} (g : Gd KF) (c : Cx) (tg : Expr) (f : AV) (as : List AV) (ρ : Loc) (H : AH) (k : List AV → (AH → Prop) → Loc → AH → Prop) : Prop :=
  ∀ (s : Shared) (X : XH) (Q : Value → Shared → Prop) (E : Value → Shared → Prop) (vs : List Value), Rep g c s.heap ρ H X → VRs s.heap vs as → ItK g c tg s X k Q →
    wpAny (model g.prog g.w) c.A (CallV f vs) (fun v s' => wpAny (model g.prog g.w) c.A (pyIter v) Q E s') E s
theorem EvIt.call {tg func : Expr} {args : List Expr} {pos : Pos} {k : List AV → (AH → Prop) → Loc → AH → Prop} (h : Ev g c func ρ H (fun f ρ₁ H₁ => plainF f = true ∧ EvL g c pos args ρ₁ H₁ (fun vs ρ₂ H₂ => ItC g c tg f vs ρ₂ H₂ k) x) x)
    (hplain : (backTo pos (starEach args c.env)).any (·.1) = false)
    (he : eval (.Call func args [] pos) c.env = (do callWith pos (← eval func c.env) [] (backTo pos (starEach args c.env)) (backToKw pos (keywordEach [] c.env))) := by kernel_rfl) : EvIt g c tg (.Call func args [] pos) ρ H k x := fun s X Q E R q e => by
  refine Call_ (h s X _ _ R (fun fv f s₁ ρ₁ H₁ st₁ R₁ hfv h₁ => ?_) e) he
  obtain ⟨hf, h₁⟩ := h₁
  have hv := plain_keeps (M := model g.prog g.w) hf hfv
  refine callWith_of (P := fun _ => True) (by rw [hplain]; rfl) (fun h' _ => hv.1 h') (evalArgs_list hplain ?_)
  exact h₁ s₁ X _ _ R₁ (fun vs ds s₂ ρ₂ H₂ st₂ R₂ hvs h₂ => ⟨trivial, by
    have := h₂ s₂ X Q E vs R₂ hvs (q.step (st₁.trans st₂))
    rwa [hv.2] at this⟩) (e.step st₁)
theorem rngFrom_range (n : Nat) : Builtin.Range.rangeSize 0 n 1 = n := by unfold Builtin.Range.rangeSize; simp <;> lia
theorem ItC.range {tg : Expr} {n : Nat} {k : List AV → (AH → Prop) → Loc → AH → Prop} (hh : c.A.handled = none) (hn : n < 2 ^ 40) (h : k (rngFrom 0 n) (fun _ => True) ρ H) : ItC g c tg (.type "range") [.int n] ρ H k := fun s X Q E vs R hvs q => by
  cases hvs with
  | cons z r =>
    cases r
    cases z with
    | int _ t =>
      refine call_range_1 (wpAny_pyIter_range (Heap.get?_push_size _ rfl) ?_ ?_)
      · unfold Builtin.Range.small Builtin.Range.rangeFitsLong
        rw [rngFrom_range]
        simp
        lia
      · rw [rngFrom_range]
        have R1 := R.push { cls := .type "range", data := .fields #[.int 0 s.toks, .int (n : Int) t, .int 1 (s.toks + 1)] }
        obtain ⟨R', f⟩ := R1.newIt (rngObj 0 n 1) rfl
        exact q _ { s with heap := (s.heap.push _).push (rngObj 0 n 1), toks := s.toks + 1 + 1 } _ _ _ _ _ ((step_push s _ (s.toks + 1 + 1)).trans (step_push _ _ _)) R' f (ItP.rng hh n 0 _) (fun s' Q' E' hi hq => wpAny_pyIter_rangeiter (hi _ _ (one_same _ _)) hq) trivial h
noncomputable def ForL {KF : Params → Frag} (g : Gd KF) (c : Cx) (tg : Expr) (body : List Stmt) (D : AH → Prop) (k : AF → Loc → AH → Prop) : List AV → Loc → AH → Prop
  | [], ρ, H => k .next ρ H
  | v :: vs, ρ, H => As g c tg v ρ H (fun ρ₁ H₁ => Exs g c body ρ₁ H₁ (fun f ρ₂ H₂ => match f with
      | .next => D H₂ ∧ ForL g c tg body D k vs ρ₂ H₂
      | .cont => D H₂ ∧ ForL g c tg body D k vs ρ₂ H₂
      | .brk => k .next ρ₂ H₂
      | .ret u => k (.ret u) ρ₂ H₂) (fun _ _ _ => False))
theorem ForL.run {tg : Expr} {body : List Stmt} {D : AH → Prop} {it : Value} {k : AF → Loc → AH → Prop} : ∀ {vs : List AV} {ρ : Loc} {H : AH} {h0 : Heap} {XI : XE}, ForL g c tg body D k vs ρ H → ItP g c.A tg it D vs h0 XI → D H → Off X c.env XI →
    ∀ (s : Shared) (R : Result → Shared → Prop), Rep g c s.heap ρ H (ovr X XI) → TupKeep h0 s.heap → Qs g c FlR X s k (fun f s' => R (.ok f) s') → codeAny (model g.prog g.w) c.A (.forLoop tg it body [] c.env) R s
  | [], ρ, H, h0, XI, h, hp, hD, f, s, R', R, kp0, q => by
    refine codeAny_of_tree ?_
    show wpAny _ c.A ((forTurn tg it body [] c.env).onRaise (fun x => do noteFrame x c.env; theTreesLotGoes x)) _ _ s
    refine wpAny_noted ?_
    simp only [forTurn]
    refine wpAny_bind (wpAny_standAt (wpAny_bind (wpAny_onRaise (hp s H X _ _ R.o kp0 hD fun h' ext kp => ?_))))
    exact wpAny_pure ⟨rfl, codeAny_block (wpAny_execs_nil (q _ _ _ _ _ (Step.heap' s (t := s.toks) kp) (R.leave f ext kp) .next h))⟩
  | v :: vs, ρ, H, h0, XI, h, hp, hD, f, s, R', R, kp0, q => by
    refine codeAny_of_tree ?_
    show wpAny _ c.A ((forTurn tg it body [] c.env).onRaise (fun x => do noteFrame x c.env; theTreesLotGoes x)) _ _ s
    refine wpAny_noted ?_
    simp only [forTurn]
    refine wpAny_bind (wpAny_standAt (wpAny_bind (wpAny_onRaise (hp s H X _ _ R.o kp0 hD fun x h' tk XI' ext kp hd hi hx hp' hgo => ?_))))
    have R1 := R.turn f ext kp hd hi
    have f1 := f.dom hd
    refine wpAny_bind (hgo _ _ (wpAny_bind (h { s with heap := h', toks := tk } _ _ _ x R1 hx fun s₂ ρ₂ H₂ st₂ R₂ h₂ => wpAny_bind (h₂ s₂ _ _ _ R₂ (fun fl fl' s₃ ρ₃ H₃ st₃ R₃ hf h₃ => ?_) fun _ _ _ _ _ _ _ _ h => h.elim))))
    have st : Step s s₃ := ((Step.heap' s (t := tk) kp).trans st₂).trans st₃
    have kp3 : TupKeep h' s₃.heap := st₂.tup.trans st₃.tup
    cases hf with
    | next => exact wpAny_pure ⟨rfl, ForL.run h₃.2 hp' h₃.1 f1 s₃ R' R₃ kp3 (Qs.step q st)⟩
    | cont => exact wpAny_pure ⟨rfl, ForL.run h₃.2 hp' h₃.1 f1 s₃ R' R₃ kp3 (Qs.step q st)⟩
    | brk => exact wpAny_pure (q _ _ _ _ _ st (R₃.weaken f1.x) .next h₃)
    | ret hv => exact wpAny_pure (q _ _ _ _ _ st (R₃.weaken f1.x) (.ret hv) h₃)
theorem Ex.for {tg iter : Expr} {body : List Stmt} {pos : Pos} {k : AF → Loc → AH → Prop} (h : EvIt g c tg iter ρ H (fun vs D ρ₁ H₁ => ForL g c tg body D k vs ρ₁ H₁) x) (hs : ∀ x, foldedSetIterable iter c.env x = pure x := by intro _; rfl) :
    Ex g c (.For tg iter body [] pos) ρ H k x := fun s X Q E R q e =>
  wpAny_For (h s X _ _ R (fun it s' ρ' H' vs D XI st R' f hp hi hD hk => ForL.run hk hp hD f s' _ R' (.refl _) (Qs.step q st)) e) hs
end
end Mine
end

section
open PySem PySem.W PyProof.Rows PySem.Calls
set_option Elab.async false
set_option genSizeOf false
set_option linter.unusedVariables false
namespace Mine
section
variable {KF : Params → Frag} {g : Gd KF} {c : Cx} {ρ : Loc} {H : AH} {X : XH} {x : AV → Loc → AH → Prop}

theorem Rep.setList {cx : Cx} {h h' : Heap} {l : Addr} {us us' : List AV} {its' : List Value} {n' : Nat} (R : Rep g cx h ρ H X) (hH : H l = some (.list us)) (hs : Heap.SameBut l h h') (ho : h'.get? l = some (listOf its'.toArray n')) (hv : VRs h its' us') :
    Rep g cx h' ρ (upd H l (.list us')) X ∧ TupKeep h h' :=
  R.change (o' := .list us') hH (.inl rfl) rfl hs.extBut (Nat.le_of_eq hs.1.symm) rfl rfl fun kp => ⟨its', n', ho, hv.mono kp⟩
theorem appendL {A : Around} {l : Addr} {us : List AV} {u : AV} {v : Value} {cx : Cx} {s : Shared} {Q : Value → Shared → Prop} {E : Value → Shared → Prop} (R : Rep g cx s.heap ρ H X) (hH : H l = some (.list us)) (hv : VR s.heap v u) (hz : us.length ≤ 1000000)
    (h : ∀ s', Step s s' → Rep g cx s'.heap ρ (upd H l (.list (us ++ [u]))) X → Q .none s') : wpAny (model g.prog g.w) A (call (.builtin "list.append") [.ref l, v]) Q E s := by
  refine absG fun G₀ hG₀ => ?_
  obtain ⟨its, n, h1, h2⟩ := R.list hH
  refine hG₀ ?_
  refine append_at (hsz := by rw [List.size_toArray, h2.length, sizeLine_eq]; lia) h1 fun h' hs ho => ?_
  rw [List.push_toArray] at ho
  obtain ⟨R', kp⟩ := R.setList hH hs ho (h2.append (.cons hv .nil))
  exact h _ (Step.heap' s (t := s.toks) kp) R'

noncomputable def TsL {KF : Params → Frag} (g : Gd KF) (c : Cx) : List Expr → Loc → AH → (Bool → Loc → AH → Prop) → Prop
  | [], ρ, H, k => k true ρ H
  | [t], ρ, H, k => Ts g c t ρ H k (fun _ _ _ => False)
  | _, _, _, _ => False
theorem TsL.nil {k : Bool → Loc → AH → Prop} (h : k true ρ H) : TsL g c [] ρ H k := h
noncomputable def CmpL {KF : Params → Frag} (g : Gd KF) (c : Cx) (tg elt : Expr) (ifs : List Expr) (D : AH → Prop) (L : Addr) (k : List AV → Loc → AH → Prop) : List AV → List AV → Loc → AH → Prop
  | [], us, ρ, H => D H ∧ k us ρ H
  | v :: vs, us, ρ, H => D H ∧ As g c tg v ρ H (fun ρ₁ H₁ => TsL g c ifs ρ₁ H₁ (fun b ρ₂ H₂ => if b = true then
      Ev g c elt ρ₂ H₂ (fun u ρ₃ H₃ => H₃ L = some (.list us) ∧ us.length ≤ 1000000 ∧ CmpL g c tg elt ifs D L k vs (us ++ [u]) ρ₃ (upd H₃ L (.list (us ++ [u])))) (fun _ _ _ => False)
    else CmpL g c tg elt ifs D L k vs us ρ₂ H₂))
theorem CmpL.run {tg elt iter : Expr} {ifs : List Expr} {D : AH → Prop} {it : Value} {L : Addr} {scope : Scope} {pos : Pos} {k : List AV → Loc → AH → Prop} : ∀ {vs us : List AV} {ρ : Loc} {H : AH} {h0 : Heap} {XI : XE}, CmpL g c tg elt ifs D L k vs us ρ H → ItP g c.A tg it D vs h0 XI → Off X c.env XI →
    ∀ (s : Shared) (R : Result → Shared → Prop), Rep g c s.heap ρ H (ovr X XI) → TupKeep h0 s.heap → (∀ us s' ρ' H', Step s s' → Rep g c s'.heap ρ' H' X → k us ρ' H' → R (.ok .next) s') →
    codeAny (model g.prog g.w) c.A (.compLoop (.ListComp elt [⟨tg, iter, ifs, 0⟩] scope pos) 0 it (.ref L) c.env) R s
  | [], us, ρ, H, h0, XI, h, hp, f, s, R', R, kp0, q => by
    refine codeAny_of_tree ?_
    show wpAny _ c.A ((compTurn (.ListComp elt [⟨tg, iter, ifs, 0⟩] scope pos) 0 it (.ref L) c.env).onRaise (fun x => do noteFrame x c.env; theTreesLotGoes x)) _ _ s
    refine wpAny_noted ?_
    rw [compTurn_list]
    refine wpAny_bind (wpAny_standAt (wpAny_bind (hp s H X _ _ R.o kp0 h.1 fun h' ext kp => ?_)))
    exact wpAny_pure (q us _ _ _ (Step.heap' s (t := s.toks) kp) (R.leave f ext kp) h.2)
  | v :: vs, us, ρ, H, h0, XI, h, hp, f, s, R', R, kp0, q => by
    refine codeAny_of_tree ?_
    show wpAny _ c.A ((compTurn (.ListComp elt [⟨tg, iter, ifs, 0⟩] scope pos) 0 it (.ref L) c.env).onRaise (fun x => do noteFrame x c.env; theTreesLotGoes x)) _ _ s
    refine wpAny_noted ?_
    rw [compTurn_list]
    refine wpAny_bind (wpAny_standAt (wpAny_bind (hp s H X _ _ R.o kp0 h.1 fun x h' tk XI' ext kp hd hi hx hp' hgo => ?_)))
    have R1 := R.turn f ext kp hd hi
    have f1 := f.dom hd
    refine wpAny_bind (hgo _ _ (wpAny_bind (h.2 { s with heap := h', toks := tk } _ _ _ x R1 hx fun s₂ ρ₂ H₂ st₂ R₂ h₂ => wpAny_bind ?_)))
    have fin : ∀ (ok : Bool) (s₃ : Shared) (ρ₃ : Loc) (H₃ : AH), Step s₂ s₃ → Rep g c s₃.heap ρ₃ H₃ (ovr X XI') → (if ok = true then
      Ev g c elt ρ₃ H₃ (fun u ρ₃ H₃ => H₃ L = some (.list us) ∧ us.length ≤ 1000000 ∧ CmpL g c tg elt ifs D L k vs (us ++ [u]) ρ₃ (upd H₃ L (.list (us ++ [u])))) (fun _ _ _ => False)
      else CmpL g c tg elt ifs D L k vs us ρ₃ H₃) → wpAny (model g.prog g.w) c.A (do
        if ok = true then
          (do let _ ← call (.builtin "list.append") [.ref L, ← eval elt c.env])
        again (.compLoop (.ListComp elt [⟨tg, iter, ifs, 0⟩] scope pos) 0 it (.ref L) c.env)) (fun fin s' => match fin with | .done f => R' (.ok f) s' | .again c' => c'.quiet = true ∧ codeAny (model g.prog g.w) c.A c' R' s') (notedBy (model g.prog g.w) c.A c.env fun e s' => R' (.error e) s') s₃ := by
      intro ok s₃ ρ₃ H₃ st₃ R₃ h₃
      have st : Step s s₃ := ((Step.heap' s (t := tk) kp).trans st₂).trans st₃
      cases ok with
      | false =>
        simp only [Bool.false_eq_true, if_false] at h₃ ⊢
        exact wpAny_pure ⟨rfl, CmpL.run h₃ hp' f1 s₃ R' R₃ (st₂.tup.trans st₃.tup) fun us s' ρ' H' st' => q us s' ρ' H' (st.trans st')⟩
      | true =>
        simp only [if_true] at h₃ ⊢
        refine wpAny_bind (wpAny_bind (h₃ s₃ _ _ _ R₃ (fun xv u s₄ ρ₄ H₄ st₄ R₄ hu h₄ => ?_) fun _ _ _ _ _ _ _ _ h => h.elim))
        refine wpAny_bind (appendL R₄ h₄.1 hu h₄.2.1 fun s₅ st₅ R₅ => ?_)
        exact wpAny_pure (wpAny_pure ⟨rfl, CmpL.run h₄.2.2 hp' f1 s₅ R' R₅ (((st₂.tup.trans st₃.tup).trans st₄.tup).trans st₅.tup) fun us s' ρ' H' st' => q us s' ρ' H' (((st.trans st₄).trans st₅).trans st')⟩)
    cases ifs with
    | nil => exact wpAny_tests_nil (fin true s₂ ρ₂ H₂ (.refl _) R₂ h₂)
    | cons t ts =>
      cases ts with
      | nil => exact wpAny_tests_one (h₂ s₂ _ _ _ R₂ (fun ok ok' s₃ ρ₃ H₃ st₃ R₃ hb h₃ => by cases hb; exact fin ok s₃ ρ₃ H₃ st₃ R₃ h₃) fun _ _ _ _ _ _ _ _ h => h.elim)
      | cons _ _ => exact h₂.elim

theorem Rep.stkC {cx : Cx} {h : Heap} (R : Rep g cx h ρ H X) {env' : Env} (he : env'.frame = cx.env.frame) (hC : env'.locals = h.objs.size) : Stk g.hb.objs.size ⟨cx.A, env'⟩ (frz cx.env h X) := by
  obtain ⟨m, hm, _⟩ := R.f.ns
  obtain ⟨oL, e2, _⟩ := Ns.nonF hm
  obtain ⟨l, k1, k2⟩ := R.stk
  refine absG fun G₀ hG₀ => ?_
  obtain ⟨_, _, _, _, k4⟩ := R.f.stk
  refine hG₀ ?_
  have f4 : ∀ M, cx.env.frame = some M → ∃ o, frz cx.env h X M = some (.loose o) := fun M e => by
    rcases k4 M e with rfl | ⟨o, w⟩
    · exact ⟨oL, frz_L R.f.nL.2.2 e2⟩
    · exact ⟨o, frz_X w⟩
  refine ⟨l, k1, fun e => ?_, fun e hm' => ?_, fun M e => .inr (f4 M (he ▸ e))⟩
  · obtain ⟨o, w⟩ := f4 env'.locals (he ▸ e)
    have := (R.freeze.ext _ _ w).1.lt
    rw [hC] at this
    exact absurd this (Nat.lt_irrefl _)
  · refine absG fun G₀ hG₀ => ?_
    obtain ⟨a1, M, a2, a3, a4⟩ := k2 e hm'
    refine hG₀ ?_
    exact ⟨a1, M, a2, a3, .inr a4⟩
theorem frz_ovr {env : Env} {h : Heap} {XI : XE} : frz env h (ovr X XI) = ovr (frz env h X) XI := by
  funext b
  cases q : XI b with
  | some o => rw [frz_X (ovr_some q), ovr_some q]
  | none =>
    rw [ovr_none q]
    unfold frz
    rw [ovr_none q]

noncomputable def compL (cl : List (Str × Addr)) (ρ : Loc) : Loc := fun y => if (cl.lookup y).isSome then ρ y else none
theorem compL_look {cl : List (Str × Addr)} {ρ : Loc} {y : Str} {v : Option AV} (h : (cl.lookup y).isSome = true) (e : ρ y = v) : compL cl ρ y = v := by unfold compL; rw [if_pos h]; exact e
theorem lookup_mem {cl : List (Str × Addr)} {y : Str} {a : Addr} (h : cl.lookup y = some a) : (y, a) ∈ cl := by
  induction cl with
  | nil => cases h
  | cons p cl ih =>
    obtain ⟨z, b⟩ := p
    rw [List.lookup_cons] at h
    by_cases q : y = z
    · subst q; rw [beq_self_eq_true] at h; cases h; exact .head _
    · rw [beq_eq_false_iff_ne.mpr q] at h; exact .tail _ (ih h)

theorem Comp.run {elt tg iter : Expr} {ifs : List Expr} {scope : Scope} {pos : Pos} {cl : List (Str × Addr)} {RR : Addr → Addr → Result → Shared → Prop} {k : AV → Loc → AH → Prop} {s : Shared} {E : Value → Shared → Prop}
    (hkind : scope.kind = .function) (hcell : ∀ y ∈ scope.names, y.2 ≠ .cell) (hm : ∀ p ∈ cl, c.env.cells.lookup p.1 = some p.2) (R : Rep g c s.heap ρ H X)
    (h : EvIt g c tg iter ρ H (fun vs D ρ₁ H₁ => ∀ L C, H₁ L = none → CmpL g ⟨c.A, compEnvC scope cl C c.env⟩ tg elt ifs D L (fun _ _ H₂ => k (.ref L) ρ₁ H₂) vs [] (compL cl ρ₁) (upd H₁ L (.list []))) x) (e : Es g c X s x E)
    (fin : ∀ L C s' ρ₁ H₂ o m, Step s s' → Rep g c s'.heap ρ₁ H₂ (ovr X (one C o)) → Off X c.env (one C o) → s'.heap.get? C = some o → s'.heap.Ns C m → k (.ref L) ρ₁ H₂ → RR L C (.ok .next) s') :
    wpAny (model g.prog g.w) c.A (eval iter c.env) (fun x s₁ => wpAny (model g.prog g.w) c.A (pyIter x) (fun it s₂ => wpAny (model g.prog g.w) c.A (newList []) (fun acc s₃ =>
      wpAny (model g.prog g.w) c.A (newFunctionEnv scope c.env.globals cl [] c.env.qual none .none (some c.env)) (fun cenv s₄ =>
        codeAny (model g.prog g.w) c.A (.compStart (.ListComp elt [⟨tg, iter, ifs, 0⟩] scope pos) 0 it acc { cenv with scope := relabel scope c.env }) (fun r s' => ∃ L, acc = .ref L ∧ RR L cenv.locals r s') s₄) E s₃) E s₂) E s₁) E s := by
  refine h s X (fun it s₂ => wpAny (model g.prog g.w) c.A (newList []) _ E s₂) E R (fun it s₂ ρ₁ H₁ vs D XI st₂ R₂ f hp hi hD hk => ?_) e
  refine wpAny_newObj_type (hd := by size_fits) (wpAny_newFunctionEnv hcell (by intro y hy; simp at hy) (fun h₄ hns hsb => ?_) hkind)
  dsimp only at hns hsb ⊢
  have hL : Rep g c (s₂.heap.push { cls := .type "list", data := .seq ([] : List Value).toArray }) ρ₁ (upd H₁ s₂.heap.objs.size (.list [])) (ovr X XI) :=
    R₂.alloc ⟨[], 0, Heap.get?_push_size _ rfl, .nil⟩
  have hk := hk s₂.heap.objs.size (s₂.heap.push { cls := .type "list", data := .seq ([] : List Value).toArray }).objs.size R₂.o.fresh
  have kp3 : TupKeep s₂.heap (s₂.heap.push { cls := .type "list", data := .seq ([] : List Value).toArray }) := .of_keep fun _ _ e => Heap.get?_push_of_some _ e
  generalize s₂.heap.push { cls := .type "list", data := .seq ([] : List Value).toArray } = h₃ at hns hsb hL hk kp3 ⊢
  have hk₄ : ∀ b o, h₃.get? b = some o → h₄.get? b = some o := fun b o e => (hsb.2 b (Nat.ne_of_lt (Heap.lt_size e))).trans (Heap.get?_push_of_some _ e)
  have hX3 : ∀ b o, XI b = some o → b ≠ c.env.locals ∧ ∀ y, c.env.cells.lookup y ≠ some b := fun b o e => ⟨(hL.offS f b o e).2.2.1, f.c b o e⟩
  have R0 := hL.freeze
  have sk := hL.stkC (env' := compEnvC scope cl h₃.objs.size c.env) rfl rfl
  rw [frz_ovr] at R0 sk
  have hW := hL.weaken f.x
  have hcl : ∀ y a, cl.lookup y = some a → c.env.cells.lookup y = some a := fun y a e => hm _ (lookup_mem e)
  have hnC : ∀ b o, ovr (frz c.env h₃ X) XI b = some o → b ≠ h₃.objs.size := fun b o e => Nat.ne_of_lt (R0.ext b o e).1.lt
  have RC : Rep g ⟨c.A, compEnvC scope cl h₃.objs.size c.env⟩ h₄ (compL cl ρ₁) (upd H₁ s₂.heap.objs.size (.list [])) (ovr (frz c.env h₃ X) XI) := by
    refine ⟨⟨fun b o e => hk₄ b o (R0.keep b o e), Nat.le_trans R0.size (Nat.le_of_lt hns.lt), fun b o e => ⟨(R0.obj b o e).1, (R0.obj b o e).2.keep (.of_keep hk₄) fun b' ob _ _ => hk₄ b' ob⟩, fun b o e => ⟨(R0.ext b o e).1.keep (hk₄ b), (R0.ext b o e).2⟩⟩,
      ⟨⟨_, hns, fun y d e => ?_⟩, ⟨R0.size, hL.o.fresh, ?_⟩, fun y a e => ?_, fun y y' a e e' => hL.f.inj y y' a (hcl y a e) (hcl y' a e'), sk⟩⟩
    · show match cl.lookup y with | none => _ | some a => _
      unfold compL at e
      cases hc : cl.lookup y with
      | none => rw [hc] at e; cases e
      | some a =>
        rw [hc] at e
        obtain ⟨m, _, hl⟩ := hL.f.ns
        have z := hl y d e
        rw [hcl y a hc] at z
        obtain ⟨v, z1, z2⟩ := z
        exact ⟨v, IsCell.at z1 (hk₄ a), z2.mono (.of_keep hk₄)⟩
    · cases q : ovr (frz c.env h₃ X) XI h₃.objs.size with
      | none => exact q
      | some o => exact (hnC _ o q rfl).elim
    · refine absG fun G₀ hG₀ => ?_
      obtain ⟨h1, h2, h3, h4, v, h5⟩ := hL.f.cl y a (hcl y a e)
      refine hG₀ ?_
      exact ⟨h1, h2, fun hf => (hf rfl).elim, Nat.ne_of_lt (hL.freshC (hcl y a e)), v, IsCell.at h5 (hk₄ a)⟩
  have fC : Off (frz c.env h₃ X) (compEnvC scope cl h₃.objs.size c.env) XI :=
    ⟨fun a o e => frz_none (f.x a o e) (hX3 a o e).1 fun ⟨y, e'⟩ => (hX3 a o e).2 y e', fun a o e y e' => (hX3 a o e).2 y (hcl y a e')⟩
  have go : ∀ (R' : Result → Shared → Prop), (∀ s', RR s₂.heap.objs.size h₃.objs.size (.ok .next) s' → R' (.ok .next) s') → codeAny (model g.prog g.w) c.A (.compLoop (.ListComp elt [⟨tg, iter, ifs, 0⟩] scope pos) 0 it (.ref s₂.heap.objs.size) (compEnvC scope cl h₃.objs.size c.env)) R' { s₂ with heap := h₄, toks := s₂.toks + ([] : List (Str × Value)).length } := by
    intro R' hR'
    refine CmpL.run (c := ⟨c.A, compEnvC scope cl h₃.objs.size c.env⟩) (X := frz c.env h₃ X) hk hp fC { s₂ with heap := h₄, toks := s₂.toks + ([] : List (Str × Value)).length } R' RC (kp3.trans (.of_keep hk₄)) fun us s' ρ' H' st' R'' hk' => hR' s' ?_
    refine absG fun G₀ hG₀ => ?_
    obtain ⟨m, ⟨oC, es, ep, hC, hr⟩, _⟩ := R''.f.ns
    refine hG₀ ?_
    have Rout : Rep g c s'.heap ρ₁ H' X := hW.thaw ((TupKeep.of_keep hk₄).trans st'.tup) R''.o
    refine fin _ _ s' ρ₁ H' oC m ((st₂.trans (Step.heap' s₂ (t := s₂.toks + ([] : List (Str × Value)).length) (kp3.trans (.of_keep hk₄)))).trans st') (Rout.addX (fun b o e => ?_) (fun a o e => by obtain ⟨rfl, rfl⟩ := one_some e; exact hW.freshX)) ⟨fun a o e => ?_, fun a o e y e' => ?_⟩ hC ⟨oC, es, ep, hC, hr⟩ hk'
    · obtain ⟨rfl, rfl⟩ := one_some e
      exact ⟨hC, R''.f.nL.2.1, R''.f.nL.1, (Nat.ne_of_lt hW.freshL).symm, fun y hy => absurd (hW.freshC hy) (Nat.lt_irrefl _)⟩
    · obtain ⟨rfl, rfl⟩ := one_some e; exact hW.freshX
    · obtain ⟨rfl, rfl⟩ := one_some e; exact absurd (hW.freshC e') (Nat.lt_irrefl _)
  refine codeAny_compStart_list ?_ ?_
  · exact go _ fun s' hs' => ⟨_, rfl, hs'⟩
  · exact hi _ _ _ (fun a o e => (RC.o.ext a _ (ovr_some e)).1) (go _ fun s' hs' => ⟨_, rfl, hs'⟩)

theorem Ev.comp {elt tg iter : Expr} {ifs : List Expr} {scope : Scope} {pos : Pos} {k : AV → Loc → AH → Prop} (cl : List (Str × Addr))
    (h : EvIt g c tg iter ρ H (fun vs D ρ₁ H₁ => ∀ L C, H₁ L = none → CmpL g ⟨c.A, compEnvC scope cl C c.env⟩ tg elt ifs D L (fun _ _ H₂ => k (.ref L) ρ₁ H₂) vs [] (compL cl ρ₁) (upd H₁ L (.list []))) x)
    (hclos : closureFor scope c.env = pure cl) (hm : ∀ p ∈ cl, c.env.cells.lookup p.1 = some p.2) (hkind : scope.kind = .function) (hcell : ∀ y ∈ scope.names, y.2 ≠ .cell) (hnames : ∀ x ∈ scope.names, x.2 = .local → scope.names.lookup x.1 = some .local)
    (hs : ∀ x, foldedSetIterable iter c.env x = pure x := by intro _; rfl) : Ev g c (.ListComp elt [⟨tg, iter, ifs, 0⟩] scope pos) ρ H k x := fun s X Q E R q e => by
  rw [eval_ListComp]
  refine wpAny_comprehension_free rfl hs hclos hkind hnames (wpAny_mono (Comp.run (pos := pos) (RR := fun L C r s' => compPost (model g.prog g.w) c.A E none Q (.ref L) C r s') hkind hcell hm R h e fun L C s' ρ₁ H₂ o m st R' f hC hN hk => ⟨m, hN, fun h' hs' => ?_⟩) (fun v s₁ h₁ => wpAny_mono h₁ (fun it s₂ h₂ => wpAny_mono h₂ (fun acc s₃ h₃ => wpAny_mono h₃ (fun cenv s₄ h₄ => codeAny_mono h₄ fun r s' hr => ?_) fun _ _ z => z) fun _ _ z => z) fun _ _ z => z) fun _ _ z => z)
  · have hnt : NoTup o := by
      refine absG fun G₀ hG₀ => ?_
      obtain ⟨o', es, ep, ho', hd', _⟩ := hN
      refine hG₀ ?_
      rw [hC] at ho'; cases ho'
      exact .of_dict hd'
    have kp : TupKeep s'.heap h' := .extBut hs'.extBut hC hnt
    exact q _ _ { s' with heap := h' } _ _ (st.trans (Step.heap' s' (t := s'.toks) kp)) (R'.leave f (.one hs'.extBut) kp) (.ref _) hk
  · obtain ⟨L, rfl, hr⟩ := hr
    exact hr
end
end Mine
end

section
open PySem PySem.W PyProof.Rows PySem.Calls
set_option Elab.async false
set_option genSizeOf false
set_option linter.unusedVariables false
namespace Mine
noncomputable def getA {K : Type} [DecidableEq K] (xs : List (K × AV)) (k : K) : Option AV := (xs.find? fun kv => kv.1 = k).map (·.2)
noncomputable def putA {K : Type} [DecidableEq K] (xs : List (K × AV)) (k : K) (v : AV) : List (K × AV) :=
  if xs.any (fun kv => kv.1 = k) then xs.map (fun kv => if kv.1 = k then (kv.1, v) else kv) else xs ++ [(k, v)]
theorem putA_len {K : Type} [DecidableEq K] (xs : List (K × AV)) (k : K) (v : AV) : (putA xs k v).length ≤ xs.length + 1 := by
  unfold putA
  split
  · rw [List.length_map]; lia
  · simp
theorem PR.get {K : Type} [DecidableEq K] {h : Heap} (k : K) : ∀ {ys : List (K × Value)} {xs : List (K × AV)}, PR h ys xs → OVR h (valueAt ys k) (getA xs k) := by
  intro ys xs z
  induction z with
  | nil => exact .none
  | @cons k' v0 d0 ys xs a r ih =>
    unfold valueAt getA
    by_cases q : k' = k
    · simp only [List.find?_cons, q, decide_true, Option.map_some]; exact .some a
    · simp only [List.find?_cons, q, decide_false]; exact ih
theorem PR.any {K : Type} [DecidableEq K] {h : Heap} (k : K) {ys : List (K × Value)} {xs : List (K × AV)} (z : PR h ys xs) : ys.any (fun kv => kv.1 = k) = xs.any (fun kv => kv.1 = k) :=
  PR.rec (motive := fun ys xs _ => ys.any (fun kv => kv.1 = k) = xs.any (fun kv => kv.1 = k)) rfl (fun _ _ r => by rw [List.any_cons, List.any_cons, r]) z
theorem PR.len {K : Type} {h : Heap} {ys : List (K × Value)} {xs : List (K × AV)} (z : PR h ys xs) : ys.length = xs.length :=
  PR.rec (motive := fun ys xs _ => ys.length = xs.length) rfl (fun _ _ r => by rw [List.length_cons, List.length_cons, r]) z
theorem PR.map {K : Type} [DecidableEq K] {h : Heap} (k : K) {v : Value} {d : AV} (hv : VR h v d) : ∀ {ys : List (K × Value)} {xs : List (K × AV)}, PR h ys xs → PR h (ys.map fun kv => if kv.1 = k then (kv.1, v) else kv) (xs.map fun kv => if kv.1 = k then (kv.1, d) else kv) := by
  intro ys xs z
  induction z with
  | nil => exact .nil
  | @cons k' v0 d0 ys xs a r ih =>
    simp only [List.map_cons]
    by_cases q : k' = k
    · simp only [q, if_true]; exact .cons hv (ih)
    · simp only [q, if_false]; exact .cons a (ih)
theorem PR.append {K : Type} {h : Heap} {ys zs : List (K × Value)} {xs us : List (K × AV)} (y : PR h ys xs) (z : PR h zs us) : PR h (ys ++ zs) (xs ++ us) := PR.rec (motive := fun ys xs _ => PR h (ys ++ zs) (xs ++ us)) z (fun a _ r => .cons a r) y
theorem PR.put {K : Type} [DecidableEq K] {h : Heap} {k : K} {v : Value} {d : AV} {ys : List (K × Value)} {xs : List (K × AV)} (hv : VR h v d) (z : PR h ys xs) : PR h (stored ys k v) (putA xs k d) := by
  unfold stored putA
  rw [z.any k]
  split
  · exact z.map k hv
  · exact z.append (.cons hv .nil)
theorem TR.get {h : Heap} (k : List Int) : ∀ {ys : List (List Int × Addr × Value)} {xs : List (List Int × AV)}, TR h ys xs → OVR h ((atKey ys k).map (·.2)) (getA xs k) := by
  intro ys xs z
  induction z with
  | nil => exact .none
  | @cons k' a0 v0 d0 ys xs a r ih =>
    unfold atKey getA
    by_cases q : k' = k
    · simp only [List.find?_cons, q, decide_true, Option.map_some]; exact .some a
    · simp only [List.find?_cons, q, decide_false]; exact ih
theorem TR.any {h : Heap} (k : List Int) : ∀ {ys : List (List Int × Addr × Value)} {xs : List (List Int × AV)}, TR h ys xs → (atKey ys k).isSome = xs.any (fun kv => kv.1 = k) := by
  intro ys xs z
  induction z with
  | nil => exact rfl
  | @cons k' a0 v0 d0 ys xs a r ih =>
    unfold atKey at ih ⊢
    simp only [List.find?_cons, List.any_cons]
    by_cases q : k' = k
    · simp [q]
    · simp only [q, decide_false, Bool.false_or]; exact ih
theorem TR.len {h : Heap} : ∀ {ys : List (List Int × Addr × Value)} {xs : List (List Int × AV)}, TR h ys xs → ys.length = xs.length := by
  intro ys xs z
  induction z with
  | nil => exact rfl
  | @cons k' a0 v0 d0 ys xs a r ih => simp only [List.length_cons, ih]
theorem TR.map {h : Heap} (k : List Int) {v : Value} {d : AV} (hv : VR h v d) : ∀ {ys : List (List Int × Addr × Value)} {xs : List (List Int × AV)}, TR h ys xs → TR h (ys.map (putAt k v)) (xs.map fun kv => if kv.1 = k then (kv.1, d) else kv) := by
  intro ys xs z
  induction z with
  | nil => exact .nil
  | @cons k' a0 v0 d0 ys xs a r ih =>
    simp only [List.map_cons, putAt]
    by_cases q : k' = k
    · simp only [q, if_true]; exact .cons hv (ih)
    · simp only [q, if_false]; exact .cons a (ih)
theorem TR.append {h : Heap} {ys zs : List (List Int × Addr × Value)} {xs us : List (List Int × AV)} (y : TR h ys xs) (z : TR h zs us) : TR h (ys ++ zs) (xs ++ us) := TR.rec (motive := fun ys xs _ => TR h (ys ++ zs) (xs ++ us)) z (fun a _ r => .cons a r) y
theorem TR.put {h : Heap} {k : List Int} {a : Addr} {v : Value} {d : AV} {ys : List (List Int × Addr × Value)} {xs : List (List Int × AV)} (hv : VR h v d) (z : TR h ys xs) : TR h (storedH ys k a v) (putA xs k d) := by
  unfold storedH putA
  rw [z.any k]
  split
  · exact z.map k hv
  · exact z.append (.cons hv .nil)
noncomputable def intsAV (ks : List Int) : List AV := ks.map AV.int
theorem itemsAre {prog : Program} {w : World} {h : Heap} : ∀ {vs : List Value} {ks : List Int}, VRs h vs (intsAV ks) → ItemsAre (intKind prog w) ks vs
  | vs, [], z => by rw [z.l0]; exact .nil
  | vs, i :: ks, z => by
    obtain ⟨v, ws, rfl, q, r⟩ := z.lc
    obtain ⟨t, rfl⟩ := q.intI
    exact .cons (by simp [intKind, Value.isInt]) (itemsAre r)
theorem VR.tupKey {prog : Program} {w : World} {h : Heap} {v : Value} {ks : List Int} (z : VR h v (.tup (intsAV ks))) : ∃ a, v = .ref a ∧ (tupleKind (intKind prog w)).is h ks a := by
  cases z with
  | tup e r => exact ⟨_, rfl, _, _, _, e, rfl, rfl, itemsAre r⟩
section
variable {KF : Params → Frag} {g : Gd KF} {c : Cx} {ρ : Loc} {H : AH} {X : XH} {k : AV → Loc → AH → Prop} {kb : Bool → Loc → AH → Prop} {x : AV → Loc → AH → Prop}

theorem Rep.notSys {cx : Cx} {h : Heap} {a : Addr} {o : AObj} (R : Rep g cx h ρ H X) (hH : H a = some o) : (a == sysModules) = false := by
  have h1 := (R.o.obj a o hH).1
  have h2 := g.lo
  exact beq_eq_false_iff_ne.mpr fun e => absurd (e ▸ h1) (Nat.not_le.mpr h2)
theorem VRs.inv1 {h : Heap} {vs : List Value} {a : AV} (z : VRs h vs [a]) : ∃ v, vs = [v] ∧ VR h v a := let ⟨v, _, e, q, r⟩ := z.lc; ⟨v, by rw [e, r.l0], q⟩
theorem VRs.inv2 {h : Heap} {vs : List Value} {a b : AV} (z : VRs h vs [a, b]) : ∃ v w, vs = [v, w] ∧ VR h v a ∧ VR h w b := let ⟨v, _, e, q, r⟩ := z.lc; let ⟨w, e2, q2⟩ := r.inv1; ⟨v, w, by rw [e, e2], q, q2⟩
theorem VRs.inv3 {h : Heap} {vs : List Value} {a b c : AV} (z : VRs h vs [a, b, c]) : ∃ v w u, vs = [v, w, u] ∧ VR h v a ∧ VR h w b ∧ VR h u c := let ⟨v, _, e, q, r⟩ := z.lc; let ⟨w, u, e2, q2, q3⟩ := r.inv2; ⟨v, w, u, by rw [e, e2], q, q2, q3⟩
theorem Rep.dS {cx : Cx} {h : Heap} {a : Addr} {xs : List (Str × AV)} (R : Rep g cx h ρ H X) (hH : H a = some (.dictS xs)) : ∃ ys, h.DictOf (strKind g.prog g.w) a ys ∧ PR h ys xs := (R.o.obj a _ hH).2
theorem Rep.dI {cx : Cx} {h : Heap} {a : Addr} {xs : List (Int × AV)} (R : Rep g cx h ρ H X) (hH : H a = some (.dictI xs)) : ∃ ys, h.DictOf (intKind g.prog g.w) a ys ∧ PR h ys xs := (R.o.obj a _ hH).2
theorem Rep.dT {cx : Cx} {h : Heap} {a : Addr} {xs : List (List Int × AV)} (R : Rep g cx h ρ H X) (hH : H a = some (.dictT xs)) : ∃ ys, h.DictOfH (tupleKind (intKind g.prog g.w)) a ys ∧ TR h ys xs := (R.o.obj a _ hH).2
theorem isStr_key {u : Str} {t : Tok} : (strKind g.prog g.w).is u (.str u t) = true := by show Value.isStrOf u (.str u t) = true; unfold Value.isStrOf; exact beq_self_eq_true u
theorem isInt_key {u : Int} {t : Tok} : (intKind g.prog g.w).is u (.int u t) = true := by simp [intKind, Value.isInt]
theorem OVR.getD {h : Heap} {o : Option Value} {a : Option AV} {v : Value} {d : AV} (z : OVR h o a) (hv : VR h v d) : VR h (o.getD v) (a.getD d) := by
  cases z with
  | none => exact hv
  | some q => exact q

theorem OpL.getS2 {a : Addr} {xs : List (Str × AV)} {u : Str} {d : AV} (hH : H a = some (.dictS xs)) (h : k ((getA xs u).getD d) ρ H) : OpL g c VR (CallV (.builtin "dict.get")) [.ref a, .str u, d] ρ H k x := fun s X Q E vs R hv q e => by
  obtain ⟨_, _, z2, rfl, z, z1, hz2⟩ := hv.inv3
  cases z.refInv; (first | obtain ⟨_, rfl⟩ := z1.strI | obtain ⟨_, rfl⟩ := z1.intI | obtain rfl := z1.boolI | obtain rfl := z1.noneI | cases z1)
  obtain ⟨ys, h1, h2⟩ := R.dS hH
  exact call_meetsIn F.slot_dict_get h1.mapOf.typeIs F.entry_dict_get (F.args_dict_get_3 _ _ _) (meets_dict_get_default (strKind g.prog g.w) a isStr_key (R.notSys hH) _) ⟨_, h1.mapOf, q _ _ _ _ _ (Step.tok s _) R ((h2.get u).getD hz2) h⟩
theorem OpL.getI1 {a : Addr} {xs : List (Int × AV)} {u : Int} (hH : H a = some (.dictI xs)) (h : k ((getA xs u).getD .none) ρ H) : OpL g c VR (CallV (.builtin "dict.get")) [.ref a, .int u] ρ H k x := fun s X Q E vs R hv q e => by
  obtain ⟨_, _, rfl, z, z1⟩ := hv.inv2
  cases z.refInv; (first | obtain ⟨_, rfl⟩ := z1.strI | obtain ⟨_, rfl⟩ := z1.intI | obtain rfl := z1.boolI | obtain rfl := z1.noneI | cases z1)
  obtain ⟨ys, h1, h2⟩ := R.dI hH
  exact call_meetsIn F.slot_dict_get h1.mapOf.typeIs F.entry_dict_get (F.args_dict_get_2 _ _) (meets_dict_get (intKind g.prog g.w) a isInt_key (R.notSys hH)) ⟨_, h1.mapOf, q _ _ _ _ _ (Step.tok s _) R ((h2.get u).getD .none) h⟩
theorem OpL.getT2 {a : Addr} {xs : List (List Int × AV)} {u : List Int} {d : AV} (hu : c.A.units + 1 < cLine) (hH : H a = some (.dictT xs)) (h : k ((getA xs u).getD d) ρ H) : OpL g c VR (CallV (.builtin "dict.get")) [.ref a, .tup (intsAV u), d] ρ H k x := fun s X Q E vs R hv q e => by
  obtain ⟨_, _, z2, rfl, z, z1, hz2⟩ := hv.inv3
  cases z.refInv
  obtain ⟨ys, h1, h2⟩ := R.dT hH
  obtain ⟨b, rfl, hk⟩ := VR.tupKey (prog := g.prog) (w := g.w) z1
  exact call_meetsIn F.slot_dict_get h1.typeIs F.entry_dict_get (F.args_dict_get_3 _ _ _) (meetsH_dict_get_default (tupleKind (intKind g.prog g.w)) a b (R.notSys hH) _) ⟨tupleKind_room_in1 hu, _, _, hk, h1, q _ _ _ _ _ (Step.tok s _) R ((h2.get u).getD hz2) h⟩
theorem OVR.isSome {h : Heap} {o : Option Value} {a : Option AV} (z : OVR h o a) : o.isSome = a.isSome := by (first | obtain ⟨_, rfl⟩ := z.strI | obtain ⟨_, rfl⟩ := z.intI | obtain rfl := z.boolI | obtain rfl := z.noneI | cases z) <;> rfl
theorem Op2.inDS {a : Addr} {xs : List (Str × AV)} {u : Str} (hH : H a = some (.dictS xs)) (h : k (.bool (getA xs u).isSome) ρ H) : Op2 g c VR (compareOp .In) (.str u) (.ref a) ρ H k x := fun s X Q E va vb R ha hb q e => by
  cases hb.refInv; (first | obtain ⟨_, rfl⟩ := ha.strI | obtain ⟨_, rfl⟩ := ha.intI | obtain rfl := ha.boolI | obtain rfl := ha.noneI | cases ha)
  obtain ⟨ys, h1, h2⟩ := R.dS hH
  exact wpAny_in_of (knd := strKind g.prog g.w) isStr_key (R.notSys hH) h1.mapOf (q _ _ _ _ _ (Step.tok s _) R (by rw [(h2.get u).isSome]; exact .bool _) h)
theorem slot_dict_getitem_lookup : typeLookup (.type "dict") "__getitem__" = pure (some (.builtin "dict.__getitem__")) := slot_dict_getitem.lookup
theorem OVR.someI {h : Heap} {o : Option Value} {d : AV} (z : OVR h o (Option.some d)) : ∃ v, o = Option.some v ∧ VR h v d := by
  cases z with | some z => exact ⟨_, rfl, z⟩
theorem Op2.itemDS {value slice : Expr} {a : Addr} {xs : List (Str × AV)} {u : Str} {d : AV} (hH : H a = some (.dictS xs)) (hd : getA xs u = some d) (h : k d ρ H) (hs : PlainSub slice := by intro _ _; with_unfolding_all rfl) : Op2 g c VR (subscriptTail value slice) (.ref a) (.str u) ρ H k x := fun s X Q E va vb R ha hb q e => by
  cases ha.refInv; (first | obtain ⟨_, rfl⟩ := hb.strI | obtain ⟨_, rfl⟩ := hb.intI | obtain rfl := hb.boolI | obtain rfl := hb.noneI | cases hb)
  obtain ⟨ys, h1, h2⟩ := R.dS hH
  have z := h2.get u
  rw [hd] at z
  obtain ⟨v, hv, z⟩ := OVR.someI z
  exact tail_any h1.mapOf.typeIs slot_dict_getitem_lookup (wpAny_getItem_of (knd := strKind g.prog g.w) isStr_key h1.mapOf hv (q _ _ _ _ _ (Step.tok s _) R z h)) (hs _ _)
theorem Op2.itemDI {value slice : Expr} {a : Addr} {xs : List (Int × AV)} {u : Int} {d : AV} (hH : H a = some (.dictI xs)) (hd : getA xs u = some d) (h : k d ρ H) (hs : PlainSub slice := by intro _ _; with_unfolding_all rfl) : Op2 g c VR (subscriptTail value slice) (.ref a) (.int u) ρ H k x := fun s X Q E va vb R ha hb q e => by
  cases ha.refInv; (first | obtain ⟨_, rfl⟩ := hb.strI | obtain ⟨_, rfl⟩ := hb.intI | obtain rfl := hb.boolI | obtain rfl := hb.noneI | cases hb)
  obtain ⟨ys, h1, h2⟩ := R.dI hH
  have z := h2.get u
  rw [hd] at z
  obtain ⟨v, hv, z⟩ := OVR.someI z
  exact tail_any h1.mapOf.typeIs slot_dict_getitem_lookup (wpAny_getItem_of (knd := intKind g.prog g.w) isInt_key h1.mapOf hv (q _ _ _ _ _ (Step.tok s _) R z h)) (hs _ _)
noncomputable def OpS {KF : Params → Frag} (g : Gd KF) (c : Cx) (o i v : AV) (ρ : Loc) (H : AH) (k : Loc → AH → Prop) : Prop :=
  ∀ (s : Shared) (X : XH) (Q : Unit → Shared → Prop) (E : Value → Shared → Prop) (vo vi vv : Value), Rep g c s.heap ρ H X → VR s.heap vo o → VR s.heap vi i → VR s.heap vv v →
    (∀ s' ρ' H', Step s s' → Rep g c s'.heap ρ' H' X → k ρ' H' → Q () s') → wpAny (model g.prog g.w) c.A (setItem vo vi vv) Q E s
theorem Ex.assignSub {o i e : Expr} {pos' pos : Pos} {k : AF → Loc → AH → Prop} (h : Ev g c e ρ H (fun v ρ₁ H₁ => Ev g c o ρ₁ H₁ (fun ov ρ₂ H₂ => Ev g c i ρ₂ H₂ (fun iv ρ₃ H₃ => OpS g c ov iv v ρ₃ H₃ (k .next)) x) x) x)
    (hs : swapsWith e (some (.Subscript o i pos')) pos.line c.env = pure false := by kernel_rfl) : Ex g c (.Assign [.Subscript o i pos'] e pos) ρ H k x := fun s X Q E R q er =>
  wpAny_Assign_Subscript (h s X _ _ R (fun v b s₁ ρ₁ H₁ st₁ R₁ hv h₁ => h₁ s₁ X _ _ R₁ (fun ov ob s₂ ρ₂ H₂ st₂ R₂ ho h₂ => h₂ s₂ X _ _ R₂ (fun iv ib s₃ ρ₃ H₃ st₃ R₃ hi h₃ =>
    h₃ s₃ X _ _ ov iv v R₃ (ho.mono st₃.tup) hi (hv.mono (st₂.tup.trans st₃.tup)) fun s₄ ρ₄ H₄ st₄ R₄ h₄ => q _ _ _ _ _ (((st₁.trans st₂).trans st₃).trans st₄) R₄ .next h₄) (er.step (st₁.trans st₂))) (er.step st₁)) er) hs
theorem OpS.dS {a : Addr} {xs : List (Str × AV)} {u : Str} {d : AV} {k : Loc → AH → Prop} (hH : H a = some (.dictS xs)) (hz : xs.length ≤ 1000000) (h : k ρ (upd H a (.dictS (putA xs u d)))) : OpS g c (.ref a) (.str u) d ρ H k := fun s X Q E vo vi vv R ho hi hv q => by
  cases ho.refInv; (first | obtain ⟨_, rfl⟩ := hi.strI | obtain ⟨_, rfl⟩ := hi.intI | obtain rfl := hi.boolI | obtain rfl := hi.noneI | cases hi)
  obtain ⟨ys, h1, h2⟩ := R.dS hH
  refine wpAny_setItem_pairs (knd := strKind g.prog g.w) isStr_key h1 (fun h' hm' hs' => ?_) (by rw [h2.len, sizeLine_eq]; lia)
  obtain ⟨R', kp⟩ := R.change (o' := .dictS (putA xs u d)) hH (.inl rfl) rfl hs'.extBut (Nat.le_of_eq hs'.1.symm) rfl rfl fun kp => ⟨_, hm', (PR.put hv h2).mono kp⟩
  exact q _ _ _ (Step.heap' s kp) R' h
theorem OpS.dI {a : Addr} {xs : List (Int × AV)} {u : Int} {d : AV} {k : Loc → AH → Prop} (hH : H a = some (.dictI xs)) (hz : xs.length ≤ 1000000) (h : k ρ (upd H a (.dictI (putA xs u d)))) : OpS g c (.ref a) (.int u) d ρ H k := fun s X Q E vo vi vv R ho hi hv q => by
  cases ho.refInv; (first | obtain ⟨_, rfl⟩ := hi.strI | obtain ⟨_, rfl⟩ := hi.intI | obtain rfl := hi.boolI | obtain rfl := hi.noneI | cases hi)
  obtain ⟨ys, h1, h2⟩ := R.dI hH
  refine wpAny_setItem_pairs (knd := intKind g.prog g.w) isInt_key h1 (fun h' hm' hs' => ?_) (by rw [h2.len, sizeLine_eq]; lia)
  obtain ⟨R', kp⟩ := R.change (o' := .dictI (putA xs u d)) hH (.inl rfl) rfl hs'.extBut (Nat.le_of_eq hs'.1.symm) rfl rfl fun kp => ⟨_, hm', (PR.put hv h2).mono kp⟩
  exact q _ _ _ (Step.heap' s kp) R' h
theorem OpS.dT {a : Addr} {xs : List (List Int × AV)} {u : List Int} {d : AV} {k : Loc → AH → Prop} (hu : c.A.units + 1 < cLine) (hH : H a = some (.dictT xs)) (hz : xs.length ≤ 1000000) (h : k ρ (upd H a (.dictT (putA xs u d)))) : OpS g c (.ref a) (.tup (intsAV u)) d ρ H k := fun s X Q E vo vi vv R ho hi hv q => by
  cases ho.refInv
  obtain ⟨ys, h1, h2⟩ := R.dT hH
  obtain ⟨b, rfl, hk⟩ := VR.tupKey (prog := g.prog) (w := g.w) hi
  refine wpAny_setItem_heap (knd := tupleKind (intKind g.prog g.w)) (tupleKind_room_in1 hu) hk h1 (fun h' hm' hs' => ?_) (by rw [h2.len, sizeLine_eq]; lia)
  obtain ⟨R', kp⟩ := R.change (o' := .dictT (putA xs u d)) hH (.inl rfl) rfl hs'.extBut (Nat.le_of_eq hs'.1.symm) rfl rfl fun kp => ⟨_, hm', (TR.put hv h2).mono kp⟩
  exact q _ _ _ (Step.heap' s kp) R' h
theorem dict_new (h : Heap) {K : Type} [DecidableEq K] (knd : KeyKind g.prog g.w K) : (h.push { cls := .type "dict", data := .dict #[] }).DictOf knd h.objs.size [] :=
  ⟨_, #[], 0, Heap.get?_push_size _ rfl, ⟨rfl, rfl, rfl⟩, rfl, fun _ he => by simp at he, .nil, .nil⟩
theorem Ev.dictS {pos : Pos} (h : ∀ a, H a = none → k (.ref a) ρ (upd H a (.dictS []))) : Ev g c (.Dict [] [] pos) ρ H k x := fun s X Q E R q e =>
  wpAny_Dict_empty (q _ _ { s with heap := s.heap.push _ } _ _ (step_push s _ s.toks) (R.alloc (o' := .dictS []) ⟨[], dict_new _ _, .nil⟩) (.ref _) (h _ R.o.fresh))
theorem Ev.dictI {pos : Pos} (h : ∀ a, H a = none → k (.ref a) ρ (upd H a (.dictI []))) : Ev g c (.Dict [] [] pos) ρ H k x := fun s X Q E R q e =>
  wpAny_Dict_empty (q _ _ { s with heap := s.heap.push _ } _ _ (step_push s _ s.toks) (R.alloc (o' := .dictI []) ⟨[], dict_new _ _, .nil⟩) (.ref _) (h _ R.o.fresh))
theorem Ev.dictT {pos : Pos} (h : ∀ a, H a = none → k (.ref a) ρ (upd H a (.dictT []))) : Ev g c (.Dict [] [] pos) ρ H k x := fun s X Q E R q e =>
  wpAny_Dict_empty (q _ _ { s with heap := s.heap.push _ } _ _ (step_push s _ s.toks) (R.alloc (o' := .dictT []) ⟨[], Heap.DictOfH.new _, .nil⟩) (.ref _) (h _ R.o.fresh))

noncomputable def isDict : AObj → Bool
  | .dictS _ => true
  | .dictI _ => true
  | .dictT _ => true
  | _ => false
theorem OK.dictCls {h : Heap} {a : Addr} {o : AObj} (z : OK g h H a o) (ho : isDict o = true) : ∃ ob, h.get? a = some ob ∧ ob.cls = .type "dict" ∧ ob.dict = none := by
  cases o with
  | dictS xs => obtain ⟨ys, ⟨ob, es, ep, h1, h2, _⟩, _⟩ := z; exact ⟨ob, h1, h2.1, h2.2.1⟩
  | dictI xs => obtain ⟨ys, ⟨ob, es, ep, h1, h2, _⟩, _⟩ := z; exact ⟨ob, h1, h2.1, h2.2.1⟩
  | dictT xs => obtain ⟨ys, ⟨ob, es, ep, h1, h2, _⟩, _⟩ := z; exact ⟨ob, h1, h2.1, h2.2.1⟩
  | _ => cases ho
theorem Meth.dict {pos : Pos} {name : Str} {id : String} {es : List Expr} {a : Addr} {o : AObj} (hH : H a = some o) (ho : isDict o = true) (slot : Slot "dict" name id) (hty : typeOf (.builtin id) = pure (.type "method_descriptor"))
    (h : CW g c pos (.builtin id) [.ref a] es ρ H k x) : Meth g c pos name es (.ref a) ρ H k x := fun s X Q E v pl R hv q e => by
  cases hv.refInv
  have hd := OK.dictCls (R.o.obj a o hH).2 ho
  obtain ⟨ob, h1, h2, h3⟩ := hd
  exact getMethod_builtin ⟨_, h1, h2⟩ PySem.F.plainAttrs_dict slot hty (fun b e => by cases e; exact ⟨_, h1, h3⟩) (h s X Q E _ _ R (.builtin id) (.cons (.ref a) .nil) q e)
theorem Meth.list {pos : Pos} {name : Str} {id : String} {es : List Expr} {a : Addr} {us : List AV} (hH : H a = some (.list us)) (slot : Slot "list" name id) (hty : typeOf (.builtin id) = pure (.type "method_descriptor"))
    (h : CW g c pos (.builtin id) [.ref a] es ρ H k x) : Meth g c pos name es (.ref a) ρ H k x := fun s X Q E v pl R hv q e => by
  cases hv.refInv
  obtain ⟨its, n, h1, _⟩ := R.list hH
  exact getMethod_builtin ⟨_, h1, rfl⟩ PySem.F.plainAttrs_list slot hty (fun b e => by cases e; exact ⟨_, h1, rfl⟩) (h s X Q E _ _ R (.builtin id) (.cons (.ref a) .nil) q e)
theorem OpL.append {a : Addr} {us : List AV} {u : AV} (hH : H a = some (.list us)) (hz : us.length ≤ 1000000) (h : k .none ρ (upd H a (.list (us ++ [u])))) : OpL g c VR (CallV (.builtin "list.append")) [.ref a, u] ρ H k x := fun s X Q E vs R hv q e => by
  obtain ⟨_, _, rfl, z, z1⟩ := hv.inv2
  cases z.refInv
  exact appendL R hH z1 hz fun s' st R' => q _ _ _ _ _ st R' .none h
theorem VRs.last {h : Heap} {u : AV} : ∀ {us : List AV} {vs : List Value}, VRs h vs (us ++ [u]) → ∃ ws v, vs = ws ++ [v] ∧ VRs h ws us ∧ VR h v u
  | [], vs, z => let ⟨v, e, q⟩ := z.inv1; ⟨[], v, e, .nil, q⟩
  | w :: us, vs, z => let ⟨_, _, e0, a, r⟩ := z.lc; let ⟨ws, v, e, h1, h2⟩ := VRs.last r; ⟨_ :: ws, v, by rw [e0, e]; rfl, .cons a h1, h2⟩
theorem OpL.pop {a : Addr} {us : List AV} {u : AV} (hH : H a = some (.list (us ++ [u]))) (hz : us.length < 1000000) (h : k u ρ (upd H a (.list us))) : OpL g c VR (CallV (.builtin "list.pop")) [.ref a] ρ H k x := fun s X Q E vs R hv q e => by
  obtain ⟨_, rfl, z⟩ := hv.inv1
  cases z.refInv
  obtain ⟨its, n, h1, h2⟩ := R.list hH
  obtain ⟨ws, v, rfl, h3, h4⟩ := h2.last
  have hz' : (ws ++ [v]).toArray.size ≤ sizeLine := by rw [List.size_toArray, List.length_append, h3.length, sizeLine_eq]; simp; lia
  have hk : (ws ++ [v]).toArray.size - 1 = ws.length := by rw [List.size_toArray, List.length_append]; rfl
  have hy : (ws ++ [v]).toArray[(ws ++ [v]).toArray.size - 1]? = some v := by rw [hk]; simp
  refine call_meets PySem.F.slot_list_pop ⟨_, h1, rfl⟩ PySem.F.entry_list_pop (PySem.F.args_list_pop_1 _) (PySem.MeetsSeq.list_pop_last a _ n v hy hz') ⟨h1, ?_⟩
  have hs := Heap.SameBut.update s.heap a (Obj.mapSeq fun xs => xs.eraseIdxIfInBounds ((ws ++ [v]).toArray.size - 1))
  have ho := PySem.IsL.update h1 fun xs => xs.eraseIdxIfInBounds ((ws ++ [v]).toArray.size - 1)
  have e1 : (ws ++ [v]).toArray.eraseIdxIfInBounds ((ws ++ [v]).toArray.size - 1) = ws.toArray := by rw [hk, kl_erase, List.append_nil]
  rw [e1] at ho
  obtain ⟨R', kp⟩ := R.setList (us' := us) hH hs ho h3
  exact q _ _ _ _ _ (Step.heap' s (t := s.toks) kp) R' (h4.mono kp) h
theorem Op1.truthyL {a : Addr} {us : List AV} (hH : H a = some (.list us)) (hz : us.length < 2 ^ 60) (h : kb (!us.isEmpty) ρ H) : Op1 g c BR truthy (.ref a) ρ H kb x := fun s X Q E va R hv q e => by
  cases hv.refInv
  obtain ⟨its, n, h1, h2⟩ := R.list hH
  have hl := h2.length
  refine wpAny_truthy_list (isList_of h1) (by rw [List.size_toArray, hl]; lia) (q _ _ _ _ _ (Step.tok s _) R ?_ h)
  show (!its.toArray.isEmpty) = !us.isEmpty
  cases its <;> cases us <;> first | rfl | (first | obtain ⟨_, rfl⟩ := hl.strI | obtain ⟨_, rfl⟩ := hl.intI | obtain rfl := hl.boolI | obtain rfl := hl.noneI | cases hl)
end
end Mine
end

section
open PySem PySem.W PyProof.Rows PySem.Calls PySem.SeqAt
set_option Elab.async false
set_option genSizeOf false
set_option linter.unusedVariables false
set_option maxRecDepth 100000
namespace Mine
section
variable {KF : Params → Frag} {g : Gd KF} {c : Cx} {ρ : Loc} {H : AH} {X : XH} {k : AV → Loc → AH → Prop} {kb : Bool → Loc → AH → Prop} {x : AV → Loc → AH → Prop}

noncomputable def EvP {KF : Params → Frag} (g : Gd KF) (c : Cx) : Option Expr → Loc → AH → (Option Int → Loc → AH → Prop) → (AV → Loc → AH → Prop) → Prop
  | none, ρ, H, k, x => k none ρ H
  | some e, ρ, H, k, x => Ev g c e ρ H (fun v ρ₁ H₁ => ∃ i, v = .int i ∧ k (some i) ρ₁ H₁) x
theorem EvP.run {p : Option Expr} {k : Option Int → Loc → AH → Prop} (h : EvP g c p ρ H k x) : Tri g c (fun _ v d => IsPart v d) (evalPart p c.env) ρ H k x := fun s X Q E R q e => by
  cases p with
  | none => rw [evalPart_none]; exact wpAny_pure (q _ _ _ _ _ (.refl s) R .none h)
  | some p =>
    rw [evalPart_some]
    refine h s X _ _ R (fun v d s' ρ' H' st R' hv hk => ?_) e
    obtain ⟨i, rfl, hk⟩ := hk
    cases hv with
    | int _ t => exact q _ _ _ _ _ st R' (.int i t) hk
theorem Ev.slice {value : Expr} {lower upper : Option Expr} {p pos : Pos} (h : Ev g c value ρ H (fun o ρ₁ H₁ => EvP g c lower ρ₁ H₁ (fun lo ρ₂ H₂ => EvP g c upper ρ₂ H₂ (fun hi ρ₃ H₃ =>
      ∃ l us ws, o = .ref l ∧ H₃ l = some (.list us) ∧ us.length ≤ 1000000 ∧ (∀ (h : Heap) its, VRs h its us → ∃ its', slicePick its.toArray lo hi none = its'.toArray ∧ VRs h its' ws) ∧ ∀ a, H₃ a = none → k (.ref a) ρ₃ (upd H₃ a (.list ws))) x) x) x) : Ev g c (.Subscript value (.Slice lower upper none p) pos) ρ H k x := fun s X Q E R q e =>
  Subscript_ (h s X _ _ R (fun o od s₁ ρ₁ H₁ st₁ R₁ ho h₁ => wpAny_Slice (EvP.run h₁ s₁ X _ _ R₁ (fun vl lo s₂ ρ₂ H₂ st₂ R₂ hl h₂ => EvP.run h₂ s₂ X _ _ R₂ (fun vu hi s₃ ρ₃ H₃ st₃ R₃ hu h₃ => by
    obtain ⟨l, us, ws, rfl, hH, hz, hp, hk⟩ := h₃
    cases ho.refInv
    rw [evalPart_none]
    refine wpAny_pure ?_
    have R4 := R₃.push { cls := .type "slice", data := .fields #[vl, vu, .none] }
    obtain ⟨its, n, h1, h2⟩ := R4.list hH
    obtain ⟨its', e1, h3⟩ := hp _ its h2
    refine tail_any (s := { s₃ with heap := s₃.heap.push _ }) (isList_of h1).typeIs list_getitem_lookup (wpAny_getItem_list_slice (isList_of h1) (Heap.IsSliceOf.new ..) hl hu .none (by simp) ?_ (by rw [List.size_toArray, h2.length, sizeLine_eq]; lia)) rfl
    rw [e1]
    have kp : TupKeep s₃.heap ((s₃.heap.push { cls := .type "slice", data := .fields #[vl, vu, .none] }).push { cls := .type "list", data := .seq its'.toArray }) := .of_keep fun b o e => Heap.get?_push_of_some _ (Heap.get?_push_of_some _ e)
    exact q _ _ { s₃ with heap := _ } _ _ (((st₁.trans st₂).trans st₃).trans (Step.heap' s₃ (t := s₃.toks) kp)) (R4.alloc (o' := .list ws) ⟨its', 0, Heap.get?_push_size _ rfl, h3.mono (.of_keep fun b o e => Heap.get?_push_of_some _ e)⟩) (.ref _) (hk _ R4.o.fresh)) (e.step (st₁.trans st₂))) (e.step st₁))) e)
theorem pick_run {us : List AV} {a b : Nat} (hb : b ≤ us.length) (hab : a ≤ b) : ∀ (h : Heap) its, VRs h its us → ∃ its', slicePick its.toArray (some (a : Int)) (some (b : Int)) none = its'.toArray ∧ VRs h its' ((us.drop a).take (b - a)) := fun h its z =>
  ⟨_, slicePick_run its.toArray a b (by rw [List.size_toArray, z.length]; exact hb) hab, by
    show VRs h ((its.toArray.toList.drop a).take (b - a)) _
    rw [List.toList_toArray]; exact (z.drop a).take (b - a)⟩
theorem EvP.none' {k : Option Int → Loc → AH → Prop} (h : k none ρ H) : EvP g c none ρ H k x := h
theorem EvP.some' {e : Expr} {k : Option Int → Loc → AH → Prop} (h : Ev g c e ρ H (fun v ρ₁ H₁ => ∃ i, v = .int i ∧ k (some i) ρ₁ H₁) x) : EvP g c (some e) ρ H k x := h
theorem pick_runI {us : List AV} {a b : Int} (h0 : 0 ≤ a) (hab : a ≤ b) (hb : b ≤ us.length) : ∀ (h : Heap) its, VRs h its us → ∃ its', slicePick its.toArray (some a) (some b) none = its'.toArray ∧ VRs h its' ((us.drop a.toNat).take (b.toNat - a.toNat)) := fun h its z => by
  have := pick_run (us := us) (a := a.toNat) (b := b.toNat) (by lia) (by lia) h its z
  rwa [Int.toNat_of_nonneg h0, Int.toNat_of_nonneg (by lia)] at this
theorem Op2.addL {a b : Addr} {us ws : List AV} (ha : H a = some (.list us)) (hb : H b = some (.list ws)) (hz : us.length + ws.length ≤ 1000000) (h : ∀ l, H l = none → k (.ref l) ρ (upd H l (.list (us ++ ws)))) : Op2 g c VR (binaryOp .Add) (.ref a) (.ref b) ρ H k x := fun s X Q E va vb R hva hvb q e => by
  cases hva.refInv; cases hvb.refInv
  obtain ⟨its, n, h1, h2⟩ := R.list ha
  obtain ⟨its', n', h3, h4⟩ := R.list hb
  have e1 : its.toArray ++ its'.toArray = (its ++ its').toArray := by simp
  refine concat_meets ⟨_, h1, rfl⟩ ⟨_, h3, rfl⟩ noFill_list_add seq_list_add PySem.F.slot_list_add PySem.F.entry_list_add (PySem.F.args_list_add_2 _ _) (list_addW a b its.toArray its'.toArray n n' none none #[] #[] (by rw [List.size_toArray, List.size_toArray, h2.length, h4.length, sizeLine_eq]; lia)) ⟨h1, h3, ?_⟩
  rw [e1]
  exact q _ _ { s with heap := s.heap.push _ } _ _ (step_push s _ s.toks) (R.alloc (o' := .list (us ++ ws)) ⟨its ++ its', 0, Heap.get?_push_size _ rfl, (h2.append h4).mono (.of_keep fun _ _ e => Heap.get?_push_of_some _ e)⟩) (.ref _) (h _ R.o.fresh)
theorem OpL.tupleL {a : Addr} {us : List AV} (ha : H a = some (.list us)) (hz : us.length ≤ 1000000) (h : k (.tup us) ρ H) : OpL g c VR (CallV (.type "tuple")) [.ref a] ρ H k x := fun s X Q E vs R hv q e => by
  obtain ⟨_, rfl, z⟩ := hv.inv1
  cases z.refInv
  obtain ⟨its, n, h1, h2⟩ := R.list ha
  refine call_tuple_list (isList_of h1) (fun h' hk => ?_) (by rw [List.size_toArray, h2.length, sizeLine_eq]; lia)
  have kp : TupKeep s.heap (h'.push { cls := .type "tuple", data := .seq its.toArray }) := .of_keep fun b o e => Heap.get?_push_of_some _ (hk b o e)
  have R1 : Rep g c h' ρ H X := R.master (fun _ => False) (fun b o _ e => hk b o e) (.of_keep hk) fun _ f => f.elim
  exact q _ _ { s with heap := h'.push _ } _ _ (Step.heap' s (t := s.toks) kp) (R1.push _) (.tup (n := 0) (Heap.get?_push_size _ rfl) (h2.mono kp)) h
theorem VRs.strs {h : Heap} : ∀ {vs : List Value} {ss : List Str}, VRs h vs (ss.map .str) → ∃ l, vs = strValues l ∧ l.map (·.1) = ss
  | _, [], z => ⟨[], z.l0, rfl⟩
  | _, s :: ss, z => let ⟨_, _, e0, q, r⟩ := z.lc; let ⟨t, e3⟩ := q.strI; let ⟨l, e1, e2⟩ := VRs.strs r; ⟨(s, t) :: l, by rw [e0, e3, e1]; rfl, by rw [List.map_cons, e2]⟩
theorem OpL.join {a : Addr} {sep : Str} {ss : List Str} (ha : H a = some (.list (ss.map .str))) (hok : JoinOk sep ss = true) (h : k (.str (Txt.join sep ss)) ρ H) : OpL g c VR (CallV (.builtin "str.join")) [.str sep, .ref a] ρ H k x := fun s X Q E vs R hv q e => by
  obtain ⟨_, _, rfl, z, z1⟩ := hv.inv2
  cases z1.refInv
  cases z with
  | str _ t =>
    obtain ⟨its, n, h1, h2⟩ := R.list ha
    obtain ⟨l, rfl, e2⟩ := h2.strs
    show wpAny _ _ (PySem.call (.builtin "str.join") [.str sep t, .ref a]) _ _ _
    exact SC.join (isList_of h1) e2 hok fun t' tk => q _ _ _ _ _ (Step.tok s _) R (.str _ _) h
theorem Meth.str {pos : Pos} {name : Str} {id : String} {es : List Expr} {u : Str} (hm : ∀ (M : Model) (A : Around) (E : Value → Shared → Prop) (s : Shared) (t : Tok) (pl : Sem Bool) (Q : Value × List Value → Shared → Prop), Q (.builtin id, [.str u t]) s → wpAny M A (getMethod (.str u t) name pl) Q E s)
    (h : CW g c pos (.builtin id) [.str u] es ρ H k x) : Meth g c pos name es (.str u) ρ H k x := fun s X Q E v pl R hv q e => by
  cases hv with
  | str _ t => exact hm _ _ _ _ _ _ _ (h s X Q E _ _ R (.builtin id) (.cons (.str u t) .nil) q e)
theorem OpL.int {i : Int} (h : k (.int i) ρ H) : OpL g c VR (CallV (.type "int")) [.int i] ρ H k x := fun s X Q E vs R hv q e => by
  obtain ⟨_, rfl, z⟩ := hv.inv1
  cases z with
  | int _ t => exact call_int_int (q _ _ _ _ _ (.refl s) R (.int i t) h)
theorem OpL.abs {i : Int} (h : k (.int i.natAbs) ρ H) : OpL g c VR (CallV (.builtin "abs")) [.int i] ρ H k x := .of (fun s vs Q E hv q => by
  obtain ⟨_, rfl, z⟩ := hv.inv1
  cases z with
  | int _ t => exact call_abs_int fun u tk => q _ _ (by rw [show (if i < 0 then -i else i) = (i.natAbs : Int) by split <;> lia]; exact .int _ _)) h
inductive Same (H : AH) : Nat → AV → AV → Prop
  | int (n : Nat) (i : Int) : Same H n (.int i) (.int i)
  | str (n : Nat) (u : Str) : Same H n (.str u) (.str u)
  | tup {n : Nat} {ds es : List AV} : ds.length = es.length → (∀ (i : Nat) (d e : AV), ds[i]? = some d → es[i]? = some e → Same H n d e) → Same H (n + 1) (.tup ds) (.tup es)
  | list {n : Nat} {a b : Addr} {ds es : List AV} : H a = some (.list ds) → H b = some (.list es) → ds.length = es.length → (∀ (i : Nat) (d e : AV), ds[i]? = some d → es[i]? = some e → Same H n d e) → Same H (n + 1) (.ref a) (.ref b)
theorem VRs.get' {h : Heap} {vs : List Value} {ds : List AV} (z : VRs h vs ds) {i : Nat} (hi : i < vs.length) : ∃ d, ds[i]? = some d ∧ VR h vs[i] d := by
  have hl := z.length
  obtain ⟨v, h1, h2⟩ := z.get (List.getElem?_eq_getElem (by lia : i < ds.length))
  rw [List.getElem?_eq_getElem hi] at h1
  (first | obtain ⟨_, rfl⟩ := h1.strI | obtain ⟨_, rfl⟩ := h1.intI | obtain rfl := h1.boolI | obtain rfl := h1.noneI | cases h1)
  exact ⟨_, List.getElem?_eq_getElem (by lia), h2⟩
theorem Same.at {cx : Cx} {s : Shared} (R : Rep g cx s.heap ρ H X) : ∀ {n : Nat} {a b : AV} {A : Around} {va vb : Value}, Same H n a b → VR s.heap va a → VR s.heap vb b → A.units + n ≤ 9000 → EqAt A s va vb true := by
  intro n a b A va vb S
  induction S generalizing A va vb with
  | int n i =>
    intro v1 v2 _
    obtain ⟨t, rfl⟩ := v1.intI; obtain ⟨u, rfl⟩ := v2.intI
    have := EqAt.int_int (A := A) (s := s) i t i u; rwa [beq_self_eq_true] at this
  | str n i =>
    intro v1 v2 _
    obtain ⟨t, rfl⟩ := v1.strI; obtain ⟨u, rfl⟩ := v2.strI
    have := MeetsSeq.EqGives.at (eqGives_str i i t u) A s; rwa [beq_self_eq_true] at this
  | @tup n ds es hl hs ih =>
    intro v1 v2 hu
    obtain ⟨a, vs, n1, rfl, e1, z1⟩ := v1.tupI
    obtain ⟨b, ws, n2, rfl, e2, z2⟩ := v2.tupI
    have l1 := z1.length
    have l2 := z2.length
    by_cases q : a = b
    · subst q; exact EqAt.same _
    · refine EqAt.of_refs q ?_
      have := RcAt.tuples (A := A) (s := s) (e := fun _ => true) (items := vs.toArray) (items2 := ws.toArray) ⟨_, e1, rfl, _, rfl⟩ ⟨_, e2, rfl, _, rfl⟩ (by show A.units < 9900; lia) (fun j h1 h2 => by
        rw [List.size_toArray] at h1 h2
        obtain ⟨d, d1, d2⟩ := z1.get' h1
        obtain ⟨d', d3, d4⟩ := z2.get' h2
        have := ih j d d' d1 d3 (A := A.in1) d2 d4 (by show A.units + 1 + n ≤ 9000; lia)
        simpa using this)
      have e3 : ((List.range (min vs.toArray.size ws.toArray.size)).all (fun _ => true) && vs.toArray.size == ws.toArray.size) = true := by simp; lia
      rwa [e3] at this
  | @list n a b ds es ha hb hl hs ih =>
    intro v1 v2 hu
    cases v1.refInv; cases v2.refInv
    obtain ⟨vs, n1, e1, z1⟩ := R.list ha
    obtain ⟨ws, n2, e2, z2⟩ := R.list hb
    have l1 := z1.length
    have l2 := z2.length
    by_cases q : a = b
    · subst q; exact EqAt.same _
    · refine EqAt.of_refs q ?_
      have := RcAt.lists (A := A) (s := s) (e := fun _ => true) (isList_of e1) (isList_of e2) (by rw [List.size_toArray, List.size_toArray]; lia) (by show A.units < 9900; lia) (fun j h1 h2 => by
        rw [List.size_toArray] at h1 h2
        obtain ⟨d, d1, d2⟩ := z1.get' h1
        obtain ⟨d', d3, d4⟩ := z2.get' h2
        have := ih j d d' d1 d3 (A := A.in1) d2 d4 (by show A.units + 1 + n ≤ 9000; lia)
        simpa using this)
      have e3 : ((List.range vs.toArray.size).all (fun _ => true)) = true := by simp
      rwa [e3] at this
theorem Op2.neT {n : Nat} {ds es : List AV} (hs : Same H (n + 1) (.tup ds) (.tup es)) (hu : c.A.units + (n + 1) ≤ 9000) (h : k (.bool false) ρ H) : Op2 g c VR (compareOp .NotEq) (.tup ds) (.tup es) ρ H k x := fun s X Q E va vb R ha hb q e => by
  obtain ⟨a, vs, rfl, ⟨o1, e1, c1, n1, d1⟩, z1⟩ := VRs.isTup ha
  obtain ⟨b, ws, rfl, ⟨o2, e2, c2, n2, d2⟩, z2⟩ := VRs.isTup hb
  have l1 := z1.length
  have l2 := z2.length
  cases hs with
  | tup hl hs =>
    refine RcNeAt.tuples (e := fun _ => true) (items := vs.toArray) (items2 := ws.toArray) ⟨_, e1, c1, n1, d1⟩ ⟨_, e2, c2, n2, d2⟩ (by show c.A.units < 9900; lia) (fun j h1 h2 => ?_) _ _ _ _ ?_
    · rw [List.size_toArray] at h1 h2
      obtain ⟨d, d1, d2⟩ := z1.get' h1
      obtain ⟨d', d3, d4⟩ := z2.get' h2
      have := Same.at R (A := c.A.in1) (hs j d d' d1 d3) d2 d4 (by show c.A.units + 1 + n ≤ 9000; lia)
      simpa using this
    · have e3 : ((List.range (min vs.toArray.size ws.toArray.size)).all (fun _ => true) && vs.toArray.size == ws.toArray.size) = true := by simp; lia
      rw [e3]
      exact q _ _ _ _ _ (.refl s) R (.bool _) h
end
end Mine
end

section
open PySem PySem.W PyProof.Rows PySem.Calls
set_option Elab.async false
set_option genSizeOf false
set_option linter.unusedVariables false
set_option maxRecDepth 100000
namespace Mine
noncomputable def kindA : AObj → Nat
  | .inst C _ _ => C + 10
  | .own _ => 0
  | .list _ => 1
  | .dictS _ => 2
  | .dictI _ => 3
  | .dictT _ => 4
  | .exc _ _ _ _ _ => 5
  | .tb => 6
  | .exc0 _ => 7
theorem ne_kind {H : AH} {a b : Addr} {o o' : AObj} (ha : H a = some o) (hb : H b = some o') (hk : (kindA o == kindA o') = false) : a ≠ b := fun q => by
  subst q; rw [ha] at hb; cases hb; rw [beq_self_eq_true] at hk; cases hk
theorem ne_fresh {H : AH} {a b : Addr} {o : AObj} (ha : H a = none) (hb : H b = some o) : b ≠ a := fun q => by subst q; rw [ha] at hb; cases hb
theorem upd_fresh {H : AH} {a b : Addr} {o o' : AObj} (ha : H a = none) (e : H b = some o') : upd H a o b = some o' := (upd_ne (ne_fresh ha e)).trans e
theorem upd_kind {H : AH} {a b : Addr} {o o' oa : AObj} (ha : H a = some oa) (e : H b = some o') (hk : (kindA o' == kindA oa) = false) : upd H a o b = some o' := (upd_ne (ne_kind e ha hk)).trans e
theorem upd_new {H H₁ : AH} {a b : Addr} {o o' o₁ : AObj} (ha : H₁ a = none) (e₁ : H₁ b = some o₁) (e : H b = some o') : upd H a o b = some o' := (upd_ne (ne_fresh ha e₁)).trans e
noncomputable def Keep (H H' : AH) : Prop := ∀ b o, H b = some o → H' b = some o
theorem Keep.trans {H H' H'' : AH} (x : Keep H H') (y : Keep H' H'') : Keep H H'' := fun b o e => y b o (x b o e)
theorem Keep.new {H : AH} {a : Addr} {o : AObj} (h : H a = none) : Keep H (upd H a o) := fun b o e => upd_fresh h e
theorem fresh_upd {H : AH} {a b : Addr} {o ob : AObj} (ha : upd H b o a = none) : H a = none ∧ a ≠ b := by
  by_cases q : a = b
  · subst q; rw [upd_same] at ha; cases ha
  · rw [upd_ne q] at ha; exact ⟨ha, q⟩

theorem kB {k : AV → AH → Prop} {H : AH} {b b' : Bool} (h : k (.bool b) H) (e : b = b') : k (.bool b') H := e ▸ h
section
variable {KF : Params → Frag} {g : Gd KF}
theorem Rep0.drop {h : Heap} {H : AH} {X : XH} {L : Addr} {o : AObj} (hi : insOf o = none) (ho : ownTb o = (none, false)) (R : Rep0 g h (upd H L o) X) (hL : H L = none) : Rep0 g h H X := by
  have key : ∀ b o', H b = some o' → upd H L o b = some o' := fun b o' e => upd_fresh hL e
  have own : ∀ {d c : Addr}, upd H L o d = some (.own c) → H d = some (.own c) := fun {d c} h3 => by
    by_cases q : d = L
    · subst q; rw [upd_same] at h3; cases h3; cases ho
    · rwa [upd_ne q] at h3
  have tb : ∀ {d : Addr}, upd H L o d = some .tb → H d = some .tb := fun {d} h3 => by
    by_cases q : d = L
    · subst q; rw [upd_same] at h3; cases h3; cases ho
    · rwa [upd_ne q] at h3
  refine ⟨R.keep, R.size, fun a x e => ?_, fun a ob e => ?_⟩
  · have z := R.obj a x (key a x e)
    refine ⟨z.1, ?_⟩
    have w := z.2
    cases x with
    | inst C d fs =>
      obtain ⟨h1, h2, h3⟩ := w
      exact ⟨h1, h2, own h3⟩
    | exc C d T ctx fs =>
      obtain ⟨h1, h2, h3, h4⟩ := w
      exact ⟨h1, h2, own h3, fun t e => tb (h4 t e)⟩
    | own b =>
      obtain ⟨C, ob, h1, h2⟩ := w
      by_cases q : b = L
      · subst q; rw [upd_same] at h1; cases h1; rw [hi] at h2; cases h2
      · exact ⟨C, ob, by rwa [upd_ne q] at h1, h2⟩
    | list vs => exact w
    | tb => exact w
    | exc0 C => exact w
    | dictS f => exact w
    | dictI f => exact w
    | dictT f => exact w
  · have z := R.ext a ob e
    refine ⟨z.1, ?_, z.2.2⟩
    cases q : H a with
    | none => rfl
    | some o' => rw [key a o' q] at z; cases z.2.1
theorem Rep0.dropI {h : Heap} {H : AH} {X : XH} {a d C : Addr} {fs : List (Str × AV)} {o : AObj} (R : Rep0 g h (upd (upd H d o) a (.inst C d fs)) X) (ha : H a = none) (hd : H d = none) (ho : o = .own a) (hne : a ≠ d) : Rep0 g h H X := by
  subst ho
  have key : ∀ b o', H b = some o' → upd (upd H d (.own a)) a (.inst C d fs) b = some o' := fun b o' e => (upd_ne (ne_fresh ha e)).trans (upd_fresh hd e)
  have own : ∀ {d' c : Addr} {x : AObj}, H c = some x → upd (upd H d (.own a)) a (.inst C d fs) d' = some (.own c) → H d' = some (.own c) := fun {d' c x} e h3 => by
    have n1 : d' ≠ a := fun q => by subst q; rw [upd_same] at h3; cases h3
    have n2 : d' ≠ d := fun q => by
      subst q
      rw [upd_ne (Ne.symm hne), upd_same] at h3
      cases h3
      rw [ha] at e; cases e
    rwa [upd_ne n1, upd_ne n2] at h3
  have tb : ∀ {d' : Addr}, upd (upd H d (.own a)) a (.inst C d fs) d' = some .tb → H d' = some .tb := fun {d'} h3 => by
    have n1 : d' ≠ a := fun q => by subst q; rw [upd_same] at h3; cases h3
    have n2 : d' ≠ d := fun q => by
      subst q
      rw [upd_ne (Ne.symm hne), upd_same] at h3
      cases h3
    rwa [upd_ne n1, upd_ne n2] at h3
  refine ⟨R.keep, R.size, fun b x e => ?_, fun b ob e => ?_⟩
  · have z := R.obj b x (key b x e)
    refine ⟨z.1, ?_⟩
    have w := z.2
    cases x with
    | inst C' d' fs' =>
      obtain ⟨h1, h2, h3⟩ := w
      exact ⟨h1, h2, own e h3⟩
    | exc C' d' T ctx fs' =>
      obtain ⟨h1, h2, h3, h4⟩ := w
      exact ⟨h1, h2, own e h3, fun t e' => tb (h4 t e')⟩
    | own b' =>
      obtain ⟨C', ob, h1, h2⟩ := w
      have n1 : b' ≠ a := fun q => by
        subst q
        rw [upd_same] at h1
        cases h1
        cases h2
        rw [hd] at e; cases e
      have n2 : b' ≠ d := fun q => by
        rw [q, upd_ne (Ne.symm hne), upd_same] at h1
        cases h1
        cases h2
      exact ⟨C', ob, by rwa [upd_ne n1, upd_ne n2] at h1, h2⟩
    | list vs => exact w
    | tb => exact w
    | exc0 C => exact w
    | dictS f => exact w
    | dictI f => exact w
    | dictT f => exact w
  · have z := R.ext b ob e
    refine ⟨z.1, ?_, z.2.2⟩
    cases q : H b with
    | none => rfl
    | some o' => rw [key b o' q] at z; cases z.2.1
inductive Left (k : AV → AH → Prop) (v : AV) : AH → Prop
  | here {H : AH} : k v H → Left k v H
  | drop {H : AH} {L : Addr} {o : AObj} : insOf o = none → ownTb o = (none, false) → H L = none → Left k v H → Left k v (upd H L o)
  | dropI {H : AH} {a d C : Addr} {fs : List (Str × AV)} : H a = none → H d = none → a ≠ d → Left k v H → Left k v (upd (upd H d (.own a)) a (.inst C d fs))
theorem Left.get {k : AV → AH → Prop} {v : AV} {H : AH} (z : Left k v H) {h : Heap} {X : XH} (R : Rep0 g h H X) : ∃ H', k v H' ∧ Rep0 g h H' X := by
  induction z with
  | here z => exact ⟨_, z, R⟩
  | drop hi ho hL _ ih => exact ih (R.drop hi ho hL)
  | dropI ha hd hne _ ih => exact ih (R.dropI ha hd rfl hne)
theorem Cal.left {n : Nat} {b : Bool} {f : Addr} {as : List AV} {H : AH} {k x : AV → AH → Prop} (h : Cal g n b f as H (Left k) x) : Cal g n b f as H k x := fun A s X R vs ok sk hv R0 q e =>
  h A s X R vs ok sk hv R0 (fun v d s' H' st R' hv' hk => let ⟨H'', h1, h2⟩ := hk.get R'; q v d s' H'' st h2 hv' h1) e
theorem upd_upd (H : AH) (t : Addr) (a b : AObj) : upd (upd H t a) t b = upd H t b := by
  funext y
  unfold upd
  by_cases q : y = t
  · rw [if_pos q, if_pos q]
  · rw [if_neg q, if_neg q, if_neg q]
theorem upd_self {H : AH} {t : Addr} {a : AObj} (e : H t = some a) : upd H t a = H := by
  funext y
  unfold upd
  by_cases q : y = t
  · rw [if_pos q, q, e]
  · rw [if_neg q]
theorem CmpL.flat {c : Cx} {tg elt : Expr} {ifs : List Expr} {D : AH → Prop} {L : Addr} {k : List AV → Loc → AH → Prop} {H0 : AH} (G : Loc → Prop) (N : AV → Loc → Loc) (p : AV → Bool) (f : AV → AV) (hD : ∀ us, D (upd H0 L (.list us))) : ∀ (vs us : List AV) (ρ : Loc),
    (∀ v ∈ vs, ∀ ρ, G ρ → G (N v ρ)) →
    (∀ v ∈ vs, ∀ ρ us (k' : Loc → AH → Prop), G ρ → k' (N v ρ) (upd H0 L (.list us)) → As g c tg v ρ (upd H0 L (.list us)) k') →
    (∀ v ∈ vs, ∀ ρ us (k' : Bool → Loc → AH → Prop), G ρ → k' (p v) (N v ρ) (upd H0 L (.list us)) → TsL g c ifs (N v ρ) (upd H0 L (.list us)) k') →
    (∀ v ∈ vs, p v = true → ∀ ρ us (k' : AV → Loc → AH → Prop), G ρ → k' (f v) (N v ρ) (upd H0 L (.list us)) → Ev g c elt (N v ρ) (upd H0 L (.list us)) k' (fun _ _ _ => False)) →
    us.length + vs.length ≤ 1000000 → (∀ ρ, G ρ → k (us ++ (vs.filter p).map f) ρ (upd H0 L (.list (us ++ (vs.filter p).map f)))) → G ρ → CmpL g c tg elt ifs D L k vs us ρ (upd H0 L (.list us))
  | [], us, ρ, hN, ha, ht, he, hz, hk, hG => by
    have := hk ρ hG
    simp only [List.filter_nil, List.map_nil, List.append_nil] at this
    exact ⟨hD us, this⟩
  | v :: vs, us, ρ, hN, ha, ht, he, hz, hk, hG => by
    refine ⟨hD us, ha v (.head _) ρ us _ hG (ht v (.head _) ρ us _ hG ?_)⟩
    have hz' := hz
    rw [List.length_cons] at hz'
    cases hp : p v with
    | false =>
      rw [if_neg Bool.false_ne_true]
      refine CmpL.flat G N p f hD vs us (N v ρ) (fun w hw => hN w (.tail _ hw)) (fun w hw => ha w (.tail _ hw)) (fun w hw => ht w (.tail _ hw)) (fun w hw => he w (.tail _ hw)) (by lia) (fun ρ' hG' => ?_) (hN v (.head _) ρ hG)
      have := hk ρ' hG'
      rwa [List.filter_cons_of_neg (by rw [hp]; exact Bool.false_ne_true)] at this
    | true =>
      rw [if_pos rfl]
      refine he v (.head _) hp ρ us _ hG ⟨upd_same _ _ _, by lia, ?_⟩
      rw [upd_upd]
      refine CmpL.flat G N p f hD vs (us ++ [f v]) (N v ρ) (fun w hw => hN w (.tail _ hw)) (fun w hw => ha w (.tail _ hw)) (fun w hw => ht w (.tail _ hw)) (fun w hw => he w (.tail _ hw)) (by rw [List.length_append]; simp only [List.length_cons, List.length_nil]; lia) (fun ρ' hG' => ?_) (hN v (.head _) ρ hG)
      have := hk ρ' hG'
      rw [List.filter_cons_of_pos hp, List.map_cons] at this
      simpa using this
end
end Mine
end

section
open PySem PySem.W PyProof.Rows PySem.Calls
set_option Elab.async false
set_option genSizeOf false
set_option linter.unusedVariables false
set_option maxRecDepth 100000
namespace Mine
theorem upd_none {H : AH} {a b : Addr} {o : AObj} : upd H b o a = none ↔ a ≠ b ∧ H a = none :=
  ⟨fun h => ⟨(fresh_upd (ob := o) h).2, (fresh_upd (ob := o) h).1⟩, fun h => (upd_ne h.1).trans h.2⟩
theorem nmn {a : Addr} : a ∉ ([] : List Addr) := fun h => nomatch h
theorem nmc {a b : Addr} {l : List Addr} (h : a ≠ b) (hl : a ∉ l) : a ∉ b :: l := fun q => match List.mem_cons.mp q with | .inl e => h e | .inr e => hl e
theorem fmn {l : List Addr} : ∀ b ∈ ([] : List Addr), b ∈ l := fun _ h => nomatch h
theorem fmc {a : Addr} {l l' : List Addr} (h : a ∈ l') (hl : ∀ b ∈ l, b ∈ l') : ∀ b ∈ a :: l, b ∈ l' := fun b q => match List.mem_cons.mp q with | .inl e => e ▸ h | .inr e => hl b e
theorem uN {H : AH} {a b : Addr} {o : AObj} (e : upd H b o a = none) : H a = none := (upd_none.mp e).2
theorem uD {H : AH} {a b : Addr} {o : AObj} (e : upd H b o a = none) : a ≠ b := (upd_none.mp e).1
theorem putF_nil {y : Str} {v : AV} : putF [] y v = [(y, v)] := rfl
section
variable {KF : Params → Frag} {g : Gd KF} {c : Cx} {ρ : Loc} {H : AH} {X : XH} {k : AV → Loc → AH → Prop} {kb : Bool → Loc → AH → Prop} {x : AV → Loc → AH → Prop}
theorem Rep.keepAll {cx : Cx} {h h' : Heap} (R : Rep g cx h ρ H X) (hk : ∀ b o, h.get? b = some o → h'.get? b = some o) : Rep g cx h' ρ H X :=
  R.master (fun _ => False) (fun b o _ e => hk b o e) (.of_keep hk) fun _ f => f.elim
theorem OpL.max2 {a b : Int} (hh : c.A.handled = none) (h : k (.int (if b > a then b else a)) ρ H) : OpL g c VR (CallV (.builtin "max")) [.int a, .int b] ρ H k x := fun s X Q E vs R hv q e => by
  obtain ⟨_, _, rfl, z, z1⟩ := hv.inv2
  cases z with
  | int _ t =>
    cases z1 with
    | int _ u => exact max_two_ints hh fun h' tk hk => q _ _ _ _ _ (Step.heap' s (.of_keep hk)) (R.keepAll hk) (by split <;> exact .int _ _) h
noncomputable def TurnF {KF : Params → Frag} (g : Gd KF) (c : Cx) (tg : Expr) (body : List Stmt) (D : AH → Prop) (k : AF → Loc → AH → Prop) (vs : List AV) (f : AF) (ρ : Loc) (H : AH) : Prop := match f with
  | .next => D H ∧ ForL g c tg body D k vs ρ H
  | .cont => D H ∧ ForL g c tg body D k vs ρ H
  | .brk => k .next ρ H
  | .ret u => k (.ret u) ρ H
theorem ForL.cons {tg : Expr} {body : List Stmt} {D : AH → Prop} {k : AF → Loc → AH → Prop} {v : AV} {vs : List AV} (h : As g c tg v ρ H (fun ρ₁ H₁ => Exs g c body ρ₁ H₁ (TurnF g c tg body D k vs) (fun _ _ _ => False))) : ForL g c tg body D k (v :: vs) ρ H := by
  unfold ForL
  intro s X Q E vv R hv q
  refine h s X Q E vv R hv fun s' ρ' H' st R' hk => q s' ρ' H' st R' (Tri.mono hk (fun f ρ₂ H₂ hf => ?_) fun _ _ _ f => f)
  cases f <;> exact hf
theorem ForL.nil {tg : Expr} {body : List Stmt} {D : AH → Prop} {k : AF → Loc → AH → Prop} (h : k .next ρ H) : ForL g c tg body D k [] ρ H := h
theorem turnF_next {tg : Expr} {body : List Stmt} {D : AH → Prop} {k : AF → Loc → AH → Prop} {vs : List AV} (hD : D H) (h : ForL g c tg body D k vs ρ H) : TurnF g c tg body D k vs .next ρ H := ⟨hD, h⟩
end
end Mine
end

section
open PySem PySem.W PyProof.Rows PySem.Calls PySem.SeqAt
set_option Elab.async false
set_option genSizeOf false
set_option linter.unusedVariables false
set_option maxRecDepth 100000
namespace Mine
section
variable {KF : Params → Frag} {g : Gd KF} {c : Cx} {ρ : Loc} {H : AH} {X : XH} {k : AV → Loc → AH → Prop} {kb : Bool → Loc → AH → Prop} {x : AV → Loc → AH → Prop}
theorem VRs.strsAre {h : Heap} : ∀ {vs : List Value} {ss : List Str}, VRs h vs (ss.map .str) → StrsAre vs ss
  | _, [], z => by rw [z.l0]; exact .nil
  | _, s :: ss, z => by
    obtain ⟨v, ws, rfl, q, r⟩ := z.lc
    obtain ⟨t, rfl⟩ := q.strI
    exact .cons s t (VRs.strsAre r)
theorem Op2.inT {u : Str} {ss : List Str} (h : k (.bool (decide (u ∈ ss))) ρ H) : Op2 g c VR (compareOp .In) (.str u) (.tup (ss.map .str)) ρ H k x := fun s X Q E va vb R ha hb q e => by
  obtain ⟨a, vs, rfl, ⟨o, e1, c1, n, d1⟩, z⟩ := VRs.isTup hb
  cases ha with
  | str _ t =>
    have hs := z.strsAre
    refine in_tupleAt (isStrOf u) (items := vs.toArray) ⟨o, e1, c1, n, d1⟩ (fun y hy => MeetsSeq.EqGives.at (eq_isStrOf u t hs y (by simpa using hy)) _ _) (q _ _ _ _ _ (.refl s) R ?_ h)
    rw [← Array.any_toList, show vs.toArray.toList = vs from rfl, any_isStrOf u hs]
    have e2 : ss.any (· == u) = decide (u ∈ ss) := by
      rw [Bool.eq_iff_iff, List.any_eq_true, decide_eq_true_eq]
      constructor
      · rintro ⟨y, hy, e⟩; exact (eq_of_beq e) ▸ hy
      · intro hy; exact ⟨u, hy, beq_self_eq_true u⟩
    rw [e2]
    exact .bool _
theorem VR.toTup {h : Heap} {a : Addr} {vs : List Value} {n : Nat} {ds : List AV} (K : (KF g.w.params).In h) (hk : (KF g.w.params).lookup a = some (tupObj vs n)) (hv : ∀ h : Heap, VRs h vs ds) : VR h (.ref a) (.tup ds) := .tup (K _ _ hk) (hv h)
theorem Op2.inK {u : Str} {ss : List Str} {a : Addr} {vs : List Value} {n : Nat} (hk : (KF g.w.params).lookup a = some (tupObj vs n)) (hv : ∀ h : Heap, VRs h vs (ss.map .str)) (h : k (.bool (decide (u ∈ ss))) ρ H) : Op2 g c VR (compareOp .In) (.str u) (.ref a) ρ H k x := fun s X Q E va vb R ha hb q e => by
  cases hb.refInv
  exact Op2.inT h s X Q E va (.ref a) R ha (VR.toTup R.K hk hv) q e
theorem Op2.notInDS {a : Addr} {xs : List (Str × AV)} {u : Str} (hH : H a = some (.dictS xs)) (h : k (.bool (!(getA xs u).isSome)) ρ H) : Op2 g c VR (compareOp .NotIn) (.str u) (.ref a) ρ H k x := fun s X Q E va vb R ha hb q e => by
  cases hb.refInv; (first | obtain ⟨_, rfl⟩ := ha.strI | obtain ⟨_, rfl⟩ := ha.intI | obtain rfl := ha.boolI | obtain rfl := ha.noneI | cases ha)
  obtain ⟨ys, h1, h2⟩ := R.dS hH
  exact wpAny_notIn_of (knd := strKind g.prog g.w) isStr_key (R.notSys hH) h1.mapOf (q _ _ _ _ _ (Step.tok s _) R (by rw [(h2.get u).isSome]; exact .bool _) h)
theorem OpL.tupleT {us : List AV} (h : k (.tup us) ρ H) : OpL g c VR (CallV (.type "tuple")) [.tup us] ρ H k x := fun s X Q E vs R hv q e => by
  obtain ⟨_, rfl, z⟩ := hv.inv1
  obtain ⟨a, ws, rfl, h1, h2⟩ := VRs.isTup z
  exact call_tuple_tup h1 (q _ _ _ _ _ (.refl s) R z h)
theorem Op2.last {value slice : Expr} {t : Addr} {us : List AV} {d : AV} (hH : H t = some (.list (us ++ [d]))) (hz : us.length ≤ 1000000) (h : k d ρ H) (hs : PlainSub slice := by intro _ _; with_unfolding_all rfl) : Op2 g c VR (subscriptTail value slice) (.ref t) (.int (-1)) ρ H k x := by
  have hl : (us ++ [d]).length = us.length + 1 := by rw [List.length_append]; rfl
  refine Op2.itemLneg hH (by lia) (by lia) (by lia) ?_ h hs
  have e : ((-1 : Int) + ((us ++ [d]).length : Int)).toNat = us.length := by lia
  rw [e, List.getElem?_append_right (Nat.le_refl _), Nat.sub_self]
  rfl
end
end Mine
end

section
open PySem PySem.W PyProof.Rows PySem.Calls PySem.SeqAt PySem.Builtin PySem.Builtin.Str
set_option Elab.async false
set_option genSizeOf false
set_option linter.unusedVariables false
set_option maxRecDepth 100000
namespace Mine
section
variable {KF : Params → Frag} {g : Gd KF} {c : Cx} {ρ : Loc} {H : AH} {X : XH} {k : AV → Loc → AH → Prop} {kb : Bool → Loc → AH → Prop} {x : AV → Loc → AH → Prop}
theorem Op2.itemS {value slice : Expr} {u : Str} {i : Int} (h0 : 0 ≤ i) (h2 : i < u.length) (hz : i < 2 ^ 60) (h : k (.str (Txt.item u i)) ρ H) (hs : PlainSub slice := by intro _ _; with_unfolding_all rfl) : Op2 g c VR (subscriptTail value slice) (.str u) (.int i) ρ H k x := fun s X Q E va vb R ha hb q e => by
  cases ha with
  | str _ t =>
    cases hb with
    | int _ w =>
      exact item_str (by unfold fitsSsize; simp; lia) (by lia) h2 (fun _ => q _ _ _ _ _ (Step.tok s _) R (.str _ _) h) (hs _ _) (by intro r; cases value <;> rfl)
theorem Ex.assignT {elts : List Expr} {n : Nat} {tpos pos : Pos} {e : Expr} {k : AF → Loc → AH → Prop} (h : Ev g c e ρ H (fun v ρ₁ H₁ => As g c (.Tuple elts n tpos) v ρ₁ H₁ (k .next)) x)
    (hs : swapsWithSole [.Tuple elts n tpos] e pos.line c.env = pure false := by rfl) (hw : swappedStores [.Tuple elts n tpos] e c.env = pure none := by rfl) : Ex g c (.Assign [.Tuple elts n tpos] e pos) ρ H k x := fun s X Q E R q er =>
  Assign_Tuple (h s X _ _ R (fun v b s₁ ρ₁ H₁ st₁ R₁ hv h₁ => h₁ s₁ X _ _ v R₁ hv fun s₂ ρ₂ H₂ st₂ R₂ h₂ => q _ _ _ _ _ (st₁.trans st₂) R₂ .next h₂) er) hs hw
end
end Mine
end

section
open PySem PySem.W PyProof.Rows PySem.Calls
set_option Elab.async false
set_option genSizeOf false
set_option linter.unusedVariables false
set_option maxRecDepth 100000
namespace Mine
section
variable {KF : Params → Frag} {g : Gd KF} {c : Cx} {ρ : Loc} {H : AH} {X : XH} {x : AV → Loc → AH → Prop}
theorem Ex.tryq {body : List Stmt} {h₀ : ExceptHandler} {hs : List ExceptHandler} {pos : Pos} {k : AF → Loc → AH → Prop} (h : Exs g c body ρ H k (fun _ _ _ => False)) : Ex g c (.Try body (h₀ :: hs) [] [] pos) ρ H k x := fun s X Q E R q e =>
  wpAny_Try_except (h s X _ _ R (fun f f' s₁ ρ₁ H₁ st R₁ hf hk => by
    cases hf with
    | next => exact wpAny_execs_nil (q _ _ _ _ _ st R₁ .next hk)
    | brk => exact q _ _ _ _ _ st R₁ .brk hk
    | cont => exact q _ _ _ _ _ st R₁ .cont hk
    | ret hv => exact q _ _ _ _ _ st R₁ (.ret hv) hk) fun _ _ _ _ _ _ _ _ h => h.elim)
end
end Mine
end

section
open PySem PySem.W PyProof.Rows PySem.Calls
set_option Elab.async false
set_option genSizeOf false
set_option linter.unusedVariables false
set_option maxRecDepth 100000
namespace Mine
section
variable {KF : Params → Frag} {g : Gd KF} {c : Cx} {ρ : Loc} {H : AH} {X : XH} {k : AV → Loc → AH → Prop} {x : AV → Loc → AH → Prop}
theorem Ev.sliceG {value : Expr} {lower upper : Option Expr} {p pos : Pos} (h : Ev g c value ρ H (fun o ρ₁ H₁ => EvP g c lower ρ₁ H₁ (fun lo ρ₂ H₂ => EvP g c upper ρ₂ H₂ (fun hi ρ₃ H₃ =>
      ∃ (l : Addr) (its its' : List Value) (ws : List AV), o = .ref l ∧ g.hb.IsList l its.toArray ∧ its.length ≤ 1000000 ∧ slicePick its.toArray lo hi none = its'.toArray ∧ (∀ h : Heap, VRs h its' ws) ∧ ∀ a, H₃ a = none → k (.ref a) ρ₃ (upd H₃ a (.list ws))) x) x) x) : Ev g c (.Subscript value (.Slice lower upper none p) pos) ρ H k x := fun s X Q E R q e =>
  Subscript_ (h s X _ _ R (fun o od s₁ ρ₁ H₁ st₁ R₁ ho h₁ => wpAny_Slice (EvP.run h₁ s₁ X _ _ R₁ (fun vl lo s₂ ρ₂ H₂ st₂ R₂ hl h₂ => EvP.run h₂ s₂ X _ _ R₂ (fun vu hi s₃ ρ₃ H₃ st₃ R₃ hu h₃ => by
    refine absG fun G₀ hG₀ => ?_
    obtain ⟨l, its, its', ws, rfl, hG, hz, e1, h3, hk⟩ := h₃
    refine hG₀ ?_
    cases ho.refInv
    rw [evalPart_none]
    refine wpAny_pure ?_
    have R4 := R₃.push { cls := .type "slice", data := .fields #[vl, vu, .none] }
    have h1 := hG.at (fun o e => R4.o.keep l o e)
    refine tail_any (s := { s₃ with heap := s₃.heap.push _ }) h1.typeIs list_getitem_lookup (wpAny_getItem_list_slice h1 (Heap.IsSliceOf.new ..) hl hu .none (by simp) ?_ (by rw [List.size_toArray, sizeLine_eq]; lia)) rfl
    rw [e1]
    have kp : TupKeep s₃.heap ((s₃.heap.push { cls := .type "slice", data := .fields #[vl, vu, .none] }).push { cls := .type "list", data := .seq its'.toArray }) := .of_keep fun b o e => Heap.get?_push_of_some _ (Heap.get?_push_of_some _ e)
    exact q _ _ { s₃ with heap := _ } _ _ (((st₁.trans st₂).trans st₃).trans (Step.heap' s₃ (t := s₃.toks) kp)) (R4.alloc (o' := .list ws) ⟨its', 0, Heap.get?_push_size _ rfl, h3 _⟩) (.ref _) (hk _ R4.o.fresh)) (e.step (st₁.trans st₂))) (e.step st₁))) e)
theorem ints_VRs {h : Heap} {vs : List Value} {ns : List Int} (z : IntsAre vs ns) : VRs h vs (ns.map .int) := by
  induction z with
  | nil => exact .nil
  | cons n t r ih => exact .cons (.int n t) ih
end
end Mine
end

section
open PySem PySem.W PyProof.Rows PySem.Calls
set_option Elab.async false
set_option genSizeOf false
set_option linter.unusedVariables false
set_option maxRecDepth 100000
namespace Mine
end Mine
end

section
open PySem PySem.W PyProof.Rows PySem.Calls
set_option Elab.async false
set_option genSizeOf false
set_option linter.unusedVariables false
set_option maxRecDepth 100000
namespace Mine
theorem VRs.repl {h : Heap} {v : Value} {d : AV} (z : VR h v d) : ∀ n, VRs h (List.replicate n v) (List.replicate n d)
  | 0 => .nil
  | n + 1 => .cons z (VRs.repl z n)
theorem flat_one (v : Value) : ∀ (n : Nat) (a : Array Value), List.foldl (fun x1 x2 => x1 ++ x2) a (List.replicate n #[v]) = a ++ (List.replicate n v).toArray
  | 0, a => by simp
  | n + 1, a => by
    rw [List.replicate_succ, List.foldl_cons, flat_one v n, List.replicate_succ]
    apply Array.ext'
    simp
section
variable {KF : Params → Frag} {g : Gd KF} {c : Cx} {ρ : Loc} {H : AH} {X : XH} {k : AV → Loc → AH → Prop} {kb : Bool → Loc → AH → Prop} {x : AV → Loc → AH → Prop}
theorem mulG {prog : Program} {w : World} {A : Around} {E : Value → Shared → Prop} {s : Shared} {l : Addr} {items : Array Value} {k : Nat} {x : Int} {u : Tok} {Q : Value → Shared → Prop}
    (hl : s.heap.get? l = some { cls := .type "list", dict := none, data := .seq items k, slots := #[] })
    (hlo : -(2 ^ 63 : Int) ≤ x) (hhi : x < 2 ^ 63) (hsz : items.size * x.toNat ≤ 2 ^ 24)
    (h : Q (.ref s.heap.objs.size) { s with heap := s.heap.push { cls := .type "list", data := .seq (List.foldl (fun x1 x2 => x1 ++ x2) #[] (List.replicate (if items.isEmpty = true then 0 else x.toNat) items)) } }) :
    wpAny (model prog w) A (binaryOp .Mult (.ref l) (.int x u)) Q E s :=
  wpAny_binaryOp_repeat_ref (T := "list") (U := "int") (by decide) ⟨_, hl, rfl⟩ (fun s' => typeIs_int s' x u) noFill_list_mul F.fills_int_mul F.slot_int_rmul repeat_list F.slot_int_index.lookup
    (call_meets F.slot_int_rmul (typeIs_int s x u) F.entry_int_rmul (F.args_int_rmul_2 _ _) (int___rmul___int_list x u l items k)
      ⟨hl, rfl, ⟨_, hl, rfl⟩, call_meets F.slot_list_mul ⟨_, hl, rfl⟩ F.entry_list_mul (F.args_list_mul_2 _ _)
        (AutoListH.list___mul___list_int_3 l items k x u (by simp [Builtin.List.listFitsIndex]; lia) (by lia) (by simp [Builtin.List.listTooLong, sizeLine]; lia))
        ⟨hl, h⟩⟩)
theorem Op2.mulOne {a : Addr} {v : AV} {n : Nat} (ha : H a = some (.list [v])) (hz : n ≤ 1000) (h : ∀ l, H l = none → k (.ref l) ρ (upd H l (.list (List.replicate n v)))) : Op2 g c VR (binaryOp .Mult) (.ref a) (.int n) ρ H k x := fun s X Q E va vb R hva hvb q e => by
  cases hva.refInv
  cases hvb with
  | int _ u =>
    obtain ⟨its, m, h1, h2⟩ := R.list ha
    obtain ⟨v', rfl, h3⟩ := h2.inv1
    refine mulG (items := [v'].toArray) h1 (by lia) (by lia) (by simp; lia) ?_
    have e1 : List.foldl (fun x1 x2 => x1 ++ x2) #[] (List.replicate (if ([v'] : List Value).toArray.isEmpty = true then 0 else (n : Int).toNat) ([v'] : List Value).toArray) = (List.replicate n v').toArray := by
      rw [if_neg (by simp), Int.toNat_natCast]
      have := flat_one v' n #[]
      simpa using this
    rw [e1]
    exact q _ _ { s with heap := s.heap.push _ } _ _ (step_push s _ s.toks) (R.alloc (o' := .list (List.replicate n v)) ⟨List.replicate n v', 0, Heap.get?_push_size _ rfl, (VRs.repl h3 n).mono (.of_keep fun _ _ e => Heap.get?_push_of_some _ e)⟩) (.ref _) (h _ R.o.fresh)
end
end Mine
end

section
open PySem PySem.W PyProof.Rows PySem.Calls
set_option Elab.async false
set_option genSizeOf false
set_option linter.unusedVariables false
namespace Mine
section
variable {KF : Params → Frag} {g : Gd KF} {c : Cx}
noncomputable def Pu {KF : Params → Frag} (g : Gd KF) (c : Cx) (e : Expr) (v : AV) : Prop :=
  (∀ {ρ : Loc} {H : AH} {k : AV → Loc → AH → Prop} {x : AV → Loc → AH → Prop}, k v ρ H → Ev g c e ρ H k x) ∧ notStar e = true
noncomputable def PuL {KF : Params → Frag} (g : Gd KF) (c : Cx) (es : List Expr) (vs : List AV) : Prop :=
  ∀ {pos : Pos} {ρ : Loc} {H : AH} {k : List AV → Loc → AH → Prop} {x : AV → Loc → AH → Prop}, k vs ρ H → EvL g c pos es ρ H k x
theorem Pu.int {i : Int} {n : Nat} {p : Pos} : Pu g c (.Constant (.int i) n p) (.int i) := ⟨fun h => Ev.cint h, rfl⟩
theorem Pu.str {i : Str} {n : Nat} {p : Pos} : Pu g c (.Constant (.str i) n p) (.str i) := ⟨fun h => Ev.cstr h, rfl⟩
theorem Pu.bool {i : Bool} {n : Nat} {p : Pos} : Pu g c (.Constant (.bool i) n p) (.bool i) := ⟨fun h => Ev.cbool h, rfl⟩
theorem PuL.nil : PuL g c [] [] := fun h => EvL.nil h
theorem PuL.cons {e : Expr} {v : AV} {es : List Expr} {vs : List AV} (h : Pu g c e v) (hs : PuL g c es vs) : PuL g c (e :: es) (v :: vs) := fun q => EvL.cons (h.1 (hs q)) h.2
theorem Pu.tup {es : List Expr} {vs : List AV} {n : Nat} {p : Pos} (h : PuL g c es vs) (hz : Nat.ble vs.length 1000000 = true) : Pu g c (.Tuple es n p) (.tup vs) :=
  ⟨fun q => Ev.tuple (h ⟨Nat.le_of_ble_eq_true hz, q⟩), rfl⟩
end
end Mine
end

section
open PySem PySem.W PyProof.Rows PySem.Calls
set_option Elab.async false
set_option linter.unusedVariables false
set_option maxRecDepth 100000
namespace Mine
structure ExcF (K : Frag) (C : Addr) : Prop where
  get : findIn K (.ref C) "__getattribute__" = some (some (.builtin "BaseException.__getattribute__"))
  gattr : findIn K (.ref C) "__getattr__" = some none
  set : findIn K (.ref C) "__setattr__" = some (some (.builtin "object.__setattr__"))
  hd : hasDictIn K C = true
  mro : ∃ cd C', clsIn K C = some cd ∧ cd.mro = [.ref C, .ref C', .type "Exception", .type "BaseException", .type "object"]
theorem ExcF.sub {K : Frag} {C : Addr} (F : ExcF K C) {M : Model} {h : Heap} (X : K.In h) {n : String} (hn : n = "object" ∨ n = "BaseException" ∨ n = "Exception") : Looks M h (isSubtype (.ref C) (.type n)) true := by
  obtain ⟨cd, C', hc, hm⟩ := F.mro
  refine looks_mroIn X ?_
  unfold mroIn
  rw [hc, Option.bind_some, hm, if_neg (by simp)]
  rcases hn with rfl | rfl | rfl <;> simp
section
variable {prog : Program} {w : World} {A : Around} {s : Shared} {K : Frag} {x C : Addr} {R : Result → Shared → Prop}
theorem exc_osa {ox : Obj} {od : Option Obj} {name : Str} {tk : Tok} {v : Value} (X : K.In s.heap) (I : InstAt s.heap x ox C od) (F : ExcF K C) (ha : findIn K (.ref C) name = some none)
    (h : ∀ b, wpAny (model prog w) A.in1 (Builtin.ObjectAttr.storeInOwnDict (.ref x) (.ref C) (.str name tk) name v b)
      (fun fin s' => match fin with | .done f => R (.ok f) s' | .again c' => c'.quiet = true ∧ codeAny (model prog w) A c' R s') (fun e s' => R (.error e) s') s) :
    codeAny (model prog w) A (.call (.builtin "object.__setattr__") ⟨[.ref x, .str name tk, v], []⟩) R s := by
  have SF := PySem.F.store_Exception
  obtain ⟨cd, C', hc, hmro⟩ := F.mro
  have sub : Looks (model prog w) s.heap (isInstance (.ref x) (.type "object")) true := I.type.andThen (F.sub X (.inl rfl))
  refine codeAny_call_builtin SF.slot.plain SF.entry (@check_slot (model prog w) _ _ s "object.__setattr__" "object" "__setattr__" (.ref x) [.str name tk, v] [] _ SF.kind SF.split sub (SF.args (.ref x) (.str name tk) v) ?_)
  have hm : Looks (model prog w) s.heap (mroOf (.ref C)) cd.mro := (looks_clsIn X hc).andThen .now
  have L3 : Looks (model prog w) s.heap (Builtin.ObjectAttr.storeTaker? none) none := .now
  rw [osa_eq, refuse_eq]
  refine wpAny_bind (wpAny_bind (I.type.here (wpAny_bind (hm.here ?_))))
  rw [hmro, refuseLoop_ref, refuseLoop_ref, SF.passes]
  refine wpAny_pure (wpAny_bind (I.type.here (wpAny_bind ((looks_findIn X ha).here (wpAny_bind (L3.here ?_))))))
  exact h _
end
end Mine
end

section
open PySem PySem.W PyProof.Rows PySem.Calls
set_option Elab.async false
set_option linter.unusedVariables false
set_option maxRecDepth 100000
namespace Mine
noncomputable abbrev excO (C : Addr) (d : Option Addr) (vs : Array Value) (sl : Array (Option Value)) : Obj := ⟨.ref C, d, .fields vs, sl⟩
section
variable {prog : Program} {w : World} {A : Around} {s : Shared} {K : Frag} {t C d : Addr} {vs : Array Value} {sl : Array (Option Value)}
theorem exc_set {es : List DictEntry} {n : Nat} {name : Str} {v : Value} {Q : Unit → Shared → Prop} {E : Value → Shared → Prop} (X : K.In s.heap)
    (ht : s.heap.get? t = some (excO C (some d) vs sl)) (hd : s.heap.get? d = some (dictOf es n)) (F : ExcF K C) (ha : findIn K (.ref C) name = some none) (hr : es.any (·.refKey) = false) (hl : (getL name es).isSome = true) (hz : es.length ≤ 900)
    (h : Q () { s with heap := s.heap.update d (Obj.putName name (PyData.keyHash w.params name) (.str name (s.toks + 1)) v), toks := s.toks + 2 }) : wpAny (model prog w) A (setAttr (.ref t) name v) Q E s := by
  have I : InstAt s.heap t (excO C (some d) vs sl) C (some (dictOf es n)) := ⟨ht, rfl, rfl, hd⟩
  refine set_plain X I F.set ?_
  refine exc_osa (s := { s with toks := s.toks + 1 }) X I F ha fun b => ?_
  obtain ⟨cd, hcd, hdd⟩ := any_some F.hd
  have go : (s.heap.update d (Obj.putName name (PyData.keyHash w.params name) (.str name (s.toks + 1)) v)).get? d = some (dictOf (putL name (PyData.keyHash w.params name) (.str name (s.toks + 1)) v es) (putN name es n)) := by
    have e1 := putName_dict name (PyData.keyHash w.params name) (.str name (s.toks + 1)) v es n
    rw [← e1]
    exact Heap.get?_update_self _ hd (by rw [e1]; rfl)
  refine wpAny_bind (wpAny_pure (wpAny_bind (wpAny_bind (wpAny_loadPart I.at_ (wpAny_bind ((looks_clsIn X hcd).at ?_))))))
  rw [hdd]
  refine wpAny_pure (a := some d) (wpAny_bind (wpAny_pure (wpAny_bind ?_)))
  unfold nsSet
  refine wpAny_bind (wpAny_bind (wpAny_askSetting (wpAny_pure (wpAny_bind (wpAny_mkText (wpAny_bind (wpAny_loadPart hd ?_)))))))
  dsimp only
  have c0 : (!es.toArray.any (·.key.isStr name) && es.toArray.any (·.refKey)) = false := by
    rw [List.any_toArray, List.any_toArray, hr, Bool.and_false]
  rw [aRefKeyMayBeTheName_at, c0]
  refine wpAny_updatePart hd ?_
  refine wpAny_bind (wpAny_lookBehind go (pastItsLine_dict (by rw [List.size_toArray, sizeLine_eq]; have := putL_length name (PyData.keyHash w.params name) (.str name (s.toks + 1)) v es; omega)) ?_)
  exact wpAny_pure h
theorem exc_set_new {name : Str} {v : Value} {Q : Unit → Shared → Prop} {E : Value → Shared → Prop} (X : K.In s.heap)
    (ht : s.heap.get? t = some (excO C none vs sl)) (F : ExcF K C) (ha : findIn K (.ref C) name = some none)
    (h : ∀ h', h'.get? t = some (excO C (some s.heap.objs.size) vs sl) → h'.get? s.heap.objs.size = some (dictOf [⟨PyData.keyHash w.params name, .str name (s.toks + 1), v⟩] 1) → h'.objs.size = s.heap.objs.size + 1 → (∀ b o, b ≠ t → s.heap.get? b = some o → h'.get? b = some o) → Q () { s with heap := h', toks := s.toks + 2 }) : wpAny (model prog w) A (setAttr (.ref t) name v) Q E s := by
  have I : InstAt s.heap t (excO C none vs sl) C none := ⟨ht, rfl, rfl, trivial⟩
  refine set_plain X I F.set ?_
  refine exc_osa (s := { s with toks := s.toks + 1 }) X I F ha fun b => ?_
  obtain ⟨cd, hcd, hdd⟩ := any_some F.hd
  refine wpAny_bind (wpAny_pure (wpAny_bind (wpAny_bind (wpAny_loadPart I.at_ (wpAny_bind ((looks_clsIn X hcd).at ?_))))))
  rw [hdd]
  have tn : t ≠ s.heap.objs.size := Nat.ne_of_lt (Heap.lt_size ht)
  have ht1 := Heap.get?_push_of_some (h := s.heap) { cls := .type "dict", data := .dict #[] } ht
  have g2 : ((s.heap.push { cls := .type "dict", data := .dict #[] }).update t (fun o => { o with dict := some s.heap.objs.size })).get? t = some (excO C (some s.heap.objs.size) vs sl) := Heap.get?_update_self _ ht1 rfl
  have g1 : ((s.heap.push { cls := .type "dict", data := .dict #[] }).update t (fun o => { o with dict := some s.heap.objs.size })).get? s.heap.objs.size = some (dictOf [] 0) := (Heap.get?_update_other _ _ tn).trans (Heap.get?_push_size _ rfl)
  have z1 : ((s.heap.push { cls := .type "dict", data := .dict #[] }).update t (fun o => { o with dict := some s.heap.objs.size })).objs.size = s.heap.objs.size + 1 := by
    rw [Heap.size_update, Heap.size_push]
  have k1 : ∀ b o, b ≠ t → s.heap.get? b = some o → ((s.heap.push { cls := .type "dict", data := .dict #[] }).update t (fun o => { o with dict := some s.heap.objs.size })).get? b = some o := fun b o nb e => (Heap.get?_update_other _ _ (Ne.symm nb)).trans (Heap.get?_push_of_some _ e)
  refine wpAny_bind (wpAny_alloc (wpAny_bind (wpAny_update ht1 ?_)))
  dsimp only
  generalize (s.heap.push { cls := .type "dict", data := .dict #[] }).update t (fun o => { o with dict := some s.heap.objs.size }) = h1 at g1 g2 z1 k1 ⊢
  refine wpAny_pure (a := some s.heap.objs.size) (wpAny_bind (wpAny_pure (wpAny_bind ?_)))
  unfold nsSet
  refine wpAny_bind (wpAny_bind (wpAny_askSetting (wpAny_pure (wpAny_bind (wpAny_mkText (wpAny_bind (wpAny_loadPart (s := { s with heap := h1, toks := s.toks + 1 + 1 }) g1 ?_)))))))
  dsimp only
  have c0 : aRefKeyMayBeTheName name ([] : List DictEntry).toArray = false := by rfl
  rw [c0]
  have e1 := putName_dict name (PyData.keyHash w.params name) (.str name (s.toks + 1)) v [] 0
  have go : (h1.update s.heap.objs.size (Obj.putName name (PyData.keyHash w.params name) (.str name (s.toks + 1)) v)).get? s.heap.objs.size = some (dictOf [⟨PyData.keyHash w.params name, .str name (s.toks + 1), v⟩] 1) := by
    have := Heap.get?_update_self (Obj.putName name (PyData.keyHash w.params name) (.str name (s.toks + 1)) v) g1 (by rw [e1]; rfl)
    rw [e1] at this
    exact this
  refine wpAny_updatePart g1 ?_
  refine wpAny_bind (wpAny_lookBehind go (pastItsLine_dict (by rw [List.size_toArray, sizeLine_eq]; simp)) ?_)
  refine wpAny_pure (h _ ?_ go ?_ ?_)
  · exact (Heap.get?_update_other _ _ (Ne.symm tn)).trans g2
  · rw [Heap.size_update, z1]
  · exact fun b o nb e => (Heap.get?_update_other _ _ (Nat.ne_of_gt (Heap.lt_size e))).trans (k1 b o nb e)
theorem exc_get {es : List DictEntry} {n : Nat} {name : Str} {v : Value} {expr : Bool} {Q : Value → Shared → Prop} {E : Value → Shared → Prop} (X : K.In s.heap)
    (ht : s.heap.get? t = some (excO C (some d) vs sl)) (hd : s.heap.get? d = some (dictOf es n)) (F : ExcF K C) (ha : findIn K (.ref C) name = some none) (hl : lookIn name (dictOf es n) = some (some v)) (hh : handedIn v = true)
    (h : Q v { s with toks := s.toks + 1 }) : wpAny (model prog w) A (getAttr (.ref t) name expr) Q E s := by
  have I : InstAt s.heap t (excO C (some d) vs sl) C (some (dictOf es n)) := ⟨ht, rfl, rfl, hd⟩
  obtain ⟨hp, g, dd, tk, os⟩ := s
  have L0 := I.type (M := model prog w)
  have L1 := looks_findIn (M := model prog w) X F.get
  have L2 := looks_findIn (M := model prog w) X F.gattr
  unfold getAttr getAttrBy
  refine wpAny_bind (wpAny_mkText (wpAny_holding (wpAny_bind (L0.at (wpAny_bind (L1.at ?_))))))
  show wpAny _ _ (getAttrByItsOwn _ _ _ _ _ _) _ _ _
  unfold getAttrByItsOwn
  refine wpAny_bind ((show Looks (model prog w) _ (hookBefore (.ref C)) none from L2).at ?_)
  refine wpAny_bind (wpAny_attempt (wpAny_holding ?_))
  have FB := PySem.F.attrBase_Exception
  have hb : callGetattribute (.ref t) (.str name tk) (.builtin "BaseException.__getattribute__") expr = boundAndCalled (.builtin "BaseException.__getattribute__") (.ref t) (.str name tk) := by
    unfold callGetattribute
    rw [show (expr && onTheHeap (Value.builtin "BaseException.__getattribute__")) = false by cases expr <;> rfl]
    rfl
  show wpAny _ _ (callGetattribute (.ref t) (.str name tk) (.builtin "BaseException.__getattribute__") expr) _ _ _
  rw [hb]
  unfold boundAndCalled
  rw [FB.ga.bind]
  refine wpAny_bind (wpAny_pure (wpAny_call ?_))
  have LS : Looks (model prog w) hp (isInstance (.ref t) (.type "BaseException")) true := L0.andThen (F.sub X (.inr (.inl rfl)))
  have hk : builtinKind "BaseException.__getattribute__" = some .slot := by decide +kernel
  have hsplit : splitId "BaseException.__getattribute__" = some ("BaseException", "__getattribute__") := by decide +kernel
  refine codeAny_call_builtin FB.ga.plain PySem.F.entry_bexc_ga (@check_slot (model prog w) _ _ _ "BaseException.__getattribute__" "BaseException" "__getattribute__" (.ref t) [.str name tk] [] _ hk hsplit LS (PySem.F.args_bexc_ga (.ref t) (.str name tk)) ?_)
  have hf : findObj K C (some (dictOf es n)) name = some (.value v) := findObj_own F.hd ha rfl hl
  have Lf := looks_find (M := model prog w) X I hf
  unfold Builtin.«object.__getattribute__»
  refine wpAny_bind (wpAny_pure (wpAny_bind (wpAny_pure (wpAny_bind (L0.at (wpAny_bind (Lf.at ?_)))))))
  refine wpAny_pure ?_
  show wpAny _ _ (handedOut v) _ _ _
  rw [handedOut_of hh]; exact wpAny_pure h
end
end Mine
end

section
open PySem PySem.W PyProof.Rows PySem.Calls
set_option Elab.async false
set_option linter.unusedVariables false
set_option maxRecDepth 100000
namespace Mine
section
variable {prog : Program} {w : World} {A : Around} {h : Heap} {g : Array GenState} {d : Drawn} {t : Nat} {os : OsState}
variable {nm q : Str} {C N : Addr} {bs bm bmB : List Value} {hdct : Bool} {sn : List Str} {sub : List Value} {col : Option Bool} {dd : Option Addr} {k0 k1 k2 k3 k5 : Option Value} {B newId initId : String}
noncomputable abbrev excNew (C a : Addr) : Obj := { cls := .ref C, data := .fields #[.ref a, .none, .none, .none, .bool false, .none] }
theorem exc_check_new {M : Model} {E : Value → Shared → Prop} (F : ExcBaseFacts B newId initId bmB) (hb : bm.contains (.type B) = true) {rest : List Value} {Q : Unit → Shared → Prop} (hC : h.get? C = some (excClassObj nm q C N bs bm hdct sn sub false col dd k0 k1 k2 k3 k5 newId))
    (hq : Q () ⟨h, g, d, t, os⟩) : wpAny M A (checkBuiltinCall newId ⟨.ref C :: rest, []⟩) Q E ⟨h, g, d, t, os⟩ := by
  have hcont : (Value.ref C :: bm).contains (.type B) = true := by rw [List.contains_cons, hb, Bool.or_true]
  have hstar := F.noStar
  simp only [checkBuiltinCall, F.newKind, F.newSplit, F.newRow]
  repeat (first | refine wpAny_loadPart_at hC ?_ | (refine wpAny_isSubtype_exc hC ?_; rw [hcont]) | refine wpAny_staticBase_exc hC ?_ | refine wpAny_madeBy_exc hC ?_ | simp only [bne_self_eq_false, Bool.false_eq_true, if_false] | wp_step)
  exact hq
theorem exc_new {R : Result → Shared → Prop} (F : ExcBaseFacts B newId initId bmB) (hb : bm.contains (.type B) = true) (hA : bm.contains (.type "AttributeError") = false) (hN : bm.contains (.type "NameError") = false) {rest : List Value} (hC : h.get? C = some (excClassObj nm q C N bs bm hdct sn sub false col dd k0 k1 k2 k3 k5 newId))
    (hq : R (.ok (.ret (.ref (h.objs.size + 1)))) ⟨(h.push { cls := .type "tuple", data := .seq rest.toArray }).push (excNew C h.objs.size), g, d, t, os⟩) (hrest : rest.length ≤ sizeLine) :
    codeAny (model prog w) A (.builtin newId ⟨.ref C :: rest, []⟩) R ⟨h, g, d, t, os⟩ := by
  have hends := F.ends
  have hcB : (Value.ref C :: bm).contains (.type B) = true := by rw [List.contains_cons, hb, Bool.or_true]
  have hcA : (Value.ref C :: bm).contains (.type "AttributeError") = false := by rw [List.contains_cons, hA]; rfl
  have hcN : (Value.ref C :: bm).contains (.type "NameError") = false := by rw [List.contains_cons, hN]; rfl
  refine codeAny_builtinAt F.entry ?_
  unfold Builtin.«BaseException.__new__»
  refine PySem.wpAt_bind ?_
  show PySem.wpAt _ _ _ (stack >>= _) _ _ _
  refine PySem.wpAt_bind (PySem.wpAt_stack fun p below => PySem.wpAt_of_wpAny ?_)
  wp_walk
  refine PySem.wpAt_of_wpAny ?_
  rw [F.owner]
  repeat (first | with_reducible refine wpAny_madeHere_exc F.canon hC ?_ | with_reducible refine wpAny_loadPart_at hC ?_ | (with_reducible refine wpAny_isSubtype_exc hC ?_; first | rw [hcB] | rw [hcA] | rw [hcN]) | wp_step)
  show R _ _
  rw [Heap.size_push]
  exact hq
theorem exc_make {R : Result → Shared → Prop} {init : Value} (F : ExcBaseFacts B newId initId bmB) (hb : bm.contains (.type B) = true) (hA : bm.contains (.type "AttributeError") = false) (hN : bm.contains (.type "NameError") = false) {rest : List Value} (hC : h.get? C = some (excClassObj nm q C N bs bm hdct sn sub false col dd k0 k1 k2 k3 k5 newId))
    (hi : Looks (model prog w) h (typeLookup (.ref C) "__init__") (some init)) (hbi : ∀ self, Looks (model prog w) h (bindSpecial init self) (init, [self])) (hrest : rest.length ≤ sizeLine)
    (hq : codeAny (model prog w) (A.under (.builtin "type.__call__" ⟨.ref C :: rest, []⟩)) (.call init ⟨.ref (h.objs.size + 1) :: rest, []⟩) (InitBack (h.objs.size + 1) R) ⟨(h.push { cls := .type "tuple", data := .seq rest.toArray }).push (excNew C h.objs.size), g, d, t, os⟩) :
    codeAny (model prog w) A (.call (.ref C) ⟨rest, []⟩) R ⟨h, g, d, t, os⟩ := by
  have f1 := tc_lookup
  have f2 := tc_bind (.ref C)
  have hT : (⟨h, g, d, t, os⟩ : Shared).TypeIs (.ref C) "type" := ⟨_, hC, rfl⟩
  refine codeAny_of_tree ?_
  show wpAny _ _ (callAny (.ref C) _) _ _ _
  repeat (any_goals (first | assumption | with_reducible refine wpAny_loadPart_at hC ?_ | wp_step))
  refine ⟨rfl, ?_⟩
  refine codeAny_call_builtin_at (Code.quiet_builtin _ (by decide +kernel)) entry_typeCall (wpAny_check_type_call_sub hC ?_)
  repeat (first | with_reducible refine wpAny_loadPart_at hC ?_ | with_reducible refine wpAny_madeBy_exc hC ?_ | wp_step)
  refine codeAny_call_builtin_code (Code.quiet_builtin _ F.quiet) (exc_check_new F hb hC ?_)
  refine exc_new F hb hA hN hC ?_ hrest
  show wpAny _ _ _ _ _ _
  have k : ∀ b o, h.get? b = some o → ((h.push { cls := .type "tuple", data := .seq rest.toArray }).push (excNew C h.objs.size)).get? b = some o := fun b o e => Heap.get?_push_of_some _ (Heap.get?_push_of_some _ e)
  have hC₁ := k _ _ hC
  have hx : ((h.push { cls := .type "tuple", data := .seq rest.toArray }).push (excNew C h.objs.size)).get? (h.objs.size + 1) = some { cls := .ref C, data := .fields #[.ref h.objs.size, .none, .none, .none, .bool false, .none] } := by heap_get
  have hcC : (Value.ref C :: bm).contains (.ref C) = true := by simp
  have i1 := hi.keeps k
  have b1 := (hbi (.ref (h.objs.size + 1))).keeps k
  unfold isInstance
  repeat (first | with_reducible refine wpAny_loadPart_at hx ?_ | wp_step)
  refine (wpAny_isSubtype_exc (base := .ref C) hC₁ ?_ : wpAny _ _ (isSubtype (.ref C) (.ref C)) _ _ _)
  rw [hcC]
  repeat wp_step
  show wpAny _ _ (typeLookup (.ref C) _) _ _ _
  refine i1.at ?_
  refine wpAny_holding (wpAny_bind (b1.at ?_))
  refine wpAny_bind (wpAny_call ?_)
  refine codeAny_mono hq fun r s' z => ?_
  rcases r with e | (v | _ | _ | _) <;> first | exact z | exact z.elim | skip
  obtain ⟨rfl, z⟩ := z
  exact wpAny_pure (wpAny_pure z)
end
end Mine
end

section
open PySem PySem.W PyProof.Rows PySem.Calls
set_option Elab.async false
set_option linter.unusedVariables false
set_option maxRecDepth 100000
namespace Mine
noncomputable def NonFl (o : Obj) : Prop := ∀ vs, o.data ≠ .fields vs
noncomputable def tbAt (h : Heap) (t : Addr) : Prop := ∃ o ts v, h.get? t = some o ∧ o.cls = .type "traceback" ∧ o.data = .fields ts ∧ ts[3]? = some v
structure NoteH (S : List Addr) (e : Addr) (T : Option Addr) (h h' : Heap) (T' : Option Addr) : Prop where
  size : h.objs.size ≤ h'.objs.size
  keep : ∀ b o, b ∉ S → b ≠ e → T ≠ some b → h.get? b = some o → h'.get? b = some o
  slots : ∀ b o, h.get? b = some o → NonFl o → ∃ sl, h'.get? b = some { o with slots := sl }
  exc : ∀ oe vs, h.get? e = some oe → oe.data = .fields vs → vs.size = 6 → vs[1]? = some (refO T) → ∃ vs', h'.get? e = some { oe with data := .fields vs' } ∧ vs'.size = 6 ∧ vs'[1]? = some (refO T') ∧ ∀ i, i ≠ 1 → vs'[i]? = vs[i]?
  now : ∀ t, T' = some t → tbAt h' t ∧ (T = some t ∨ h.objs.size ≤ t)
  old : ∀ t, T = some t → tbAt h' t
theorem NoteH.refl {S : List Addr} {e : Addr} {T : Option Addr} {h : Heap} (ht : ∀ t, T = some t → tbAt h t) : NoteH S e T h h T :=
  ⟨Nat.le_refl _, fun _ _ _ _ _ z => z, fun b o z _ => ⟨o.slots, z⟩, fun oe vs h1 h2 h3 h4 => ⟨vs, by rw [h1]; obtain ⟨c, d, dt, sl⟩ := oe; cases h2; rfl, h3, h4, fun _ _ => rfl⟩, fun t z => ⟨ht t z, .inl z⟩, ht⟩
section
variable {M : Model} {A : Around} {E : Value → Shared → Prop} {s : Shared}
theorem refO_ne {t : Addr} : (refO (some t) != Value.none) = true := by simp [refO]
theorem update_fields {h : Heap} {a : Addr} {o : Obj} {vs : Array Value} (ho : h.get? a = some o) (hd : o.data = .fields vs) (i : Nat) (v : Value) :
    (h.update a (Obj.mapFields (·.setIfInBounds i v))).get? a = some { o with data := .fields (vs.setIfInBounds i v) } := by
  have h1 := Obj.data_mapFields hd (·.setIfInBounds i v)
  have h2 := Heap.get?_update_self (Obj.mapFields (·.setIfInBounds i v)) ho (Obj.isFreed_of_fields h1)
  rw [h2]
  refine absG fun G₀ hG₀ => ?_
  obtain ⟨c, d, dt, sl⟩ := o
  refine hG₀ ?_
  cases hd
  rfl
theorem setFlight_raw {e : Addr} {T : Option Addr} {fr : Option Addr} {oe : Obj} {vs : Array Value} {S : List Addr} {Q : Unit → Shared → Prop} (he : s.heap.get? e = some oe) (hd : oe.data = .fields vs) (h1 : vs[1]? = some (refO T)) (ht : ∀ t, T = some t → t ≠ e ∧ tbAt s.heap t)
    (h : ∀ h', NoteH S e T s.heap h' T → Q () { s with heap := h' }) : wpAny M A (setFlight (.ref e) fr) Q E s := by
  unfold setFlight
  refine wpAny_bind (wpAny_field he hd h1 ?_)
  cases T with
  | none =>
    rw [if_neg (by decide)]
    exact wpAny_pure (h _ (.refl fun t z => by cases z))
  | some t =>
    rw [if_pos refO_ne]
    refine absG fun G₀ hG₀ => ?_
    obtain ⟨nte, oT, ts, v, hT, hc, hdT, h3⟩ := ht t rfl
    refine hG₀ ?_
    have hz : 3 < ts.size := (Array.getElem?_eq_some_iff.mp h3).1
    refine wpAny_setField hT hdT hz (h _ ?_)
    have g1 := update_fields hT hdT 3 (fr.elim Value.none fun f => rawInt f)
    have g2 : ∀ b, b ≠ t → (s.heap.update t (Obj.mapFields (·.setIfInBounds 3 (fr.elim Value.none fun f => rawInt f)))).get? b = s.heap.get? b := fun b q => Heap.get?_update_other _ _ (Ne.symm q)
    have tb : tbAt (s.heap.update t (Obj.mapFields (·.setIfInBounds 3 (fr.elim Value.none fun f => rawInt f)))) t := ⟨_, _, fr.elim Value.none fun f => rawInt f, g1, hc, rfl, by simp [hz]⟩
    refine ⟨by rw [Heap.size_update]; exact Nat.le_refl _, fun b o _ _ n z => (g2 b fun q => n (by rw [q])).trans z, fun b o z nf => ⟨o.slots, (g2 b fun q => ?_).trans z⟩, fun oe' vs' z1 z2 z3 z4 => ?_, fun t' z => ?_, fun t' z => ?_⟩
    · subst q; rw [hT] at z; cases z; exact nf ts hdT
    · rw [he] at z1; cases z1
      rw [hd] at z2; cases z2
      refine ⟨vs, (g2 e (Ne.symm nte)).trans ?_, z3, z4, fun _ _ => rfl⟩
      rw [he]; obtain ⟨c, d, dt, sl⟩ := oe; cases hd; rfl
    · cases z; exact ⟨tb, .inl rfl⟩
    · cases z; exact tb
noncomputable def emptyH : Heap := { objs := #[] }
theorem emptyH_none (b : Addr) : emptyH.get? b = none := by
  cases q : emptyH.get? b with
  | none => rfl
  | some o => exact absurd (Heap.lt_size q) (Nat.not_lt_zero _)
theorem noteFrame_raw {e L : Addr} {T : Option Addr} {oe : Obj} {vs : Array Value} {env : Env} {outer : List Env} {Q : Unit → Shared → Prop} (hfr : A.frames = some (env :: outer)) (hl : s.heap.FunFrames emptyH (env :: outer)) (hf : env.frame = some L)
    (he : s.heap.get? e = some oe) (hd : oe.data = .fields vs) (hz : vs.size = 6) (h1 : vs[1]? = some (refO T)) (ht : ∀ t, T = some t → t ≠ e ∧ tbAt s.heap t)
    (h : ∀ h' T', NoteH ((env :: outer).filterMap (·.frame)) e T s.heap h' (some T') → Q () { s with heap := h' }) : wpAny M A (noteFrame (.ref e) env) Q E s := by
  have hene : ∀ {hh : Heap} {b : Addr} {o : Obj} {us : Array Value}, hh.FunFrames emptyH (env :: outer) → hh.get? b = some o → o.data = .fields us → b ∉ (env :: outer).filterMap (·.frame) := fun hl ho hd hm => by
    refine absG fun G₀ hG₀ => ?_
    obtain ⟨_, o', ho', hnf⟩ := hl.mem hm
    refine hG₀ ?_
    rw [ho] at ho'; cases ho'; exact hnf _ hd
  -- the new entry
  have entry : ∀ (head : Value) (hadNext : Bool) (h0 : Heap), NoteH ((env :: outer).filterMap (·.frame)) e T s.heap h0 T → h0.FunFrames emptyH (env :: outer) →
      wpAny M A (do let a ← frameOf env; let pl ← entryPlaceOf L hadNext; let b ← EntryCells.newEntry head a .none (rawInt L) .none pl; setField (.ref e) 1 b) Q E { s with heap := h0 } := by
    intro head hadNext h0 N hl0
    refine absG fun G₀ hG₀ => ?_
    obtain ⟨vs0, he0, hz0, h10, hr0⟩ := N.exc oe vs he hd hz h1
    refine hG₀ ?_
    have hene0 := hene hl0 he0 rfl
    refine wpAny_bind (wpAny_frameOf_fun (s := { s with heap := h0 }) hfr hl0 hf fun h₁ hs₁ => ?_)
    have he₁ : h₁.get? e = some { oe with data := .fields vs0 } := (hs₁.2.1 e hene0).trans he0
    refine wpAny_bind (wpAny_entryPlaceOf fun pl hpl => ?_)
    unfold EntryCells.newEntry newFields
    refine wpAny_bind (wpAny_newObj_type ?_ (hpl.sizeOk5 _ _ _ _ _))
    have tsz : (([head, .ref L, .none, rawInt L, .none] ++ (if pl.isEmpty then List.replicate 6 Value.none else pl)).toArray)[3]? = some (rawInt L) := by simp
    generalize hp : ({ cls := .type "traceback", dict := none, data := .fields ([head, .ref L, .none, rawInt L, .none] ++ (if pl.isEmpty then List.replicate 6 Value.none else pl)).toArray } : Obj) = ob
    have he₂ := Heap.get?_push_of_some (h := h₁) ob he₁
    have hzs : vs0.size = 6 := hz0
    have g1 := update_fields he₂ rfl 1 (Value.ref h₁.objs.size)
    have g2 : ∀ b, b ≠ e → ((h₁.push ob).update e (Obj.mapFields (·.setIfInBounds 1 (Value.ref h₁.objs.size)))).get? b = (h₁.push ob).get? b := fun b q => Heap.get?_update_other _ _ (Ne.symm q)
    have hTe : h₁.objs.size ≠ e := Nat.ne_of_gt (Heap.lt_size he₁)
    have nfo : ob.isFreed = false := by rw [← hp]; rfl
    have hT₃ := (g2 _ hTe).trans (Heap.get?_push_size h₁ nfo)
    refine wpAny_setField (s := { s with heap := h₁.push ob }) he₂ rfl (by rw [hz0]; decide) (h _ h₁.objs.size ?_)
    have fld : ∀ b o us, s.heap.get? b = some o → o.data = .fields us → ∃ o' us', h0.get? b = some o' ∧ o'.data = .fields us' → True := fun _ _ us _ _ => ⟨default, us, fun _ => trivial⟩
    refine ⟨?_, fun b o n1 n2 n3 z => ?_, fun b o z nf => ?_, fun oe' vs' z1 z2 z3 z4 => ?_, fun t z => ?_, fun t z => ?_⟩
    · rw [Heap.size_update, Heap.size_push, hs₁.1]; exact Nat.le_succ_of_le N.size
    · rw [g2 b n2]
      exact Heap.get?_push_of_some _ ((hs₁.2.1 b n1).trans (N.keep b o n1 n2 n3 z))
    · obtain ⟨sl0, z0⟩ := N.slots b o z nf
      obtain ⟨sl, z'⟩ := hs₁.2.2 b _ z0
      have nb : b ≠ e := fun q => by subst q; rw [he] at z; cases z; exact nf vs hd
      exact ⟨sl, by rw [g2 b nb]; exact Heap.get?_push_of_some _ z'⟩
    · rw [he] at z1; cases z1
      rw [hd] at z2; cases z2
      refine ⟨vs0.setIfInBounds 1 (.ref h₁.objs.size), g1, by simp [hz0], by simp [hz0, refO], fun i hi => ?_⟩
      rw [Array.getElem?_setIfInBounds_ne (Ne.symm hi)]; exact hr0 i hi
    · cases z
      exact ⟨⟨_, _, _, hT₃, by rw [← hp], by rw [← hp], tsz⟩, .inr (by rw [hs₁.1]; exact N.size)⟩
    · refine absG fun G₀ hG₀ => ?_
      obtain ⟨o, ts, v, w1, w2, w3, w4⟩ := N.old t z
      refine hG₀ ?_
      have nt : t ≠ e := (ht t z).1
      exact ⟨o, ts, v, by rw [g2 t nt]; exact Heap.get?_push_of_some _ ((hs₁.2.1 t (hene hl0 w1 w3)).trans w1), w2, w3, w4⟩
  unfold noteFrame
  simp only [hf]
  refine wpAny_bind (wpAny_field he hd h1 ?_)
  cases T with
  | none =>
    rw [if_neg (by decide)]
    exact entry _ _ s.heap (.refl fun t z => by cases z) hl
  | some t =>
    rw [if_pos refO_ne]
    refine absG fun G₀ hG₀ => ?_
    obtain ⟨nte, oT, ts, v, hT, hc, hdT, h3⟩ := ht t rfl
    refine hG₀ ?_
    have hz3 : 3 < ts.size := (Array.getElem?_eq_some_iff.mp h3).1
    refine wpAny_bind (wpAny_field hT hdT h3 ?_)
    by_cases q : (v == rawInt L) = true
    · rw [if_pos q]
      exact wpAny_pure (h s.heap t (.refl fun t' z => by cases z; exact ⟨oT, ts, v, hT, hc, hdT, h3⟩))
    · rw [if_neg q]
      refine wpAny_bind (wpAny_setField hT hdT hz3 ?_)
      have g1 := update_fields hT hdT 3 Value.none
      have g2 : ∀ b, b ≠ t → (s.heap.update t (Obj.mapFields (·.setIfInBounds 3 Value.none))).get? b = s.heap.get? b := fun b q => Heap.get?_update_other _ _ (Ne.symm q)
      have nr : ∀ b o, s.heap.get? b = some o → NonFl o → b ≠ t := fun b o z nf q => by subst q; rw [hT] at z; cases z; exact nf ts hdT
      have tb : tbAt (s.heap.update t (Obj.mapFields (·.setIfInBounds 3 Value.none))) t := ⟨_, _, Value.none, g1, hc, rfl, by simp [hz3]⟩
      refine entry _ _ _ ⟨by rw [Heap.size_update]; exact Nat.le_refl _, fun b o _ _ n z => (g2 b fun q => n (by rw [q])).trans z, fun b o z nf => ⟨o.slots, (g2 b (nr b o z nf)).trans z⟩, fun oe' vs' z1 z2 z3 z4 => ?_, fun t' z => ?_, fun t' z => ?_⟩ (hl.of_keeps fun b o z nf => ⟨o, (g2 b (nr b o z nf)).trans z, rfl⟩)
      · rw [he] at z1; cases z1
        rw [hd] at z2; cases z2
        refine ⟨vs, (g2 e (Ne.symm nte)).trans ?_, z3, z4, fun _ _ => rfl⟩
        rw [he]; obtain ⟨c, d, dt, sl⟩ := oe; cases hd; rfl
      · cases z; exact ⟨tb, .inl rfl⟩
      · cases z; exact tb
end
end Mine
end

section
open PySem PySem.W PyProof.Rows PySem.Calls
set_option Elab.async false
set_option linter.unusedVariables false
set_option maxRecDepth 100000
namespace Mine
section
variable {KF : Params → Frag} {g : Gd KF} {ρ : Loc} {H : AH} {X : XH}
theorem Rep.frames {cx : Cx} {h : Heap} (R : Rep g cx h ρ H X) {l : List Env} (hl : cx.A.frames = some l) : ∀ M, M ∈ l.filterMap (·.frame) → g.hb.objs.size ≤ M ∧ H M = none ∧ (∃ o, h.get? M = some o ∧ NonF o) ∧ (M = cx.env.locals ∨ ∃ o, X M = some (.loose o)) := fun M hM => by
  obtain ⟨l', h1, _, h2, _⟩ := R.f.stk
  rw [hl] at h1; cases h1
  obtain ⟨e, he, hf⟩ := List.mem_filterMap.mp hM
  obtain ⟨_, M', k2, k3, k4⟩ := h2 e he
  rw [hf] at k2; cases k2
  rcases k4 with rfl | ⟨o, k4⟩
  · obtain ⟨m, hm, _⟩ := R.f.ns
    exact ⟨k3, R.f.nL.2.1, Ns.nonF hm, .inl rfl⟩
  · have z := R.o.ext M _ k4
    obtain ⟨⟨nf, sl, e⟩, z2, z3⟩ := z
    obtain ⟨es, ep, nf⟩ := nf
    exact ⟨k3, z2, ⟨_, e, es, ep, nf⟩, .inr ⟨o, k4⟩⟩
theorem Rep.funFrames {cx : Cx} {h : Heap} (R : Rep g cx h ρ H X) {l : List Env} (hl : cx.A.frames = some l) : h.FunFrames emptyH l := by
  obtain ⟨l', h1, _, h2, _⟩ := R.f.stk
  rw [hl] at h1; cases h1
  have fr := R.frames hl
  have key : ∀ l : List Env, (∀ e ∈ l, FrmOk g.hb.objs.size cx.env.locals X e) → (∀ M, M ∈ l.filterMap (·.frame) → ∃ o, h.get? M = some o ∧ NonF o) → h.FunFrames emptyH l := by
    intro l
    induction l with
    | nil => intros; trivial
    | cons e r ih =>
      intro h2 fr
      obtain ⟨k1, M, k2, _⟩ := h2 e (List.mem_cons_self ..)
      obtain ⟨o, ho, es, ep, hd⟩ := fr M (List.mem_filterMap.mpr ⟨e, List.mem_cons_self .., k2⟩)
      exact ⟨k1, ⟨M, o, k2, emptyH_none M, ho, fun vs q => by rw [hd] at q; cases q⟩, ih (fun e' he' => h2 e' (List.mem_cons_of_mem _ he')) fun M' hM' => fr M' (by
        obtain ⟨e', he', hf'⟩ := List.mem_filterMap.mp hM'
        exact List.mem_filterMap.mpr ⟨e', List.mem_cons_of_mem _ he', hf'⟩)⟩
  exact key _ h2 fun M hM => (fr M hM).2.2.1
theorem NonF.fl {o : Obj} (z : NonF o) : NonFl o := fun vs q => by obtain ⟨es, ep, e⟩ := z; rw [e] at q; cases q
theorem XO.at.slots {h h' : Heap} {a : Addr} (k : ∀ o, h.get? a = some o → NonF o → ∃ sl, h'.get? a = some { o with slots := sl }) : ∀ {o : Obj}, XO.at h a (.loose o) → XO.at h' a (.loose o)
  | o, ⟨⟨es, ep, nf⟩, sl, z⟩ => by
    obtain ⟨sl', z'⟩ := k _ z ⟨es, ep, nf⟩
    exact ⟨⟨es, ep, nf⟩, sl', z'⟩
theorem Ns.slots {h h' : Heap} {L : Addr} {m : Str → Option Value} (x : h.Ns L m) (k : ∀ o, h.get? L = some o → NonF o → ∃ sl, h'.get? L = some { o with slots := sl }) : h'.Ns L m := by
  obtain ⟨o, es, ep, h1, h2, r⟩ := x
  obtain ⟨sl, z⟩ := k o h1 ⟨es, ep, h2⟩
  exact ⟨_, es, ep, z, h2, r⟩
theorem Rep.noteX {cx : Cx} {h h' : Heap} (R : Rep g cx h ρ H X) {l : List Env} (hl : cx.A.frames = some l) {a C d : Addr} {T T' : Option Addr} {ctx : Option Addr} {fs : List (Str × AV)} (hH : H a = some (.exc C d T ctx fs)) (N : NoteH (l.filterMap (·.frame)) a T h h' T') {H2 : AH}
    (hn : ∀ b, H b = none → (∃ ob, h.get? b = some ob) → H2 b = none) (ho : TupKeep h h' → ∀ b o, H2 b = some o → g.hb.objs.size ≤ b ∧ OK g h' H2 b o) : Rep g cx h' ρ H2 X ∧ TupKeep h h' := by
  have fr := R.frames hl
  have hT : ∀ t, T = some t → H t = some .tb := (R.o.obj a _ hH).2.2.2.2
  have kp : TupKeep h h' := fun b o its n z c dd => by
    have nf : NonFl o := fun vs q => by rw [dd] at q; cases q
    refine N.keep b o (fun m => ?_) (fun q => ?_) (fun q => ?_) z
    · obtain ⟨_, _, ⟨o', w1, es, ep, w2⟩, _⟩ := fr b m
      rw [z] at w1; cases w1; rw [dd] at w2; cases w2
    · subst q
      obtain ⟨⟨oe, vs, w1, _, _, w2, _⟩, _⟩ := (R.o.obj _ _ hH).2
      rw [z] at w1; cases w1; rw [dd] at w2; cases w2
    · obtain ⟨oe, vs, v, w1, _, w2, _⟩ := (R.o.obj _ _ (hT b q)).2
      rw [z] at w1; cases w1; rw [dd] at w2; cases w2
  have kn : ∀ b o, H b = none → h.get? b = some o → b ∉ l.filterMap (·.frame) → h'.get? b = some o := fun b o hb z nm =>
    N.keep b o nm (fun q => by subst q; rw [hH] at hb; cases hb) (fun q => by rw [hT b q] at hb; cases hb) z
  have sl : ∀ b, ∀ o, h.get? b = some o → NonF o → ∃ sl, h'.get? b = some { o with slots := sl } := fun b o z nf => N.slots b o z nf.fl
  have cellNo : ∀ {c : Addr} {v : Option Value}, h.IsCell c v → c ∉ l.filterMap (·.frame) := fun ⟨oc, w1, w2⟩ m => by
    obtain ⟨_, _, ⟨o', z1, es, ep, z2⟩, _⟩ := fr _ m
    rw [w1] at z1; cases z1; rw [w2] at z2; cases z2
  refine ⟨⟨⟨fun b o e => ?_, Nat.le_trans R.o.size N.size, ho kp, fun b o e => ?_⟩, ⟨?_, ⟨R.f.nL.1, ?_, R.f.nL.2.2⟩, fun y c e => ?_, R.f.inj, R.f.stk⟩⟩, kp⟩
  · have lt := Heap.lt_size e
    refine N.keep b o (fun m => ?_) (fun q => ?_) (fun q => ?_) (R.o.keep b o e)
    · exact absurd lt (Nat.not_lt.mpr (fr b m).1)
    · subst q; exact absurd lt (Nat.not_lt.mpr (R.o.obj _ _ hH).1)
    · exact absurd lt (Nat.not_lt.mpr (R.o.obj _ _ (hT b q)).1)
  · have z := R.o.ext b o e
    refine ⟨?_, hn b z.2.1 z.1.there, z.2.2⟩
    cases o with
    | exact o =>
      refine kn b o z.2.1 z.1 fun m => ?_
      rcases (fr b m).2.2.2 with rfl | ⟨o', q⟩
      · rw [R.f.nL.2.2] at e; cases e
      · rw [q] at e; cases e
    | loose o => exact XO.at.slots (sl b) z.1
  · obtain ⟨m, h1, h2⟩ := R.f.ns
    refine ⟨m, Ns.slots h1 (sl _), h2.mono kp fun y c v e q => ?_⟩
    exact IsCell.at q fun o z => kn c o (R.f.cl y c e).2.1 z (cellNo q)
  · obtain ⟨m, h1, _⟩ := R.f.ns
    obtain ⟨o, w, _⟩ := Ns.nonF h1
    exact hn _ R.f.nL.2.1 ⟨o, w⟩
  · obtain ⟨h1, h2, h3, h4, v, h5⟩ := R.f.cl y c e
    have h5' := h5
    obtain ⟨oc, w1, _⟩ := h5'
    exact ⟨h1, hn c h2 ⟨oc, w1⟩, h3, h4, v, IsCell.at h5 fun o z => kn c o h2 z (cellNo h5)⟩
theorem Rep.noteO {cx : Cx} {h h' : Heap} (R : Rep g cx h ρ H X) {l : List Env} (hl : cx.A.frames = some l) {a C d : Addr} {T T' : Option Addr} {ctx : Option Addr} {fs : List (Str × AV)} (hH : H a = some (.exc C d T ctx fs)) (N : NoteH (l.filterMap (·.frame)) a T h h' T') (kp : TupKeep h h') :
    ∀ b o, H b = some o → b ≠ a → OK g h' H b o := fun b o hb nb => by
  have fr := R.frames hl
  have hT : ∀ t, T = some t → H t = some .tb := (R.o.obj a _ hH).2.2.2.2
  by_cases q : T = some b
  · have := hT b q
    rw [this] at hb; cases hb
    exact N.old b q
  · refine OK.keep (R.o.obj b o hb).2 kp fun b' ob hb' hn z => ?_
    have hb2 : ∃ o', H b' = some o' := hb'.elim (fun w => ⟨_, w ▸ hb⟩) fun w => ⟨_, w⟩
    refine N.keep b' ob (fun m => ?_) (fun q' => ?_) (fun q' => ?_) z
    · obtain ⟨o', w⟩ := hb2
      rw [(fr b' m).2.1] at w; cases w
    · subst q'
      rcases hb' with rfl | w
      · exact nb rfl
      · rw [hH] at w; cases w
    · rcases hb' with rfl | w
      · exact q q'
      · rw [hT b' q'] at w; cases w
theorem Rep.noteE {cx : Cx} {h h' : Heap} (R : Rep g cx h ρ H X) {l : List Env} (hl : cx.A.frames = some l) {a C d : Addr} {T T' : Option Addr} {ctx : Option Addr} {fs : List (Str × AV)} (hH : H a = some (.exc C d T ctx fs)) (N : NoteH (l.filterMap (·.frame)) a T h h' T') (kp : TupKeep h h') {H2 : AH}
    (h2 : H2 d = some (.own a)) (h3 : ∀ t, T' = some t → H2 t = some .tb) : OK g h' H2 a (.exc C d T' ctx fs) := by
  have fr := R.frames hl
  obtain ⟨ha, ⟨oe, vs, w1, w2, w3, w4, w5, w6, w7⟩, ⟨es, n, v1, v2⟩, v3, v4⟩ := R.o.obj a _ hH
  obtain ⟨vs', u1, u2, u3, u4⟩ := N.exc oe vs w1 w4 w5 w6
  refine ⟨⟨_, vs', u1, w2, w3, rfl, u2, u3, (u4 2 (by decide)).trans w7⟩, ⟨es, n, N.keep d _ (fun m => ?_) (fun q => ?_) (fun q => ?_) v1, v2.mono kp⟩, h2, h3⟩
  · rw [(fr d m).2.1] at v3; cases v3
  · subst q; rw [hH] at v3; cases v3
  · rw [v4 d q] at v3; cases v3
theorem Rep.flight {cx : Cx} {h h' : Heap} (R : Rep g cx h ρ H X) {l : List Env} (hl : cx.A.frames = some l) {a C d : Addr} {T : Option Addr} {ctx : Option Addr} {fs : List (Str × AV)} (hH : H a = some (.exc C d T ctx fs)) (N : NoteH (l.filterMap (·.frame)) a T h h' T) : Rep g cx h' ρ H X ∧ TupKeep h h' := by
  refine R.noteX hl hH N (fun b e _ => e) fun kp b o e => ⟨(R.o.obj b o e).1, ?_⟩
  by_cases q : b = a
  · subst q
    rw [hH] at e; cases e
    exact R.noteE hl hH N kp (R.o.obj _ _ hH).2.2.2.1 (R.o.obj _ _ hH).2.2.2.2
  · exact R.noteO hl hH N kp b o e q
theorem Rep.noted {cx : Cx} {h h' : Heap} (R : Rep g cx h ρ H X) {l : List Env} (hl : cx.A.frames = some l) {a C d t : Addr} {T : Option Addr} {ctx : Option Addr} {fs : List (Str × AV)} (hH : H a = some (.exc C d T ctx fs)) (N : NoteH (l.filterMap (·.frame)) a T h h' (some t)) :
    Rep g cx h' ρ (upd (upd H t .tb) a (.exc C d (some t) ctx fs)) X ∧ TupKeep h h' ∧ (H t = none ∨ H t = some .tb) := by
  obtain ⟨tb, ht⟩ := N.now t rfl
  have hT : ∀ t, T = some t → H t = some .tb := (R.o.obj a _ hH).2.2.2.2
  have Ht : (H t = some .tb) ∨ (H t = none ∧ h.objs.size ≤ t ∧ h.get? t = none) := by
    rcases ht with q | q
    · exact .inl (hT t q)
    · have z : h.get? t = none := Heap.get?_none_of_le q
      refine .inr ⟨?_, q, z⟩
      cases w : H t with
      | none => rfl
      | some o => obtain ⟨ob, w1, _⟩ := R.o.there w; rw [z] at w1; cases w1
  have nta : t ≠ a := fun q => by
    subst q
    rcases Ht with w | w
    · rw [hH] at w; cases w
    · rw [hH] at w; cases w.1
  have hbt : g.hb.objs.size ≤ t := by
    rcases Ht with w | w
    · exact (R.o.obj t _ w).1
    · exact Nat.le_trans R.o.size w.2.1
  have hd : H d = some (.own a) := (R.o.obj _ _ hH).2.2.2.1
  have nda : d ≠ a := fun q => by subst q; rw [hH] at hd; cases hd
  have ndt : d ≠ t := fun q => by subst q; exact Ht.elim (fun w => by rw [hd] at w; cases w) fun w => by have w := w.1; rw [hd] at w; cases w
  suffices z : Rep g cx h' ρ (upd (upd H t .tb) a (.exc C d (some t) ctx fs)) X ∧ TupKeep h h' from ⟨z.1, z.2, Ht.elim .inr fun w => .inl w.1⟩
  refine R.noteX hl hH N (fun b e z => ?_) fun kp b o e => ?_
  · obtain ⟨ob, z⟩ := z
    refine (upd_ne fun q => by subst q; rw [hH] at e; cases e).trans ((upd_ne fun q => ?_).trans e)
    subst q
    rcases Ht with w | w
    · rw [e] at w; cases w
    · rw [z] at w; cases w.2.2
  · by_cases q : b = a
    · subst q
      rw [upd_same] at e; cases e
      refine ⟨(R.o.obj _ _ hH).1, R.noteE hl hH N kp ((upd_ne nda).trans ((upd_ne ndt).trans hd)) fun t' e => ?_⟩
      cases e
      exact (upd_ne nta).trans (upd_same _ _ _)
    · rw [upd_ne q] at e
      by_cases q2 : b = t
      · subst q2
        rw [upd_same] at e; cases e
        exact ⟨hbt, tb⟩
      · rw [upd_ne q2] at e
        refine ⟨(R.o.obj b o e).1, ?_⟩
        have z := R.noteO hl hH N kp b o e q
        have z2 : OK g h' (upd H t .tb) b o := by
          rcases Ht with w | w
          · exact z.upd w rfl rfl
          · exact z.new w.1
        exact z2.upd (o₀ := .exc C d T ctx fs) ((upd_ne (Ne.symm nta)).trans hH) rfl rfl
end
end Mine
end

section
open PySem PySem.W PyProof.Rows PySem.Calls
set_option Elab.async false
set_option linter.unusedVariables false
set_option maxRecDepth 100000
namespace Mine
noncomputable def FlT (T : Option Addr → Prop) (C : Addr) (kx : Option Addr → List (Str × AV) → AH → Prop) (v : AV) (H : AH) : Prop :=
  ∃ a d t ctx fs H₀, v = .ref a ∧ H a = some (.exc C d t ctx fs) ∧ T t ∧ H₀ a = none ∧ Keep H₀ H ∧ kx ctx fs H₀
noncomputable abbrev Fl := FlT fun _ => True
noncomputable def Cl (P : AH → Prop) (v : AV) (H : AH) : Prop := ∃ C kx, Fl C kx v H ∧ ∀ H', Fl C kx v H' → P H'
noncomputable def ClT (P : AH → Prop) (v : AV) (H : AH) : Prop := ∃ C kx, FlT (fun t => t ≠ none) C kx v H ∧ ∀ H', Fl C kx v H' → P H'
theorem FlT.fl {T : Option Addr → Prop} {C : Addr} {kx : Option Addr → List (Str × AV) → AH → Prop} {v : AV} {H : AH} (z : FlT T C kx v H) : Fl C kx v H :=
  let ⟨a, d, t, ctx, fs, H₀, h1, h2, _, r⟩ := z
  ⟨a, d, t, ctx, fs, H₀, h1, h2, trivial, r⟩
theorem ClT.cl {P : AH → Prop} {v : AV} {H : AH} (z : ClT P v H) : Cl P v H := let ⟨C, kx, h1, h2⟩ := z; ⟨C, kx, h1.fl, h2⟩
theorem Cl.mono {P P' : AH → Prop} {v : AV} {H : AH} (z : Cl P v H) (h : ∀ H, P H → P' H) : Cl P' v H := let ⟨C, kx, h1, h2⟩ := z; ⟨C, kx, h1, fun H' w => h _ (h2 H' w)⟩
theorem Cl.of {C : Addr} {kx : Option Addr → List (Str × AV) → AH → Prop} {v : AV} {H : AH} (z : Fl C kx v H) : Cl (Fl C kx v) v H := ⟨C, kx, z, fun _ w => w⟩
theorem Cl.now {P : AH → Prop} {v : AV} {H : AH} (z : Cl P v H) : P H := let ⟨C, kx, h1, h2⟩ := z; h2 _ h1
theorem Cl.again {P : AH → Prop} {v : AV} {H : AH} (z : Cl P v H) : Cl (Cl P v) v H := let ⟨C, kx, h1, h2⟩ := z; ⟨C, kx, h1, fun H' w => ⟨C, kx, w, h2⟩⟩
theorem FlT.noted {T : Option Addr → Prop} {C : Addr} {kx : Option Addr → List (Str × AV) → AH → Prop} {a d t : Addr} {T' ctx : Option Addr} {fs : List (Str × AV)} {H : AH} (hT : ∀ t, T (some t)) (z : Fl C kx (.ref a) H) (hH : H a = some (.exc C d T' ctx fs)) (ht : H t = none ∨ H t = some .tb) :
    FlT T C kx (.ref a) (upd (upd H t .tb) a (.exc C d (some t) ctx fs)) := by
  refine absG fun G₀ hG₀ => ?_
  obtain ⟨a', d', t', ctx', fs', H₀, h1, h2, _, h3, h4, h5⟩ := z
  refine hG₀ ?_
  cases h1
  rw [hH] at h2; cases h2
  refine ⟨a, d, some t, ctx, fs, H₀, rfl, upd_same _ _ _, hT t, h3, fun b o e => ?_, h5⟩
  have nb : b ≠ a := fun q => by subst q; rw [h3] at e; cases e
  refine (upd_ne nb).trans ?_
  have w := h4 b o e
  by_cases q : b = t
  · subst q
    rcases ht with u | u
    · rw [w] at u; cases u
    · rw [w] at u; cases u; exact upd_same _ _ _
  · exact (upd_ne q).trans w
section
variable {KF : Params → Frag} {g : Gd KF} {c : Cx} {ρ : Loc} {H : AH} {X : XH} {k : AF → Loc → AH → Prop} {x : AV → Loc → AH → Prop}
theorem Rep.excAt {h : Heap} {a C d : Addr} {T ctx : Option Addr} {fs : List (Str × AV)} (R : Rep g c h ρ H X) (hH : H a = some (.exc C d T ctx fs)) :
    ∃ oe vs, h.get? a = some oe ∧ oe.data = .fields vs ∧ vs.size = 6 ∧ vs[1]? = some (refO T) ∧ vs[2]? = some (refO ctx) ∧ oe.cls = .ref C ∧ oe.dict = some d ∧ ∀ t, T = some t → t ≠ a ∧ tbAt h t := by
  refine absG fun G₀ hG₀ => ?_
  obtain ⟨_, ⟨oe, vs, w1, w2, w3, w4, w5, w6, w7⟩, _, _, v4⟩ := R.o.obj a _ hH
  refine hG₀ ?_
  exact ⟨oe, vs, w1, w4, w5, w6, w7, w2, w3, fun t q => ⟨fun e => (by subst e; have := v4 _ q; rw [hH] at this; cases this), (R.o.obj t _ (v4 t q)).2⟩⟩
theorem flightL {s : Shared} {e : Value} {v : AV} {fr : Option Addr} {P : AH → Prop} {Q : Unit → Shared → Prop} {E : Value → Shared → Prop} (R : Rep g c s.heap ρ H X) (hv : VR s.heap e v) (f : Cl P v H)
    (h : ∀ s', Step s s' → Rep g c s'.heap ρ H X → Q () s') : wpAny (model g.prog g.w) c.A (setFlight e fr) Q E s := by
  refine absG fun G₀ hG₀ => ?_
  obtain ⟨C, kx, ⟨a, d, t, ctx, fs, H₀, rfl, hH, _⟩, _⟩ := f
  refine hG₀ ?_
  cases hv.refInv
  obtain ⟨l, hl, _⟩ := R.f.stk
  refine absG fun G₀ hG₀ => ?_
  obtain ⟨oe, vs, w1, w2, w3, w4, _, _, _, w5⟩ := R.excAt hH
  refine hG₀ ?_
  refine setFlight_raw (S := l.filterMap (·.frame)) w1 w2 w4 w5 fun h' N => ?_
  obtain ⟨R', kp⟩ := R.flight hl hH N
  exact h _ (Step.heap' s kp) R'
theorem noteL {s : Shared} {e : Value} {v : AV} {P : AH → Prop} {Q : Unit → Shared → Prop} {E : Value → Shared → Prop} (R : Rep g c s.heap ρ H X) (hf : c.env.frame = some c.env.locals) (hv : VR s.heap e v) (f : Cl P v H)
    (h : ∀ s' H', Step s s' → Rep g c s'.heap ρ H' X → VR s'.heap e v → ClT P v H' → Q () s') : wpAny (model g.prog g.w) c.A (noteFrame e c.env) Q E s := by
  refine absG fun G₀ hG₀ => ?_
  obtain ⟨C, kx, z, hP⟩ := f
  refine hG₀ ?_
  have z' := z
  refine absG fun G₀ hG₀ => ?_
  obtain ⟨a, d, t, ctx, fs, H₀, rfl, hH, _⟩ := z
  refine hG₀ ?_
  cases hv.refInv
  refine absG fun G₀ hG₀ => ?_
  obtain ⟨l, hl, hl2, _⟩ := R.f.stk
  refine hG₀ ?_
  obtain ⟨r, rfl⟩ := hl2 hf
  refine absG fun G₀ hG₀ => ?_
  obtain ⟨oe, vs, w1, w2, w3, w4, _, _, _, w5⟩ := R.excAt hH
  refine hG₀ ?_
  refine noteFrame_raw hl (R.funFrames hl) hf w1 w2 w3 w4 w5 fun h' T' N => ?_
  obtain ⟨R', kp, ht⟩ := R.noted hl hH N
  exact h _ _ (Step.heap' s kp) R' (.ref a) ⟨C, kx, FlT.noted (fun _ => Option.some_ne_none _) z' hH ht, hP⟩
theorem leaveL {s : Shared} {e : Value} {v : AV} {P : AH → Prop} {Q : Unit → Shared → Prop} {E : Value → Shared → Prop} (R : Rep g c s.heap ρ H X) (hf : c.env.frame = some c.env.locals) (hv : VR s.heap e v) (f : Cl P v H)
    (h : ∀ s' H', Step s s' → Rep g c s'.heap ρ H' X → VR s'.heap e v → ClT P v H' → Q () s') : wpAny (model g.prog g.w) c.A (leaving c.env e) Q E s := by
  unfold leaving
  refine wpAny_bind (noteL R hf hv f fun s₁ H₁ st₁ R₁ hv₁ f₁ => ?_)
  exact flightL R₁ hv₁ f₁.cl fun s₂ st₂ R₂ => h s₂ H₁ (st₁.trans st₂) R₂ (hv₁.mono st₂.tup) f₁
theorem backL {s : Shared} {e : Value} {v : AV} {P : AH → Prop} {E : Value → Shared → Prop} (R : Rep g c s.heap ρ H X) (hv : VR s.heap e v) (f : ClT P v H)
    (h : ∀ s', Step s s' → Rep g c s'.heap ρ H X → VR s'.heap e v → E e s') : cameBackBy (model g.prog g.w) c.A c.env E e s := by
  have fc := f.cl
  refine absG fun G₀ hG₀ => ?_
  obtain ⟨C, kx, ⟨a, d, t, ctx, fs, H₀, rfl, hH, ht, _⟩, _⟩ := f
  refine hG₀ ?_
  cases hv.refInv
  refine absG fun G₀ hG₀ => ?_
  obtain ⟨oe, vs, w1, w2, w3, w4, _, _, _, w5⟩ := R.excAt hH
  refine hG₀ ?_
  unfold cameBackBy
  refine wpAny_bind (wpAny_field w1 w2 w4 ?_)
  obtain ⟨t, rfl⟩ := Option.ne_none_iff_exists'.mp ht
  rw [if_neg (by simp [refO])]
  exact flightL R (.ref a) fc fun s' st R' => h s' st R' (.ref a)
theorem Cal.enterX {n : Nat} {b : Bool} {f : Addr} {as as' : List AV} {H : AH} {k : AV → AH → Prop} {x : AV → AH → Prop} {name qual : Str} {params : Arguments} {body : List Stmt} {scope : Scope} {dV kV doc pm cdv ct : Value} {an : Option Addr} (xs : List Str)
    (F : FnF g f (fnOf name qual params body scope dV kV doc pm an cdv ct))
    (hbind : ∀ (s : Shared) (vs : List Value), VRs s.heap vs as → g.K.In s.heap → ∃ ws, VRs s.heap ws as' ∧ BindsTo s (fnOf name qual params body scope dV kV doc pm an cdv ct) ⟨vs, []⟩ (xs.zip ws))
    (hn : xs.Nodup) (hloc : ∀ y ∈ xs, scope.names.lookup y = some .local) (hcell : ∀ y ∈ scope.names, y.2 ≠ .cell)
    (h : ∀ (A : Around) (L : Addr), Ok n b A → Exs g ⟨A, envOf qual scope L f cdv⟩ body (locOf xs as') H (fun fl _ H' => k (retOf fl) H') (fun v _ H' => Cl (x v) v H'))
    (hco : scope.isCoroutine = false := by kernel_rfl) (hgen : scope.isGenerator = false := by rfl) (hk : scope.kind = .function := by rfl) : Cal g (n + 1) b f as H k x := by
  intro A s X R vs ok sk hv R0 q e
  refine absG fun G₀ hG₀ => ?_
  obtain ⟨oc, od, osl, ho⟩ := F.ex
  refine hG₀ ?_
  have K := g.X.keeps R0.keep
  obtain ⟨ws, hws, hb⟩ := hbind s vs hv K
  refine codeAny_call_def (fd := fnOf name qual params body scope dV kV doc pm an cdv ct) (body := body) (by have := ok.depth; show A.depth < 1000; omega) (K _ _ ho) rfl (g.T.nolimit.keeps R0.keep) (codeRec_of K F.cd) rfl hb hcell (fun y hy => ?_) (fun h₁ hns hk₁ => ?_) hco hgen hk
  · exact hloc y.1 (List.of_mem_zip (a := y.1) (b := y.2) hy).1
  · have kp : TupKeep s.heap h₁ := .of_keep hk₁
    have zN := zip_keys_nodup hn ws
    have zL : s.heap.objs.size < h₁.objs.size := hns.lt
    have R1 : Rep g ⟨A.deeper (envOf qual scope s.heap.objs.size f cdv), envOf qual scope s.heap.objs.size f cdv⟩ h₁ (locOf xs as') H X := by
      refine ⟨⟨fun b o e => hk₁ b o (R0.keep b o e), Nat.le_trans R0.size (Nat.le_of_lt zL), fun b o e => ⟨(R0.obj b o e).1, (R0.obj b o e).2.keep kp fun b' ob _ _ => hk₁ b' ob⟩, fun b o e => ⟨(R0.ext b o e).1.keep (hk₁ b), (R0.ext b o e).2⟩⟩,
        ⟨⟨_, hns, fun y d e => ?_⟩, ⟨R0.size, R0.fresh, ?_⟩, fun y c e => (nomatch e), fun y y' c e => (nomatch e), ?_⟩⟩
      rotate_left 2
      · exact sk.deeper R0.size hk
      · show ∃ v, _ ∧ _
        obtain ⟨v, h1, h2⟩ := locOf_zip hws e
        exact ⟨v, (lookup_reverse zN y).trans h1, h2.mono kp⟩
      · show X s.heap.objs.size = none
        cases q' : X s.heap.objs.size with
        | none => rfl
        | some o => exact absurd (R0.ext _ o q').1.lt (Nat.lt_irrefl _)
    have ok' : Ok n b (A.deeper (envOf qual scope s.heap.objs.size f cdv)) := ⟨by show A.depth + 1 + 10 * n ≤ 900; have := ok.depth; omega, by show A.units + 3 + 40 * n ≤ 9000; have := ok.units; omega, ok.hand⟩
    have st₁ : Step s { s with heap := h₁, toks := s.toks + (xs.zip ws).length } := Step.heap s kp (Nat.le_of_lt zL)
    refine h (A.deeper (envOf qual scope s.heap.objs.size f cdv)) s.heap.objs.size ok' _ X _ _ R1 (fun fl fl' s' ρ' H' st R' hf hk' => ?_) fun v d s' ρ' H' st R' hv' hx => ?_
    · refine q _ _ _ _ (st₁.trans st) R'.o ?_ hk'
      cases hf <;> first | exact .none | assumption
    · refine leaveL R' rfl hv' hx fun s₂ H₂ st₂ R₂ hv₂ f₂ => ?_
      exact e _ _ _ _ ((st₁.trans st).trans st₂) R₂.o hv₂ f₂.cl.now

noncomputable def LpX {KF : Params → Frag} (g : Gd KF) (c : Cx) (t : Expr) (b : List Stmt) (ρ : Loc) (H : AH) (k : AF → Loc → AH → Prop) (x : AV → Loc → AH → Prop) : Prop :=
  ∀ (s : Shared) (X : XH) (R : Result → Shared → Prop), Rep g c s.heap ρ H X → Qs g c FlR X s k (fun f s' => R (.ok f) s') → Es g c X s (fun v ρ' H' => ClT (x v ρ') v H') (fun e s' => R (.error e) s') →
    codeAny (model g.prog g.w) c.A (.whileLoop t b [] c.env) R s
theorem Ex.whilX {t : Expr} {b : List Stmt} {pos : Pos} (h : LpX g c t b ρ H k x) : Ex g c (.While t b [] pos) ρ H k x := fun s X Q E R q er =>
  wpAny_While (h s X _ R q fun e v s' ρ' H' st R' hv f => backL R' hv f fun s₂ st₂ R₂ hv₂ => er _ _ _ _ _ (st.trans st₂) R₂ hv₂ f.cl.now)
noncomputable def TurnX {KF : Params → Frag} (g : Gd KF) (c : Cx) (t : Expr) (b : List Stmt) (k : AF → Loc → AH → Prop) (x : AV → Loc → AH → Prop) (f : AF) (ρ : Loc) (H : AH) : Prop := match f with
  | .next => LpX g c t b ρ H k x
  | .cont => LpX g c t b ρ H k x
  | .brk => k .next ρ H
  | .ret v => k (.ret v) ρ H
theorem LpX.step {t : Expr} {b : List Stmt} (hf : c.env.frame = some c.env.locals) (h : Ts g c t ρ H (fun v ρ₁ H₁ => if v = true then Exs g c b ρ₁ H₁ (TurnX g c t b k x) (fun v ρ' H' => Cl (x v ρ') v H') else k .next ρ₁ H₁) (fun v ρ' H' => Cl (x v ρ') v H')) : LpX g c t b ρ H k x := by
  intro s X R' R q er
  refine codeAny_of_tree ?_
  show wpAny _ c.A ((whileTurn t b [] c.env).onRaise (fun x => do noteFrame x c.env; theTreesLotGoes x)) _ _ s
  refine wpAny_noted ?_
  have ern : ∀ e v s₁ ρ' H', Step s s₁ → Rep g c s₁.heap ρ' H' X → VR s₁.heap e v → Cl (x v ρ') v H' → notedBy (model g.prog g.w) c.A c.env (fun e s' => R' (.error e) s') e s₁ := fun e v s₁ ρ' H' st R₁ hv f =>
    noteL R₁ hf hv f fun s₂ H₂ st₂ R₂ hv₂ f₂ => er _ _ _ _ _ (st.trans st₂) R₂ hv₂ f₂
  simp only [whileTurn]
  refine wpAny_bind (h s X _ _ R (fun v v' s₁ ρ₁ H₁ st₁ R₁ hv h₁ => ?_) fun e v s₁ ρ' H' st R₁ hv f => ern e v s₁ ρ' H' st R₁ hv f)
  cases hv
  cases v with
  | false =>
    simp only [Bool.false_eq_true, if_false] at h₁ ⊢
    exact wpAny_bind (wpAny_execs_nil (wpAny_pure (q _ _ _ _ _ st₁ R₁ .next h₁)))
  | true =>
    simp only [if_true] at h₁ ⊢
    refine wpAny_bind (h₁ s₁ X _ _ R₁ (fun f f' s₂ ρ₂ H₂ st₂ R₂ hf h₂ => ?_) fun e v s₂ ρ' H' st R₂ hv f => ern e v s₂ ρ' H' (st₁.trans st) R₂ hv f)
    cases hf with
    | next => exact wpAny_pure ⟨rfl, h₂ s₂ X _ R₂ (Qs.step q (st₁.trans st₂)) (Es.step er (st₁.trans st₂))⟩
    | cont => exact wpAny_pure ⟨rfl, h₂ s₂ X _ R₂ (Qs.step q (st₁.trans st₂)) (Es.step er (st₁.trans st₂))⟩
    | brk => exact wpAny_pure (q _ _ _ _ _ (st₁.trans st₂) R₂ .next h₂)
    | ret hv => exact wpAny_pure (q _ _ _ _ _ (st₁.trans st₂) R₂ (.ret hv) h₂)
end
end Mine
end

section
open PySem PySem.W PyProof.Rows PySem.Calls
set_option Elab.async false
set_option linter.unusedVariables false
set_option maxRecDepth 100000
namespace Mine
structure ExcK (K : Frag) (C : Addr) : Prop extends ExcF K C where
  obj : ∃ nm q N bs bm hdct sn sub col dd k0 k1 k2 k3 k5, K.lookup C = some (excClassObj nm q C N bs bm hdct sn sub false col dd k0 k1 k2 k3 k5 "Exception.__new__") ∧ bm.contains (.type "Exception") = true ∧ bm.contains (.type "BaseException") = true ∧ bm.contains (.type "AttributeError") = false ∧ bm.contains (.type "NameError") = false
section
variable {M : Model} {A : Around} {E : Value → Shared → Prop} {h : Heap} {g : Array GenState} {d : Drawn} {t : Nat} {os : OsState}
variable {nm q : Str} {C N : Addr} {bs bm : List Value} {hdct : Bool} {sn : List Str} {sub : List Value} {ab : Bool} {col : Option Bool} {dd : Option Addr} {k0 k1 k2 k3 k5 : Option Value} {newId : String}
theorem excFrom_here {a : Addr} {od : Option Addr} {vs : Array Value} {sl : Array (Option Value)} {msg : String} {Q : Value → Shared → Prop} (hC : h.get? C = some (excClassObj nm q C N bs bm hdct sn sub ab col dd k0 k1 k2 k3 k5 newId)) (hb : bm.contains (.type "BaseException") = true)
    (he : h.get? a = some { cls := .ref C, dict := od, data := .fields vs, slots := sl }) (hq : Q (.ref a) ⟨h, g, d, t, os⟩) : wpAny M A (excFromValue (.ref a) msg) Q E ⟨h, g, d, t, os⟩ := by
  have hcB : (Value.ref C :: bm).contains (.type "BaseException") = true := by rw [List.contains_cons, hb, Bool.or_true]
  unfold excFromValue isExcClass
  repeat (first | with_reducible refine wpAny_loadPart_at he ?_ | (with_reducible refine wpAny_isSubtype_exc hC ?_; rw [hcB]) | wp_step)
  exact hq
theorem isType_here {a : Addr} {od : Option Addr} {vs : Array Value} {sl : Array (Option Value)} {Q : Bool → Shared → Prop}
    (he : h.get? a = some { cls := .ref C, dict := od, data := .fields vs, slots := sl }) (hq : Q false ⟨h, g, d, t, os⟩) : wpAny M A (isType (.ref a)) Q E ⟨h, g, d, t, os⟩ := by
  repeat (first | with_reducible refine wpAny_loadPart_at he ?_ | wp_step)
  exact hq
theorem raisedInst_here {a : Addr} {od : Option Addr} {vs : Array Value} {sl : Array (Option Value)} {Q : Value → Shared → Prop} (hC : h.get? C = some (excClassObj nm q C N bs bm hdct sn sub ab col dd k0 k1 k2 k3 k5 newId))
    (he : h.get? a = some { cls := .ref C, dict := od, data := .fields vs, slots := sl }) (hq : Q (.ref a) ⟨h, g, d, t, os⟩) : wpAny M A (raisedInstance (.ref a)) Q E ⟨h, g, d, t, os⟩ := by
  unfold raisedInstance
  repeat (first | with_reducible refine wpAny_loadPart_at he ?_ | with_reducible refine wpAny_loadPart_at hC ?_ | wp_step)
  exact hq
end
section
variable {KF : Params → Frag} {g : Gd KF} {c : Cx} {ρ : Loc} {H : AH} {X : XH} {k : AF → Loc → AH → Prop} {x : AV → Loc → AH → Prop}
noncomputable def RaiseNew {KF : Params → Frag} (g : Gd KF) (c : Cx) (v : AV) (ρ : Loc) (H : AH) (x : AV → Loc → AH → Prop) : Prop :=
  ∀ (s : Shared) (X : XH) (Q : Flow → Shared → Prop) (E : Value → Shared → Prop) (e : Value), Rep g c s.heap ρ H X → VR s.heap e v → Es g c X s x E → wpAny (model g.prog g.w) c.A (raiseNew e : Sem Flow) Q E s
theorem Ex.raise {e : Expr} {pos : Pos} {C : Addr} (hC : ExcK g.K C) (h : Ev g c e ρ H (fun v ρ₁ H₁ => (∃ kx, Fl C kx v H₁) ∧ RaiseNew g c v ρ₁ H₁ x) x) : Ex g c (.Raise (some e) none pos) ρ H k x := fun s X Q E R q er => by
  rw [arm_exec_Raise]
  refine wpAny_bind (wpAny_standAt ?_)
  show wpAny _ _ (raiseStmt c.env (some (do let v ← eval e c.env; standAt pos; pure v)) none) _ _ _
  unfold raiseStmt
  refine wpAny_bind (wpAny_bind (h s X _ _ R (fun v v' s₁ ρ₁ H₁ st₁ R₁ hv h₁ => wpAny_bind (wpAny_standAt (wpAny_pure ?_))) er))
  obtain ⟨⟨kx, f⟩, h₂⟩ := h₁
  have f' := Cl.of f
  refine absG fun G₀ hG₀ => ?_
  obtain ⟨a, d, t, ctx, fs, H₀, rfl, hH, _⟩ := f
  refine hG₀ ?_
  cases hv.refInv
  refine absG fun G₀ hG₀ => ?_
  obtain ⟨oe, vs, w1, w2, w3, w4, w5, w6, w7, w8⟩ := R₁.excAt hH
  refine hG₀ ?_
  refine absG fun G₀ hG₀ => ?_
  obtain ⟨oc, od, dt, sl⟩ := oe
  refine hG₀ ?_
  cases w2; cases w6; cases w7
  refine absG fun G₀ hG₀ => ?_
  obtain ⟨nm, q', N, bs, bm, hdct, sn, sub, col, dd, k0, k1, k2, k3, k5, o1, o2, o3, _⟩ := hC.obj
  refine hG₀ ?_
  have hc := R₁.K _ _ o1
  refine wpAny_bind (wpAny_pure (wpAny_bind (wpAny_holding ?_)))
  refine absG fun G₀ hG₀ => ?_
  obtain ⟨hp, gn, dr, tk, os⟩ := s₁
  refine hG₀ ?_
  refine excFrom_here hc o3 w1 ?_
  refine wpAny_bind (isType_here w1 ?_)
  simp only [Bool.false_eq_true, if_false]
  refine wpAny_bind (raisedInst_here hc w1 ?_)
  refine wpAny_bind (flightL R₁ (.ref a) f' fun s₂ st₂ R₂ => ?_)
  exact h₂ s₂ X _ _ _ R₂ (.ref a) (er.step (st₁.trans st₂))
theorem RaiseNew.plain {v : AV} (hh : c.A.handled = none) (h : x v ρ H) : RaiseNew g c v ρ H x := fun s X Q E e R hv er => wpAny_raiseNew_none hh (er _ _ _ _ _ (Step.refl s) R hv h)
theorem RaiseNew.same {a : Addr} (hh : c.A.handled = some (.ref a)) (h : x (.ref a) ρ H) : RaiseNew g c (.ref a) ρ H x := fun s X Q E e R hv er => by
  cases hv.refInv
  unfold raiseNew
  refine wpAny_bind (wpAny_handled ?_)
  rw [hh]
  dsimp only
  rw [if_neg (by simp)]
  exact wpAny_throw (er _ _ _ _ _ (Step.refl s) R (.ref a) h)
theorem entry_unchain : entryFor table "proto.unchain" = some Builtin.«proto.unchain» := entryFor_of_tree (by kernel_rfl)
theorem RaiseNew.over {a b C d Cb db : Addr} {T Tb ctx : Option Addr} {fs fb : List (Str × AV)} (hh : c.A.handled = some (.ref b)) (ha : H a = some (.exc C d T ctx fs)) (hb : H b = some (.exc Cb db Tb Option.none fb)) (hab : a ≠ b)
    (h : x (.ref a) ρ (upd H a (.exc C d T (some b) fs))) : RaiseNew g c (.ref a) ρ H x := fun s X Q E e R hv er => by
  cases hv.refInv
  unfold raiseNew
  refine wpAny_bind (wpAny_handled ?_)
  rw [hh]
  dsimp only
  rw [if_pos (by simp; exact fun q => hab q.symm)]
  refine absG fun G₀ hG₀ => ?_
  obtain ⟨ob, vb, b1, b2, b3, b4, b5, b6, b7, _⟩ := R.excAt hb
  refine hG₀ ?_
  refine absG fun G₀ hG₀ => ?_
  obtain ⟨oe, vs, w1, w2, w3, w4, w5, w6, w7, w8⟩ := R.excAt ha
  refine hG₀ ?_
  refine wpAny_bind (wpAny_holding (wpAny_runValue (codeAny_builtin entry_unchain ?_)))
  unfold Builtin.«proto.unchain»
  dsimp only
  refine wpAny_bind (wpAny_field b1 b2 b5 ?_)
  rw [if_pos (by rfl)]
  refine wpAny_pure ?_
  refine wpAny_bind ?_
  show wpAny _ _ (setField (.ref a) 2 (.ref b)) _ _ _
  refine wpAny_setField w1 w2 (by rw [w3]; decide) (wpAny_throw ?_)
  have g1 := update_fields w1 w2 2 (Value.ref b)
  refine absG fun G₀ hG₀ => ?_
  obtain ⟨_, ⟨es, n, v1, v2⟩, v3, v4⟩ := (R.o.obj a _ ha).2
  refine hG₀ ?_
  have nda : d ≠ a := fun q => by subst q; rw [ha] at v3; cases v3
  have hs : Heap.ExtBut a s.heap (s.heap.update a (Obj.mapFields (·.setIfInBounds 2 (Value.ref b)))) := fun b' o q z => (Heap.get?_update_other _ _ (Ne.symm q)).trans z
  obtain ⟨R', kp⟩ := R.change (o' := .exc C d T (some b) fs) ha (.inl rfl) rfl hs (by rw [Heap.size_update]; exact Nat.le_refl _) rfl rfl (fun kp => by
    refine ⟨⟨_, _, g1, w6, w7, rfl, by simp [w3], ?_, by simp [w3, refO]⟩, ⟨es, n, hs _ _ nda v1, v2.mono kp⟩, (upd_ne nda).trans v3, fun t q => ?_⟩
    · rw [Array.getElem?_setIfInBounds_ne (by decide)]; exact w4
    · exact (upd_ne fun q' => by subst q'; have := v4 _ q; rw [ha] at this; cases this).trans (v4 t q))
  exact er _ _ _ _ _ (Step.heap' s kp) R' (.ref a) h
end
end Mine
end

section
open PySem PySem.W PyProof.Rows PySem.Calls
set_option Elab.async false
set_option linter.unusedVariables false
set_option maxRecDepth 100000
namespace Mine
noncomputable def delL (ρ : Loc) (x : Str) : Loc := fun y => if y = x then none else ρ y
theorem delL_other {ρ : Loc} {x y : Str} {o : Option AV} (h : (y == x) = false) (e : ρ y = o) : delL ρ x y = o := (if_neg (beq_eq_false_iff_ne.mp h)).trans e
noncomputable def ClC (C : Addr) (P : AH → Prop) (v : AV) (H : AH) : Prop := ∃ kx, Fl C kx v H ∧ ∀ H', Fl C kx v H' → P H'
theorem ClC.and {C : Addr} {P : AH → Prop} {v : AV} {H : AH} (z : ClC C P v H) : Cl (ClC C P v) v H := let ⟨kx, h1, h2⟩ := z; ⟨C, kx, h1, fun H' w => ⟨kx, w, h2⟩⟩
section
variable {KF : Params → Frag} {g : Gd KF} {c : Cx} {ρ : Loc} {H : AH} {X : XH} {k : AF → Loc → AH → Prop} {x : AV → Loc → AH → Prop}
theorem Rep.reA {A A' : Around} {env : Env} {h : Heap} (R : Rep g ⟨A, env⟩ h ρ H X) (hA : A'.frames = A.frames) : Rep g ⟨A', env⟩ h ρ H X := by
  refine absG fun G₀ hG₀ => ?_
  obtain ⟨o, ns, nL, cl, inj, l, h1, r⟩ := R
  refine hG₀ ?_
  exact ⟨o, ns, nL, cl, inj, l, hA.trans h1, r⟩
theorem Rep.del {cx : Cx} {h h' : Heap} {m : Str → Option Value} {y : Str} {v : Option Value} (R : Rep g cx h ρ H X) (hm : h.Ns cx.env.locals m) (hl : LocR h m cx.env.cells ρ) (hc : cx.env.cells.lookup y = Option.none)
    (hn : h'.Ns cx.env.locals (fun z => if z = y then v else m z)) (hs : Heap.SameBut cx.env.locals h h') : Rep g cx h' (delL ρ y) H X ∧ TupKeep h h' := by
  refine absG fun G₀ hG₀ => ?_
  obtain ⟨oL, es, ep, hL, hLd, _⟩ := hm
  refine hG₀ ?_
  have kp : TupKeep h h' := .extBut hs.extBut hL (.of_dict hLd)
  have nd : ∀ b o, H b = some o → b ≠ cx.env.locals := fun b o e q => by rw [q, R.f.nL.2.1] at e; cases e
  have hz : h.objs.size ≤ h'.objs.size := Nat.le_of_eq hs.1.symm
  refine ⟨⟨⟨fun b ob e => hs.extBut b ob (fun q => ?_) (R.o.keep b ob e), Nat.le_trans R.o.size hz, fun b o e => ?_, fun b ob e => ?_⟩, ⟨⟨_, hn, fun z u e => ?_⟩, R.f.nL, fun z c e => ?_, R.f.inj, R.f.stk⟩⟩, kp⟩
  · subst q; exact absurd (Heap.lt_size e) (Nat.not_lt.mpr R.f.nL.1)
  · have w := R.o.obj b o e
    refine ⟨w.1, w.2.keep kp fun b' ob hb hn' e' => hs.extBut b' ob ?_ e'⟩
    rcases hb with rfl | hb
    · exact nd _ _ e
    · exact nd _ _ hb
  · have w := R.o.ext b ob e
    exact ⟨w.1.keep fun o => hs.extBut b o (fun q => by rw [q, R.f.nL.2.2] at e; cases e), w.2⟩
  · by_cases q : z = y
    · subst q
      unfold delL at e
      rw [if_pos rfl] at e; cases e
    · have e : ρ z = some u := by unfold delL at e; rwa [if_neg q] at e
      have w := hl z u e
      cases hz' : cx.env.cells.lookup z with
      | none =>
        rw [hz'] at w
        obtain ⟨v', w1, w2⟩ := w
        exact ⟨v', (if_neg q).trans w1, w2.mono kp⟩
      | some a =>
        rw [hz'] at w
        obtain ⟨v', w1, w2⟩ := w
        exact ⟨v', IsCell.at w1 fun o => hs.extBut a o (R.f.cl z a hz').2.2.2.1, w2.mono kp⟩
  · refine absG fun G₀ hG₀ => ?_
    obtain ⟨h1, h2, h3, h4, v', h5⟩ := R.f.cl z c e
    refine hG₀ ?_
    exact ⟨h1, h2, h3, h4, v', IsCell.at h5 fun o => hs.extBut c o h4⟩
theorem goesL {s : Shared} {n : Str} {pos : Pos} {A : Around} {Q : Unit → Shared → Prop} {E : Value → Shared → Prop} (R : Rep g c s.heap ρ H X) (hc : c.env.cells.lookup n = Option.none) (hx : c.env.kindOf n = some .local) (hk : c.env.scope.kind = .function)
    (h : ∀ s', Step s s' → Rep g c s'.heap (delL ρ n) H X → Q () s') : wpAny (model g.prog g.w) A (do bindName c.env n .none; unbindBehindTheSuite c.env n pos) Q E s := by
  obtain ⟨m, hm, hl⟩ := R.f.ns
  refine wpAny_nameGoes_keeps hx hm (by rw [hk]; rfl) fun h' v hn hs => ?_
  obtain ⟨R', kp⟩ := R.del hm hl hc hn hs
  exact h _ (Step.heap' s kp) R'
theorem passL {s : Shared} {e : Value} {v : AV} {P : AH → Prop} {what : String} {α : Type} {Q : α → Shared → Prop} {E : Value → Shared → Prop} (R : Rep g c s.heap ρ H X) (hv : VR s.heap e v) (f : ClT P v H)
    (h : ∀ s', Step s s' → Rep g c s'.heap ρ H X → VR s'.heap e v → E e s') : wpAny (model g.prog g.w) c.A (PySem.passOn what e c.env : Sem α) Q E s := by
  have fc := f.cl
  refine absG fun G₀ hG₀ => ?_
  obtain ⟨C, kx, ⟨a, d, t, ctx, fs, H₀, rfl, hH, ht, _⟩, _⟩ := f
  refine hG₀ ?_
  cases hv.refInv
  refine absG fun G₀ hG₀ => ?_
  obtain ⟨oe, vs, w1, w2, w3, w4, _, _, _, w5⟩ := R.excAt hH
  refine hG₀ ?_
  unfold PySem.passOn
  refine wpAny_bind (wpAny_field w1 w2 w4 ?_)
  obtain ⟨t, rfl⟩ := Option.ne_none_iff_exists'.mp ht
  rw [if_neg (by simp [refO])]
  exact wpAny_bind (flightL R (.ref a) fc fun s' st R' => wpAny_throw (h s' st R' (.ref a)))

noncomputable def Hnd {KF : Params → Frag} (g : Gd KF) (c : Cx) (n : Str) (suite : List Stmt) (k : AF → Loc → AH → Prop) (x : AV → Loc → AH → Prop) (v : AV) (ρ : Loc) (H : AH) : Prop :=
  ∃ a, v = .ref a ∧ Exs g ⟨c.A.mark (some (.ref a)), c.env⟩ suite (setL ρ n (.ref a)) H (fun f ρ₃ H₃ => k f (delL ρ₃ n) H₃) (fun v' ρ₃ H₃ => Cl (x v' (delL ρ₃ n)) v' H₃)
theorem Ex.tryAs {body : List Stmt} {tE : Expr} {n : Str} {b₀ : Stmt} {suite : List Stmt} {hpos pos : Pos} {C : Addr} (hC : ExcK g.K C) (hf : c.env.frame = some c.env.locals)
    (hcn : c.env.cells.lookup n = Option.none) (hx : c.env.kindOf n = some .local) (hk : c.env.scope.kind = .function)
    (ht : ∀ (A : Around) (ρ' : Loc) (H' : AH) (k' : AV → Loc → AH → Prop) (x' : AV → Loc → AH → Prop), k' (.ref C) ρ' H' → Ev g ⟨A, c.env⟩ tE ρ' H' k' x')
    (h : Exs g c body ρ H k (fun v ρ₁ H₁ => ClC C (Hnd g c n (b₀ :: suite) k x v ρ₁) v H₁)) :
    Ex g c (.Try body [.ExceptHandler (some tE) (some n) (b₀ :: suite) hpos] [] [] pos) ρ H k x := fun s X Q E R q er => by
  refine wpAny_Try_except (h s X _ _ R (fun fl fl' s₁ ρ₁ H₁ st₁ R₁ hfl h₁ => ?_) fun e v s₁ ρ₁ H₁ st₁ R₁ hv f₁ => ?_)
  · cases hfl with
    | next => exact wpAny_execs_nil (q _ _ _ _ _ st₁ R₁ .next h₁)
    | brk => exact q _ _ _ _ _ st₁ R₁ .brk h₁
    | cont => exact q _ _ _ _ _ st₁ R₁ .cont h₁
    | ret hv => exact q _ _ _ _ _ st₁ R₁ (.ret hv) h₁
  · refine noteL R₁ hf hv f₁.and fun s₂ H₂ st₂ R₂ hv₂ f₂ => ?_
    refine flightL R₂ hv₂ f₂.cl fun s₃ st₃ R₃ => ?_
    obtain ⟨kx, fl, hP⟩ := f₂.cl.now
    obtain ⟨a, hva, hS⟩ := hP _ fl
    subst hva
    cases hv₂.refInv
    have st13 := (st₁.trans st₂).trans st₃
    refine absG fun G₀ hG₀ => ?_
    obtain ⟨a', d, t, ctx, fs, H₀, q', hH, _⟩ := fl
    refine hG₀ ?_
    cases q'
    refine absG fun G₀ hG₀ => ?_
    obtain ⟨nm, q', N, bs, bm, hdct, sn, sub, col, dd, k0, k1, k2, k3, k5, o1, o2, o3, _⟩ := hC.obj
    refine hG₀ ?_
    let c' : Cx := ⟨c.A.mark (some (.ref a)), c.env⟩
    have R3' : Rep g c' s₃.heap ρ₁ H₂ X := R₃.reA rfl
    refine wpAny_handleBy_cons ?_ (by intro q; cases q)
    refine codeAny_handlers_test ?_
    refine ht (c.A.mark (some (.ref a))) ρ₁ H₂ (fun v ρ' H' => v = .ref C ∧ ρ' = ρ₁ ∧ H' = H₂) (fun _ _ _ => False) ⟨rfl, rfl, rfl⟩ s₃ X _ _ R3' (fun cv cv' s₄ ρ₄ H₄ st₄ R₄ hcv h₄ => ?_) fun _ _ _ _ _ _ _ _ z => z.elim
    obtain ⟨rfl, rfl, rfl⟩ := h₄
    cases hcv.refInv
    have hc4 := R₄.K _ _ o1
    refine absG fun G₀ hG₀ => ?_
    obtain ⟨oe, vs, w1, _, _, _, _, w6, _, _⟩ := R₄.excAt hH
    refine hG₀ ?_
    refine absG fun G₀ hG₀ => ?_
    obtain ⟨hh, gn, dr, tk, os⟩ := s₄
    refine hG₀ ?_
    refine wpAny_excMatches_sub_self hc4 w1 w6 o3 ?_
    show codeAny _ _ _ _ _
    have f3 : Cl (fun _ => True) (.ref a) H₄ := f₂.cl.mono fun _ _ => trivial
    refine codeAny_handlers_suite_as ?_
    refine flightL R₄ (.ref a) f3 fun s₅ st₅ R₅ => ?_
    refine storeA (c := c') (d := .ref a) ⟨hk, .inl ⟨hcn, hx⟩⟩ R₅ (.ref a) fun s₆ st₆ R₆ => ?_
    have st16 := ((st13.trans st₄).trans st₅).trans st₆
    refine hS s₆ X _ _ R₆ (fun fl fl' s₇ ρ₇ H₇ st₇ R₇ hfl h₇ => ?_) fun e' v' s₇ ρ₇ H₇ st₇ R₇ hv₇ f₇ => ?_
    · have R7' : Rep g c s₇.heap ρ₇ H₇ X := R₇.reA rfl
      refine goesL (c := c) R7' hcn hx hk fun s₈ st₈ R₈ => ?_
      refine q _ _ _ _ _ ((st16.trans st₇).trans st₈) R₈ ?_ h₇
      cases hfl with
      | next => exact .next
      | brk => exact .brk
      | cont => exact .cont
      | ret hv => exact .ret (hv.mono st₈.tup)
    · refine noteL (c := c') R₇ hf hv₇ f₇.again fun s₈ H₈ st₈ R₈ hv₈ f₈ => ?_
      refine goesL (c := c') R₈ hcn hx hk fun s₉ st₉ R₉ => ?_
      refine passL (c := c') R₉ (hv₈.mono st₉.tup) f₈ fun s₁₀ st₁₀ R₁₀ hv₁₀ => ?_
      refine noteL (c := c') R₁₀ hf hv₁₀ f₈.cl fun s₁₁ H₁₁ st₁₁ R₁₁ hv₁₁ f₁₁ => ?_
      have R11' : Rep g c s₁₁.heap (delL ρ₇ n) H₁₁ X := R₁₁.reA rfl
      refine backL (c := c) R11' hv₁₁ f₁₁ fun s₁₂ st₁₂ R₁₂ hv₁₂ => ?_
      exact er _ _ _ _ _ (((((st16.trans st₇).trans st₈).trans (st₉.trans st₁₀)).trans st₁₁).trans st₁₂) R₁₂ hv₁₂ f₁₁.cl.now.now
end
end Mine
end

section
open PySem PySem.W PyProof.Rows PySem.Calls
set_option Elab.async false
set_option linter.unusedVariables false
set_option maxRecDepth 100000
namespace Mine
section
variable {KF : Params → Frag} {g : Gd KF} {c : Cx} {ρ : Loc} {H : AH} {X : XH} {x : AV → Loc → AH → Prop}
theorem Op1.getX {k : AV → Loc → AH → Prop} {t C d : Addr} {T ctx : Option Addr} {fs : List (Str × AV)} {attr : Str} {v : AV} (hH : H t = some (.exc C d T ctx fs)) (hC : ExcK g.K C) (ha : findIn g.K (.ref C) attr = some none) (hl : lookF fs attr = some v) (hb : notBi v = true)
    (h : k v ρ H) : Op1 g c VR (fun o => getAttr o attr true) (.ref t) ρ H k x := fun s X Q E va R hv q e => by
  cases hv.refInv
  refine absG fun G₀ hG₀ => ?_
  obtain ⟨oe, vs, w1, w2, w3, w4, w5, w6, w7, w8⟩ := R.excAt hH
  refine hG₀ ?_
  refine absG fun G₀ hG₀ => ?_
  obtain ⟨oc, od, dt, sl⟩ := oe
  refine hG₀ ?_
  cases w2; cases w6; cases w7
  refine absG fun G₀ hG₀ => ?_
  obtain ⟨_, ⟨es, n, v1, v2⟩, v3, v4⟩ := (R.o.obj t _ hH).2
  refine hG₀ ?_
  obtain ⟨w, h1, h2⟩ := v2.look (y := attr)
  rw [hl] at h2
  cases h2 with
  | some h2 => exact exc_get R.K w1 v1 hC.toExcF ha (by rw [lookIn_dict]; rw [h1]) (h2.handed hb) (q _ _ _ _ _ (Step.tok s _) R h2 h)
theorem Op2.setX {k : Unit → Loc → AH → Prop} {t C d : Addr} {T ctx : Option Addr} {fs : List (Str × AV)} {attr : Str} {v : AV} (hH : H t = some (.exc C d T ctx fs)) (hC : ExcK g.K C) (ha : findIn g.K (.ref C) attr = some none) (hz : fs.length ≤ 900)
    (h : k () ρ (upd H t (.exc C d T ctx (putF fs attr v)))) : Op2 g c (fun _ (_ : Unit) (_ : Unit) => True) (fun a b => setAttr a attr b) (.ref t) v ρ H k x := fun s X Q E va vb R hva hvb q e => by
  cases hva.refInv
  refine absG fun G₀ hG₀ => ?_
  obtain ⟨oe, vs, w1, w2, w3, w4, w5, w6, w7, w8⟩ := R.excAt hH
  refine hG₀ ?_
  refine absG fun G₀ hG₀ => ?_
  obtain ⟨oc, od, dt, sl⟩ := oe
  refine hG₀ ?_
  cases w2; cases w6; cases w7
  refine absG fun G₀ hG₀ => ?_
  obtain ⟨_, ⟨es, n, v1, hF⟩, hown, v4⟩ := (R.o.obj t _ hH).2
  refine hG₀ ?_
  obtain ⟨w', h1, _⟩ := hF.look (y := attr)
  refine exc_set R.K w1 v1 hC.toExcF ha hF.no_ref (by rw [h1]; rfl) (by rw [hF.length]; exact hz) ?_
  have hs := Heap.SameBut.update s.heap d (Obj.putName attr (PyData.keyHash g.w.params attr) (.str attr (s.toks + 1)) vb)
  have ntd : t ≠ d := fun q => by rw [q, hown] at hH; cases hH
  have gd : (s.heap.update d (Obj.putName attr (PyData.keyHash g.w.params attr) (.str attr (s.toks + 1)) vb)).get? d = some (dictOf (putL attr (PyData.keyHash g.w.params attr) (.str attr (s.toks + 1)) vb es) (putN attr es n)) := by
    have e1 := putName_dict attr (PyData.keyHash g.w.params attr) (.str attr (s.toks + 1)) vb es n
    rw [← e1]
    exact Heap.get?_update_self _ v1 (by rw [e1]; rfl)
  obtain ⟨R', kp⟩ := R.change (o' := .exc C d T ctx (putF fs attr v)) hH (.inr hown) rfl hs.extBut (Nat.le_of_eq hs.1.symm) rfl rfl (fun kp =>
    ⟨⟨_, vs, hs.extBut _ _ ntd w1, rfl, rfl, rfl, w3, w4, w5⟩, ⟨_, _, gd, (FR.put hvb hF).mono kp⟩, (upd_ne (Ne.symm ntd)).trans hown, fun t' q' => (upd_ne fun q'' => by subst q''; have := v4 _ q'; rw [hH] at this; cases this).trans (v4 t' q')⟩)
  exact q () () _ _ _ (Step.heap s kp (Nat.le_of_eq hs.1.symm)) R' trivial h
theorem OK.updN {h : Heap} {a b : Addr} {o o₀ o' : AObj} (z : OK g h H b o) (hH : H a = some o₀) (hi : insOf o₀ = none) (ho : ownTb o' = ownTb o₀) : OK g h (Mine.upd H a o') b o := by
  have own : ∀ {d c : Addr}, H d = some (.own c) → Mine.upd H a o' d = some (.own c) := fun {d c} e => by
    by_cases q : d = a
    · subst q
      rw [hH] at e
      rw [upd_same, own_of ho (Option.some.inj e)]
    · exact (upd_ne q).trans e
  have tb : ∀ {d : Addr}, H d = some .tb → Mine.upd H a o' d = some .tb := fun {d} e => by
    by_cases q : d = a
    · subst q
      rw [hH] at e
      rw [upd_same, tb_of ho (Option.some.inj e)]
    · exact (upd_ne q).trans e
  cases o with
  | inst C d fs =>
    obtain ⟨h1, h2, h4⟩ := z
    exact ⟨h1, h2, own h4⟩
  | exc C d T ctx fs =>
    refine absG fun G₀ hG₀ => ?_
    obtain ⟨h1, h2, h4, h5⟩ := z
    refine hG₀ ?_
    exact ⟨h1, h2, own h4, fun t e => tb (h5 t e)⟩
  | own b' =>
    refine absG fun G₀ hG₀ => ?_
    obtain ⟨C, ob, h1, h2⟩ := z
    refine hG₀ ?_
    refine ⟨C, ob, (upd_ne fun q => ?_).trans h1, h2⟩
    subst q
    rw [hH] at h1; cases h1; rw [hi] at h2; cases h2
  | list vs => exact z
  | tb => exact z
  | exc0 C => exact z
  | dictS f => exact z
  | dictI f => exact z
  | dictT xs => exact z
theorem Rep.excNew {cx : Cx} {h h' : Heap} {t C : Addr} {es : List DictEntry} {n : Nat} {fs : List (Str × AV)} {o' : Obj} {vs : Array Value} (R : Rep g cx h ρ H X) (hH : H t = some (.exc0 C)) (ht : h'.get? t = some o') (hcls : o'.cls = .ref C) (hdt : o'.data = .fields vs) (hz : vs.size = 6) (h1 : vs[1]? = some .none) (h2 : vs[2]? = some .none)
    (hd : o'.dict = some h.objs.size) (hdd : h'.get? h.objs.size = some (dictOf es n)) (hsz : h'.objs.size = h.objs.size + 1) (hk : ∀ b o, b ≠ t → h.get? b = some o → h'.get? b = some o) (hF : TupKeep h h' → FR h' es fs) :
    Rep g cx h' ρ (upd (upd H h.objs.size (.own t)) t (.exc C h.objs.size none none fs)) X ∧ TupKeep h h' := by
  obtain ⟨ot, hot, hct⟩ := R.o.there hH
  have hs : Heap.ExtBut t h h' := fun b o q z => hk b o q z
  have kp : TupKeep h h' := .extBut hs hot (.of_cls hct)
  have lt := Heap.lt_size hot
  have fr := R.o.fresh
  have ntd : t ≠ h.objs.size := Nat.ne_of_lt lt
  have nt : ∀ b, H b = none → b ≠ t := fun b e q => by subst q; rw [hH] at e; cases e
  have hb : g.hb.objs.size ≤ t := (R.o.obj t _ hH).1
  have up : ∀ b, H b = none → (∃ ob, h.get? b = some ob) → upd (upd H h.objs.size (.own t)) t (.exc C h.objs.size none none fs) b = none := fun b e ⟨ob, z⟩ => (upd_ne (nt b e)).trans ((upd_ne (Nat.ne_of_lt (Heap.lt_size z))).trans e)
  refine ⟨⟨⟨fun b ob e => hs b ob (fun q => ?_) (R.o.keep b ob e), by rw [hsz]; exact Nat.le_succ_of_le R.o.size, fun b o e => ?_, fun b ob e => ?_⟩, ⟨?_, ⟨R.f.nL.1, ?_, R.f.nL.2.2⟩, fun y c e => ?_, R.f.inj, R.f.stk⟩⟩, kp⟩
  · subst q; exact absurd (Heap.lt_size e) (Nat.not_lt.mpr hb)
  · by_cases q : b = t
    · subst q
      rw [upd_same] at e; cases e
      exact ⟨hb, ⟨o', vs, ht, hcls, hd, hdt, hz, h1, h2⟩, ⟨es, n, hdd, hF kp⟩, (upd_ne (Ne.symm ntd)).trans (upd_same _ _ _), fun t q => by cases q⟩
    · rw [upd_ne q] at e
      by_cases q2 : b = h.objs.size
      · subst q2
        rw [upd_same] at e; cases e
        exact ⟨R.o.size, C, _, upd_same _ _ _, rfl⟩
      · rw [upd_ne q2] at e
        refine ⟨(R.o.obj b o e).1, OK.updN (o₀ := .exc0 C) (OK.new (OK.keep (R.o.obj b o e).2 kp fun b' ob hb' _ z => hs b' ob (fun q' => ?_) z) fr) ((upd_ne ntd).trans hH) rfl rfl⟩
        subst q'
        rcases hb' with rfl | w
        · exact q rfl
        · rw [hH] at w; cases w
  · have z := R.o.ext b ob e
    exact ⟨z.1.keep fun o => hs b o (nt b z.2.1), up b z.2.1 z.1.there, z.2.2⟩
  · obtain ⟨m, m1, m2⟩ := R.f.ns
    exact ⟨m, m1.extBut hs (nt _ R.f.nL.2.1), m2.mono kp fun y c v e q => IsCell.at q fun o => hs c o (nt c (R.f.cl y c e).2.1)⟩
  · obtain ⟨m, m1, _⟩ := R.f.ns
    obtain ⟨o, z, _⟩ := Ns.nonF m1
    exact up _ R.f.nL.2.1 ⟨o, z⟩
  · refine absG fun G₀ hG₀ => ?_
    obtain ⟨c1, c2, c3, c4, v, c5⟩ := R.f.cl y c e
    refine hG₀ ?_
    have c5' := c5
    obtain ⟨o, z, _⟩ := c5'
    exact ⟨c1, up c c2 ⟨o, z⟩, c3, c4, v, IsCell.at c5 fun o => hs c o (nt c c2)⟩
theorem Op2.setX0 {k : Unit → Loc → AH → Prop} {t C : Addr} {attr : Str} {v : AV} (hH : H t = some (.exc0 C)) (hC : ExcK g.K C) (ha : findIn g.K (.ref C) attr = some none)
    (h : ∀ d, H d = none → k () ρ (upd (upd H d (.own t)) t (.exc C d none none [(attr, v)]))) : Op2 g c (fun _ (_ : Unit) (_ : Unit) => True) (fun a b => setAttr a attr b) (.ref t) v ρ H k x := fun s X Q E va vb R hva hvb q e => by
  cases hva.refInv
  refine absG fun G₀ hG₀ => ?_
  obtain ⟨_, oe, vs, w1, w2, w3, w4, w5, w6, w7⟩ := R.o.obj t _ hH
  refine hG₀ ?_
  refine absG fun G₀ hG₀ => ?_
  obtain ⟨oc, od, dt, sl⟩ := oe
  refine hG₀ ?_
  cases w2; cases w3; cases w4
  refine exc_set_new R.K w1 hC.toExcF ha fun h' z1 z2 z3 z4 => ?_
  obtain ⟨R', kp⟩ := R.excNew hH z1 rfl rfl w5 w6 w7 rfl z2 z3 z4 fun kp => .cons (hvb.mono kp) .nil
  exact q () () _ _ _ (Step.heap' s kp) R' trivial (h _ R.o.fresh)
structure MkE (K : Frag) (C fI : Addr) : Prop extends ExcK K C where
  ini : findIn K (.ref C) "__init__" = some (some (.ref fI))
  fn : typeIn K (.ref fI) = some (.type "function")
theorem Cal.makeE {n : Nat} {b : Bool} {C fI : Addr} {as : List AV} {k x : AV → AH → Prop} (M : MkE g.K C fI) (hz : as.length ≤ 1000)
    (h : ∀ a, H a = none → Cal g n b fI (.ref a :: as) (upd H a (.exc0 C)) (fun v H' => v = .none ∧ k (.ref a) H') x) : Cal g (n + 1) b C as H k x := by
  intro A s X R vs ok sk hv R0 q e
  refine absG fun G₀ hG₀ => ?_
  obtain ⟨hh, gn, dr, tk, os⟩ := s
  refine hG₀ ?_
  have K := g.X.keeps R0.keep
  refine absG fun G₀ hG₀ => ?_
  obtain ⟨nm, q', N, bs, bm, hdct, sn, sub, col, dd, k0, k1, k2, k3, k5, o1, o2, o3, o4, o5⟩ := M.obj
  refine hG₀ ?_
  have f1 : H (hh.objs.size + 1) = none := by
    cases q : H (hh.objs.size + 1) with
    | none => rfl
    | some o => exact absurd (R0.lt q) (Nat.not_lt.mpr (Nat.le_succ _))
  have hk : ∀ b o, hh.get? b = some o → ((hh.push { cls := .type "tuple", data := .seq vs.toArray }).push (excNew C hh.objs.size)).get? b = some o := fun b o e => Heap.get?_push_of_some _ (Heap.get?_push_of_some _ e)
  have kp : TupKeep hh ((hh.push { cls := .type "tuple", data := .seq vs.toArray }).push (excNew C hh.objs.size)) := .of_keep hk
  have st : Step ⟨hh, gn, dr, tk, os⟩ ⟨(hh.push { cls := .type "tuple", data := .seq vs.toArray }).push (excNew C hh.objs.size), gn, dr, tk, os⟩ := ⟨rfl, kp⟩
  have zz : ((hh.push { cls := .type "tuple", data := .seq vs.toArray }).push (excNew C hh.objs.size)).objs.size = hh.objs.size + 2 := by rw [Heap.size_push, Heap.size_push]
  refine exc_make PySem.F.excBase_Exception o2 o4 o5 (K _ _ o1) (looks_findIn K M.ini) (fun self => bind_fn K self M.fn) (by rw [hv.length]; rw [sizeLine_eq]; omega) ?_
  have hx : ((hh.push { cls := .type "tuple", data := .seq vs.toArray }).push (excNew C hh.objs.size)).get? (hh.objs.size + 1) = some (excNew C hh.objs.size) := by
    have := Heap.get?_push_size (hh.push { cls := .type "tuple", data := .seq vs.toArray }) (o := excNew C hh.objs.size) rfl
    rwa [Heap.size_push] at this
  have R1 : Rep0 g ((hh.push { cls := .type "tuple", data := .seq vs.toArray }).push (excNew C hh.objs.size)) (upd H (hh.objs.size + 1) (.exc0 C)) X := by
    refine ⟨fun b o e => hk b o (R0.keep b o e), by rw [zz]; exact Nat.le_trans R0.size (Nat.le_add_right _ 2), fun b o e => ?_, fun b o e => ?_⟩
    · by_cases q : b = hh.objs.size + 1
      · subst q
        rw [upd_same] at e; cases e
        exact ⟨Nat.le_succ_of_le R0.size, _, _, hx, rfl, rfl, rfl, rfl, rfl, rfl⟩
      · rw [upd_ne q] at e
        exact ⟨(R0.obj b o e).1, ((R0.obj b o e).2.keep kp fun b' ob _ _ => hk b' ob).new f1⟩
    · have z := R0.ext b o e
      exact ⟨z.1.keep (hk b), (upd_ne (Nat.ne_of_lt (Nat.lt_succ_of_lt z.1.lt))).trans z.2.1, z.2.2⟩
  refine h (hh.objs.size + 1) f1 _ _ X _ (.ref (hh.objs.size + 1) :: vs) ⟨?_, ?_, ok.hand⟩ ?_ (.cons (.ref _) (hv.mono kp)) R1 (fun v d s' H' st' R' hv' hk => ?_) fun v d s' H' st' R' hv' hk => ?_
  · rw [depth_under_kw]; have := ok.depth; omega
  · show A.units + 1 + 40 * n ≤ 9000; have := ok.units; omega
  · obtain ⟨l, h1, h2⟩ := sk; exact ⟨l, h1, h2⟩
  · obtain ⟨rfl, hk⟩ := hk
    cases hv'
    exact ⟨rfl, q _ _ _ _ (st.trans st') R' (.ref _) hk⟩
  · exact e _ _ _ _ (st.trans st') R' hv' hk
end
end Mine
end

section
open PySem PySem.W PyProof.Rows PySem.Calls
set_option Elab.async false
set_option genSizeOf false
set_option linter.unusedVariables false
set_option maxRecDepth 100000
namespace Mine
section
variable {prog : Program} {w : World} {A : Around} {E : Value → Shared → Prop} {s : Shared}
theorem tupEndH {it t b : Addr} {i : Nat} {items vb : Array Value} {ob : Obj} {Q : Option Value → Shared → Prop} (hh : A.handled = some (.ref b)) (hb : s.heap.get? b = some ob) (hbd : ob.data = .fields vb) (hb2 : vb[2]? = some .none) (hbi : b ≠ it)
    (hit : s.heap.IsTupleIter it t i) (ht : s.heap.IsTuple t items) (hx : items[i]? = none) (hQ : ∀ h', Heap.ExtBut it s.heap h' → Q none { s with heap := h' }) : wpAny (model prog w) A (pyNext (.ref it)) Q E s := by
  refine absG fun G₀ hG₀ => ?_
  obtain ⟨o, ho, hc, hd⟩ := id hit
  refine hG₀ ?_
  refine absG fun G₀ hG₀ => ?_
  obtain ⟨ol, hol, _, nl, hdl⟩ := ht
  refine hG₀ ?_
  unfold pyNext
  refine wpAny_bind (wpAny_attempt (wpAny_callSpecial?_slot (name := Str.ofString "__next__") hit.typeIs F.slot_tuple_iterator_next
    (wpAny_call_entry F.slot_tuple_iterator_next hit.typeIs F.entry_tuple_iterator_next ?_ (F.args_tuple_iterator_next_1 _))))
  show wpAny _ _ (field (.ref it) 0 >>= _) _ _ s
  refine wpAny_bind (wpAny_field ho hd (x := .ref t) rfl ?_)
  show wpAny _ _ (if (Value.ref t == Value.none) = true then _ else _) _ _ s
  rw [if_neg (show ¬ ((Value.ref t == Value.none) = true) from Bool.false_ne_true)]
  show wpAny _ _ (field (.ref it) 1 >>= _) _ _ s
  refine wpAny_bind (wpAny_field ho hd (x := .int i 0) rfl ?_)
  show wpAny _ _ (seqItems? (.ref t) >>= _) _ _ s
  refine wpAny_bind (wpAny_seqItems hol hdl ?_)
  simp only [Int.toNat_natCast, hx]
  refine wpAny_bind (wpAny_rule (wpAny_bind (wpAny_setField ho hd (by simp) ?_)))
  show wpAny _ _ (newExc (.type "StopIteration") [] >>= _) _ _ _
  refine wpAny_bind ?_
  simp only [newExc, newTuple]
  refine wpAny_bind (wpAny_newObj_type ?_ (by size_fits))
  refine wpAny_bind (m := firstArgMember _ _) (wpAny_of_eq (a := Value.none) (by first | rfl | (simp only [firstArgMember]; rfl)) ?_)
  refine wpAny_newObj_type ?_ (by size_fits)
  generalize hu : s.heap.update it _ = h1
  have b1 : h1.get? b = some ob := by rw [← hu]; exact (Heap.get?_update_other _ _ (Ne.symm hbi)).trans hb
  have x1 : Heap.ExtBut it s.heap h1 := by rw [← hu]; exact (Heap.SameBut.update ..).extBut
  simp only [raiseNew]
  refine wpAny_bind (wpAny_handled ?_)
  rw [show A.in1.handled = some (.ref b) from hh]
  dsimp only
  generalize hp : h1.push { cls := Value.type "tuple", data := Data.seq #[] } = h2
  have b2 : h2.get? b = some ob := by rw [← hp]; exact Heap.get?_push_of_some _ b1
  have x2 : Heap.ExtBut it s.heap h2 := by rw [← hp]; exact x1.push _
  have lt : b ≠ h2.objs.size := Nat.ne_of_lt (Heap.lt_size b2)
  rw [if_pos (by simp; exact lt)]
  generalize ho3 : ({ cls := Value.type "StopIteration", data := Data.fields (#[Value.ref h1.objs.size, Value.none, Value.none, Value.none, Value.bool false, Value.none] ++ ownMembersOf (Value.type "StopIteration") []) } : Obj) = o3
  have d3 : o3.data = Data.fields (#[Value.ref h1.objs.size, Value.none, Value.none, Value.none, Value.bool false, Value.none] ++ ownMembersOf (Value.type "StopIteration") []) := by rw [← ho3]
  have c3 : o3.cls = .type "StopIteration" := by rw [← ho3]
  have b3 : (h2.push o3).get? b = some ob := Heap.get?_push_of_some _ b2
  have e3 : (h2.push o3).get? h2.objs.size = some o3 := Heap.get?_push_size _ (by rw [← ho3]; rfl)
  have x3 : Heap.ExtBut it s.heap (h2.push o3) := x2.push _
  refine wpAny_bind (wpAny_holding (wpAny_runValue (codeAny_builtin entry_unchain ?_)))
  unfold Builtin.«proto.unchain»
  dsimp only
  refine wpAny_bind (wpAny_field b3 hbd hb2 ?_)
  rw [if_pos (by rfl)]
  refine wpAny_pure ?_
  refine wpAny_bind ?_
  show wpAny _ _ (setField (.ref h2.objs.size) 2 (.ref b)) _ _ _
  refine wpAny_setField e3 d3 (by simp; lia) (wpAny_throw ?_)
  refine wpAny_bind (wpAny_isInstance (T := "StopIteration") (b := true) ⟨_, Heap.get?_update_self _ e3 (Obj.isFreed_of_fields (Obj.data_mapFields d3 _)), (Obj.cls_mapFields ..).trans c3⟩ isSubtype_stop ?_)
  exact wpAny_pure (hQ _ fun b' o' q z => (Heap.get?_update_other _ _ (Nat.ne_of_gt (by
    obtain ⟨z1⟩ : Nonempty (h2.get? b' = some o') := ⟨x2 b' o' q z⟩
    exact Heap.lt_size z1))).trans (x3 b' o' q z))
theorem tupUnpackH {t b : Addr} {items vb : Array Value} {ob : Obj} {Q : List Value → Shared → Prop} (hh : A.handled = some (.ref b)) (hb : s.heap.get? b = some ob) (hbd : ob.data = .fields vb) (hb2 : vb[2]? = some .none) (ht : s.heap.IsTuple t items)
    (hQ : ∀ h', Heap.ExtBut s.heap.objs.size s.heap h' → Q items.toList { s with heap := h' }) : wpAny (model prog w) A (unpackItems (.ref t) items.size none) Q E s := by
  have hlt : t ≠ s.heap.objs.size := by obtain ⟨o, ho, _⟩ := ht; exact Nat.ne_of_lt (Heap.lt_size ho)
  have hbl : b ≠ s.heap.objs.size := Nat.ne_of_lt (Heap.lt_size hb)
  unfold unpackItems
  refine wpAny_bind ?_
  unfold notIterableAtAll
  refine wpAny_bind (wpAny_specialOf ht.typeIs F.slot_tuple_iter.lookup ?_)
  refine wpAny_pure ?_
  simp only [Bool.false_eq_true, if_false]
  refine wpAny_bind (wpAny_holding (wpAny_pyIter_tuple ht ?_))
  refine wpAny_bind (wpAny_holding (wpAny_draw_tuple hlt items.size 0 _ _ ⟨_, Heap.get?_push_size _ rfl, rfl, rfl⟩ (ht.push _) (by lia) fun h₁ hit₁ hs₁ => ?_))
  have hall : List.take items.size (List.drop 0 items.toList) = items.toList := by
    rw [List.drop_zero]; exact List.take_of_length_le (by simp)
  rw [hall, if_neg (by simp)]
  have k1 : ∀ b o, b ≠ s.heap.objs.size → s.heap.get? b = some o → h₁.get? b = some o := fun b o hb e => hs₁.extBut b o hb (Heap.get?_push_of_some _ e)
  have ht₁ : h₁.IsTuple t items := (ht.push _).extBut hs₁.extBut hlt
  refine wpAny_bind (wpAny_holding (tupEndH (s := { s with heap := h₁ }) hh (k1 _ _ hbl hb) hbd hb2 hbl hit₁ ht₁ (by simp) fun h₂ he₂ => ?_))
  simp only [Option.isSome_none, Bool.false_eq_true, if_false]
  exact wpAny_pure (hQ h₂ fun b o hb e => he₂ b o hb (k1 b o hb e))
theorem tupAssignH {env : Env} {elts : List Expr} {x1 : Nat} {pos : Pos} {t b : Addr} {items vb : Array Value} {ob : Obj} {Q : Unit → Shared → Prop} (hh : A.handled = some (.ref b)) (hb : s.heap.get? b = some ob) (hbd : ob.data = .fields vb) (hb2 : vb[2]? = some .none)
    (ht : s.heap.IsTuple t items) (hn : (assignEach elts env).length = items.size) (hstar : (assignEach elts env).findIdx? (·.1) = none)
    (h : ∀ h', Heap.ExtBut s.heap.objs.size s.heap h' → wpAny (model prog w) A (assignInOrder ((assignEach elts env).map (·.2)) items.toList) Q E { s with heap := h' }) :
    wpAny (model prog w) A (assign (.Tuple elts x1 pos) env (.ref t)) Q E s := by
  rw [arm_assign_Tuple]
  refine wpAny_bind (wpAny_standAt ?_)
  unfold unpack
  rw [hn, hstar]
  exact wpAny_bind (wpAny_holding (tupUnpackH hh hb hbd hb2 ht h))
end
section
variable {KF : Params → Frag} {g : Gd KF} {c : Cx} {ρ : Loc} {H : AH} {X : XH}
theorem As.tupH {elts : List Expr} {x1 : Nat} {pos : Pos} {ds : List AV} {k : Loc → AH → Prop} {b C d : Addr} {T : Option Addr} {fs : List (Str × AV)} (hh : c.A.handled = some (.ref b)) (hb : H b = some (.exc C d T none fs)) (hl : elts.length = ds.length) (h : AsL g c elts ds ρ H k)
    (hm : assignEach elts c.env = elts.map (fun e => (false, assign e c.env)) := by rfl) : As g c (.Tuple elts x1 pos) (.tup ds) ρ H k := fun s X Q E vv R hv q => by
  refine absG fun G₀ hG₀ => ?_
  obtain ⟨a, vs, rfl, h1, h2⟩ := VRs.isTup hv
  refine hG₀ ?_
  have hm2 : (assignEach elts c.env).map (·.2) = elts.map fun e => assign e c.env := by rw [hm, List.map_map]; rfl
  refine absG fun G₀ hG₀ => ?_
  obtain ⟨o, ho, hc, n, hd⟩ := h1
  refine hG₀ ?_
  refine absG fun G₀ hG₀ => ?_
  obtain ⟨oe, vb, w1, w2, w3, w4, w5, _⟩ := R.excAt hb
  refine hG₀ ?_
  refine tupAssignH hh w1 w2 w5 (items := vs.toArray) ⟨o, ho, hc, n, hd⟩ (by rw [hm, List.length_map, List.size_toArray, h2.length, hl]) (by
    rw [hm, List.findIdx?_map]
    exact List.findIdx?_eq_none_iff.mpr fun _ _ => rfl) fun h' e => ?_
  obtain ⟨R', kp⟩ := R.ext1 e
  rw [hm2]
  exact AsL.run h _ X Q E R' (h2.mono kp) fun s₂ ρ₂ H₂ st₂ => q s₂ ρ₂ H₂ ((Step.heap' s (h := h') (t := s.toks) kp).trans st₂)
end
end Mine
end

section
open PySem PySem.W PyProof.Rows PySem.Calls
set_option Elab.async false
set_option genSizeOf false
set_option linter.unusedVariables false
set_option maxRecDepth 100000
namespace Mine
noncomputable def CalH {KF : Params → Frag} (g : Gd KF) (n : Nat) (hd : Option Value) (f : Addr) (as : List AV) (H : AH) (k : AV → AH → Prop) (x : AV → AH → Prop) : Prop :=
  ∀ (A : Around) (s : Shared) (X : XH) (R : Result → Shared → Prop) (vs : List Value), Ok n false A → A.handled = hd → StkA g.hb.objs.size A X → VRs s.heap vs as → Rep0 g s.heap H X →
    (∀ v d s' H', Step s s' → Rep0 g s'.heap H' X → VR s'.heap v d → k d H' → R (.ok (.ret v)) s') →
    (∀ e d s' H', Step s s' → Rep0 g s'.heap H' X → VR s'.heap e d → x d H' → R (.error e) s') →
    codeAny (model g.prog g.w) A (.call (.ref f) ⟨vs, []⟩) R s
theorem CalH.enter0 {KF : Params → Frag} {g : Gd KF} {n : Nat} {hd : Option Value} {f : Addr} {as as' : List AV} {H : AH} {k : AV → AH → Prop} {x : AV → AH → Prop} {name qual : Str} {params : Arguments} {body : List Stmt} {scope : Scope} {dV kV doc pm cdv ct : Value} {an : Option Addr} (xs : List Str)
    (F : FnF g f (fnOf name qual params body scope dV kV doc pm an cdv ct))
    (hbind : ∀ (s : Shared) (vs : List Value), VRs s.heap vs as → (KF g.w.params).In s.heap → ∃ ws, VRs s.heap ws as' ∧ BindsTo s (fnOf name qual params body scope dV kV doc pm an cdv ct) ⟨vs, []⟩ (xs.zip ws))
    (hn : xs.Nodup) (hloc : ∀ y ∈ xs, scope.names.lookup y = some .local) (hcell : ∀ y ∈ scope.names, y.2 ≠ .cell)
    (h : ∀ (A : Around) (L : Addr), Ok n false A → A.handled = hd → Exs g ⟨A, envOf qual scope L f cdv⟩ body (locOf xs as') H (fun fl _ H' => k (retOf fl) H') noX)
    (hco : scope.isCoroutine = false := by kernel_rfl) (hgen : scope.isGenerator = false := by rfl) (hk : scope.kind = .function := by rfl) : CalH g (n + 1) hd f as H k x := by
  intro A s X R vs ok hhd sk hv R0 q e
  obtain ⟨oc, od, osl, ho⟩ := F.ex
  have K := g.X.keeps R0.keep
  obtain ⟨ws, hws, hb⟩ := hbind s vs hv K
  refine codeAny_call_def (fd := fnOf name qual params body scope dV kV doc pm an cdv ct) (body := body) (by have := ok.depth; show A.depth < 1000; lia) (K _ _ ho) rfl (g.T.nolimit.keeps R0.keep) (codeRec_of K F.cd) rfl hb hcell (fun y hy => ?_) (fun h₁ hns hk₁ => ?_) hco hgen hk
  · exact hloc y.1 (List.of_mem_zip (a := y.1) (b := y.2) hy).1
  · have kp : TupKeep s.heap h₁ := .of_keep hk₁
    have zN := zip_keys_nodup hn ws
    have zL : s.heap.objs.size < h₁.objs.size := hns.lt
    have R1 : Rep g ⟨A.deeper (envOf qual scope s.heap.objs.size f cdv), envOf qual scope s.heap.objs.size f cdv⟩ h₁ (locOf xs as') H X := by
      refine ⟨⟨fun b o e => hk₁ b o (R0.keep b o e), Nat.le_trans R0.size (Nat.le_of_lt zL), fun b o e => ⟨(R0.obj b o e).1, (R0.obj b o e).2.keep kp fun b' ob _ _ => hk₁ b' ob⟩, fun b o e => ⟨(R0.ext b o e).1.keep (hk₁ b), (R0.ext b o e).2⟩⟩,
        ⟨⟨_, hns, fun y d e => ?_⟩, ⟨R0.size, R0.fresh, ?_⟩, fun y c e => (nomatch e), fun y y' c e => (nomatch e), ?_⟩⟩
      rotate_left 2
      · exact sk.deeper R0.size hk
      · show ∃ v, _ ∧ _
        obtain ⟨v, h1, h2⟩ := locOf_zip hws e
        exact ⟨v, (lookup_reverse zN y).trans h1, h2.mono kp⟩
      · show X s.heap.objs.size = none
        cases q' : X s.heap.objs.size with
        | none => rfl
        | some o => exact absurd (R0.ext _ o q').1.lt (Nat.lt_irrefl _)
    have ok' : Ok n false (A.deeper (envOf qual scope s.heap.objs.size f cdv)) := ⟨by show A.depth + 1 + 10 * n ≤ 900; have := ok.depth; lia, by show A.units + 3 + 40 * n ≤ 9000; have := ok.units; lia, ok.hand⟩
    have st₁ : Step s { s with heap := h₁, toks := s.toks + (xs.zip ws).length } := Step.heap s kp (Nat.le_of_lt zL)
    refine h (A.deeper (envOf qual scope s.heap.objs.size f cdv)) s.heap.objs.size ok' hhd _ X _ _ R1 (fun fl fl' s' ρ' H' st R' hf hk' => ?_) fun _ _ _ _ _ _ _ _ h => h.elim
    refine q _ _ _ _ (st₁.trans st) R'.o ?_ hk'
    cases hf <;> first | exact .none | assumption
theorem CalH.enter {KF : Params → Frag} {g : Gd KF} {n : Nat} {hd : Option Value} {f : Addr} {as as' : List AV} {H : AH} {k : AV → AH → Prop} {x : AV → AH → Prop} {name qual : Str} {params : Arguments} {body : List Stmt} {scope : Scope} {dV kV doc pm cdv ct : Value} {an : Option Addr} (xs : List Str)
    (F : FnF g f (fnOf name qual params body scope dV kV doc pm an cdv ct))
    (hbind : ∀ (s : Shared) (vs : List Value), VRs s.heap vs as → (KF g.w.params).In s.heap → ∃ ws, VRs s.heap ws as' ∧ BindsTo s (fnOf name qual params body scope dV kV doc pm an cdv ct) ⟨vs, []⟩ (xs.zip ws))
    (hok : okScope xs scope = true)
    (h : ∀ (A : Around) (L : Addr), Ok n false A → A.handled = hd → Exs g ⟨A, envOf qual scope L f cdv⟩ body (locOf xs as') H (fun fl _ H' => k (retOf fl) H') noX) : CalH g (n + 1) hd f as H k x := by
  unfold okScope at hok
  rw [Bool.and_eq_true, Bool.and_eq_true, Bool.and_eq_true, Bool.and_eq_true, Bool.and_eq_true, Bool.not_eq_true', Bool.not_eq_true', decide_eq_true_eq, decide_eq_true_eq, decide_eq_true_eq, decide_eq_true_eq] at hok
  exact CalH.enter0 xs F hbind hok.2.2.2.1 hok.2.2.2.2.1 hok.2.2.2.2.2 h hok.1 hok.2.1 hok.2.2.1
section
variable {KF : Params → Frag} {g : Gd KF} {c : Cx} {ρ : Loc} {H : AH} {X : XH} {k x : AV → Loc → AH → Prop}
theorem CalH.at {n : Nat} {hd : Option Value} {f : Addr} {as : List AV} (h : CalH g n hd f as H (fun v H' => k v ρ H') (fun v H' => x v ρ H')) (ok : Ok n false c.A) (hh : c.A.handled = hd) : OpL g c VR (fun vs => call (.ref f) vs) as ρ H k x := fun s X Q E vs R hv q e => by
  refine wpAny_call (h c.A s _ _ vs ok hh R.stk hv R.freeze (fun v d s' H' st R' hv' hk => ?_) fun v d s' H' st R' hv' hk => ?_)
  · exact q _ _ _ _ _ st (R.thaw st.tup R') hv' hk
  · exact e _ _ _ _ _ st (R.thaw st.tup R') hv' hk
end
end Mine
end

section
open PySem PySem.W PyProof.Rows PySem.Calls
set_option Elab.async false
set_option genSizeOf false
set_option linter.unusedVariables false
set_option maxRecDepth 100000
namespace Mine
section
variable {KF : Params → Frag} {g : Gd KF} {c : Cx} {ρ : Loc} {H : AH} {X : XH} {k x : AV → Loc → AH → Prop}
theorem OpL.find {u v : Str} {i : Int} (e : (Txt.find u v : Int) = i) (h : k (.int i) ρ H) : OpL g c VR (CallV (.builtin "str.find")) [.str u, .str v] ρ H k x := fun s X Q E vs R hv q er => by
  obtain ⟨_, _, rfl, z, z1⟩ := hv.inv2
  obtain ⟨t, rfl⟩ := z.strI
  obtain ⟨t', rfl⟩ := z1.strI
  show wpAny _ _ (PySem.call (.builtin "str.find") [.str u t, .str v t']) _ _ _
  exact SC.find (by rw [e]; exact q _ _ _ _ _ (Step.tok s _) R (.int _ _) h)
theorem Op2.sub {a b : Int} (h : k (.int (a - b)) ρ H) : Op2 g c VR (binaryOp .Sub) (.int a) (.int b) ρ H k x := .of (fun s va vb Q E ha hb q => by obtain ⟨_, rfl⟩ := ha.intI; obtain ⟨_, rfl⟩ := hb.intI; exact sub_int (q _ _ (.int _ _))) h
theorem Ex.brk {pos : Pos} {k : AF → Loc → AH → Prop} (h : k .brk ρ H) : Ex g c (.Break pos) ρ H k x := fun s X Q E R q e => wpAny_Break (q _ _ _ _ _ (Step.refl s) R .brk h)
theorem then_brk {KF : Params → Frag} {g : Gd KF} {c : Cx} {rest : List Stmt} {k : AF → Loc → AH → Prop} {x : AV → Loc → AH → Prop} {ρ : Loc} {H : AH} (h : k .brk ρ H) : Then g c rest k x .brk ρ H := h
theorem turn_brk {KF : Params → Frag} {g : Gd KF} {c : Cx} {t : Expr} {b : List Stmt} {k : AF → Loc → AH → Prop} {x : AV → Loc → AH → Prop} {ρ : Loc} {H : AH} (h : k .next ρ H) : Turn g c t b k x .brk ρ H := h
end
end Mine
end

section
open PySem PySem.W PyProof.Rows PySem.Calls
set_option Elab.async false
set_option genSizeOf false
set_option linter.unusedVariables false
set_option maxRecDepth 100000
namespace Mine
section
variable {KF : Params → Frag} {g : Gd KF}
theorem Cal.enterY {n : Nat} {b : Bool} {f : Addr} {as as' : List AV} {H : AH} {k : AV → AH → Prop} {x : AV → AH → Prop} {name qual : Str} {params : Arguments} {body : List Stmt} {scope : Scope} {dV kV doc pm cdv ct : Value} {an : Option Addr} (xs : List Str)
    (F : FnF g f (fnOf name qual params body scope dV kV doc pm an cdv ct))
    (hbind : ∀ (s : Shared) (vs : List Value), VRs s.heap vs as → (KF g.w.params).In s.heap → ∃ ws, VRs s.heap ws as' ∧ BindsTo s (fnOf name qual params body scope dV kV doc pm an cdv ct) ⟨vs, []⟩ (xs.zip ws))
    (hok : okScope xs scope = true)
    (h : ∀ (A : Around) (L : Addr), Ok n b A → Exs g ⟨A, envOf qual scope L f cdv⟩ body (locOf xs as') H (fun fl _ H' => k (retOf fl) H') (fun v _ H' => Cl (x v) v H')) : Cal g (n + 1) b f as H k x := by
  unfold okScope at hok
  rw [Bool.and_eq_true, Bool.and_eq_true, Bool.and_eq_true, Bool.and_eq_true, Bool.and_eq_true, Bool.not_eq_true', Bool.not_eq_true', decide_eq_true_eq, decide_eq_true_eq, decide_eq_true_eq, decide_eq_true_eq] at hok
  exact Cal.enterX xs F hbind hok.2.2.2.1 hok.2.2.2.2.1 hok.2.2.2.2.2 h hok.1 hok.2.1 hok.2.2.1
end
end Mine
end

section
open PySem PySem.W PyProof.Rows PySem.Calls
set_option Elab.async false
set_option genSizeOf false
set_option linter.unusedVariables false
set_option maxRecDepth 100000
namespace Mine
section
variable {prog : Program} {w : World} {A : Around} {E : Value → Shared → Prop} {s : Shared}
end
section
variable {KF : Params → Frag} {g : Gd KF} {c : Cx} {ρ : Loc} {H : AH} {X : XH} {k x : AV → Loc → AH → Prop}
end
end Mine
end

section
open PySem PySem.W PyProof.Rows PySem.Calls
set_option Elab.async false
set_option genSizeOf false
set_option linter.unusedVariables false
set_option maxRecDepth 100000
namespace Mine
theorem Ok.mark {n : Nat} {b : Bool} {A : Around} {v : Option Value} (h : Ok n b A) : Ok n false (A.mark v) := ⟨h.depth, h.units, fun q => (nomatch q)⟩
section
variable {KF : Params → Frag} {g : Gd KF} {c : Cx} {ρ : Loc} {H : AH} {X : XH} {k x : AV → Loc → AH → Prop}
theorem Op2.isNotN {d : AV} (h : k (.bool (!isNone d)) ρ H) : Op2 g c VR (compareOp .IsNot) d .none ρ H k x := .of (fun s va vb Q E ha hb q => by obtain rfl := hb.noneI; exact isNot_none (q _ s.toks (by rw [ha.isNone]; exact .bool _))) h
theorem Op2.inDI {a : Addr} {xs : List (Int × AV)} {u : Int} (hH : H a = some (.dictI xs)) (h : k (.bool (getA xs u).isSome) ρ H) : Op2 g c VR (compareOp .In) (.int u) (.ref a) ρ H k x := fun s X Q E va vb R ha hb q e => by
  cases hb.refInv; obtain ⟨_, rfl⟩ := ha.intI
  obtain ⟨ys, h1, h2⟩ := R.dI hH
  exact wpAny_in_of (knd := intKind g.prog g.w) isInt_key (R.notSys hH) h1.mapOf (q _ _ _ _ _ (Step.tok s _) R (by rw [(h2.get u).isSome]; exact .bool _) h)
end
end Mine
end

section
open PySem PySem.W PyProof.Rows PySem.Calls
set_option Elab.async false
set_option genSizeOf false
set_option linter.unusedVariables false
set_option maxRecDepth 100000
namespace Mine
section
variable {KF : Params → Frag} {g : Gd KF} {c : Cx} {ρ : Loc} {H : AH} {X : XH} {k x : AV → Loc → AH → Prop}
theorem As.listT {elts : List Expr} {x1 : Nat} {pos : Pos} {l : Addr} {ds : List AV} {k : Loc → AH → Prop} (hh : c.A.handled = none) (hH : H l = some (.list ds)) (hl : elts.length = ds.length) (h : AsL g c elts ds ρ H k) (hm : assignEach elts c.env = elts.map (fun e => (false, assign e c.env)) := by rfl) :
    As g c (.Tuple elts x1 pos) (.ref l) ρ H k := fun s X Q E vv R hv q => by
  cases hv.refInv
  obtain ⟨its, n, h1, h2⟩ := R.list hH
  have hm2 : (assignEach elts c.env).map (·.2) = elts.map fun e => assign e c.env := by rw [hm, List.map_map]; rfl
  have hn : (assignEach elts c.env).length = its.toArray.size := by rw [hm, List.length_map, List.size_toArray, h2.length, hl]
  have hs : (assignEach elts c.env).findIdx? (·.1) = none := by
    rw [hm, List.findIdx?_map]
    exact List.findIdx?_eq_none_iff.mpr fun _ _ => rfl
  rw [arm_assign_Tuple]
  refine wpAny_bind (wpAny_standAt ?_)
  unfold unpack
  rw [hn, hs]
  refine wpAny_bind (wpAny_holding (kun_itemsOf hh (isList_of h1) fun h' e => ?_))
  obtain ⟨R', kp⟩ := R.ext1 e
  rw [hm2]
  exact AsL.run h _ X Q E R' (h2.mono kp) fun s₂ ρ₂ H₂ st₂ => q s₂ ρ₂ H₂ ((Step.heap' s (h := h') (t := s.toks) kp).trans st₂)
theorem OpL.lenS {u : Str} (hz : u.length < 2 ^ 60) (h : k (.int u.length) ρ H) : OpL g c VR (CallV (.builtin "len")) [.str u] ρ H k x := .of (fun s vs Q E hv q => by
  obtain ⟨_, rfl, z⟩ := hv.inv1
  obtain ⟨t, rfl⟩ := z.strI
  exact len_str (by lia) (q _ _ (.int _ _))) h
theorem Op2.iaddS {u v : Str} (hz : u.length + v.length ≤ sizeLine) (h : k (.str (u ++ v)) ρ H) : Op2 g c VR (inplaceOp .Add) (.str u) (.str v) ρ H k x := .of (fun s va vb Q E ha hb q => by
  obtain ⟨_, rfl⟩ := ha.strI
  obtain ⟨_, rfl⟩ := hb.strI
  exact SB.iadd (fun t' k => q _ _ (.str _ _)) hz) h
theorem Ev.sliceS {value e : Expr} {p pos : Pos} (h : Ev g c value ρ H (fun o ρ₁ H₁ => Ev g c e ρ₁ H₁ (fun v ρ₂ H₂ => ∃ i u, v = .int i ∧ o = .str u ∧ u.length ≤ sizeLine ∧ k (.str (Txt.slice u none (some i))) ρ₂ H₂) x) x) : Ev g c (.Subscript value (.Slice none (some e) none p) pos) ρ H k x := fun s X Q E R q er =>
  Subscript_ (h s X _ _ R (fun o od s₁ ρ₁ H₁ st₁ R₁ ho h₁ => wpAny_Slice (by
    rw [evalPart_none]
    refine wpAny_pure ?_
    rw [evalPart_some]
    refine h₁ s₁ X _ _ R₁ (fun vu d s₂ ρ₂ H₂ st₂ R₂ hu h₂ => ?_) (er.step st₁)
    obtain ⟨i, u, rfl, rfl, hz, hk⟩ := h₂
    obtain ⟨tu, rfl⟩ := hu.intI
    obtain ⟨t, rfl⟩ := ho.strI
    refine wpAny_pure ?_
    refine tail_any (s := { s₂ with heap := s₂.heap.push _ }) (typeIs_str _ _ _) F.slot_str_getitem.lookup (wpAny_getItem_str_slice (l := none) (u := some (i, tu)) (st := none) ⟨_, Heap.get?_push_size _ rfl, rfl, rfl⟩ rfl (post_val_or_str ⟨Nat.le_trans (Txt.slice_le u none (some i)) hz, fun t' tk => ?_⟩)) rfl
    have kp : TupKeep s₂.heap (s₂.heap.push { cls := .type "slice", data := .fields #[.none, .int i tu, .none] }) := .of_keep fun b o e => Heap.get?_push_of_some _ e
    exact q _ _ { s₂ with heap := _, toks := _ } _ _ ((st₁.trans st₂).trans (Step.heap' s₂ (t := tk) kp)) (R₂.push _) (.str _ _) hk)) er)
theorem split_raw {prog : Program} {w : World} {A : Around} {E : Value → Shared → Prop} {s : Shared} {x y : Str} {t u : Tok} {Q : Value → Shared → Prop} (hy : (y.length == 0) = false)
    (hq : ∀ (l : List (Str × Tok)) tk, l.map (·.1) = Txt.split x y → Q (.ref s.heap.objs.size) { s with heap := s.heap.push { cls := .type "list", data := .seq (strValues l).toArray }, toks := tk })
    (hsz : x.length ≤ sizeLine) (hsz2 : (Builtin.Str.partsBetween x (Builtin.Str.occurrences x y 0 x.length (x.length + 1)) y.length).length ≤ sizeLine) :
    wpAny (model prog w) A (call (.builtin "str.split") [.str x t, .str y u]) Q E s := by
  cases h1 : (decide (x.length < y.length) || decide (Builtin.Str.strKind x < Builtin.Str.strKind y))
  · cases hf : (Builtin.Str.occurrences x y 0 x.length (x.length + 1)).isEmpty
    · refine call_meets F.slot_str_split (typeIs_str _ _ _) F.entry_str_split (F.args_str_split_2 _ _) (meets_str_split_sep x y t u h1 hy hf hsz hsz2) ?_
      show wants Q E _ { s with toks := _, heap := s.heap.push { cls := .type "list", data := .seq (strsFrom s.toks (Builtin.Str.partsBetween x (Builtin.Str.occurrences x y 0 x.length (x.length + 1)) y.length)).toArray } }
      rw [strsFrom_eq]
      exact hq (numbered s.toks _) _ ((numbered_texts _ _).trans ((if_neg (ne_true_of_eq_false h1)).trans (if_neg (ne_true_of_eq_false hf))).symm)
    · exact call_meets F.slot_str_split (typeIs_str _ _ _) F.entry_str_split (F.args_str_split_2 _ _) (meets_str_split_not_found x y t u h1 hy hf)
        (hq [(x, t)] _ ((if_neg (ne_true_of_eq_false h1)).trans (if_pos hf)).symm)
  · exact call_meets F.slot_str_split (typeIs_str _ _ _) F.entry_str_split (F.args_str_split_2 _ _) (meets_str_split_cannot_occur x y t u h1)
      (hq [(x, t)] _ (if_pos h1).symm)
theorem strVRs {h : Heap} : ∀ (l : List (Str × Tok)), VRs h (strValues l) ((l.map (·.1)).map .str)
  | [] => .nil
  | (u, t) :: l => .cons (.str u t) (strVRs l)
theorem OpL.split {u v : Str} (hy : (v.length == 0) = false) (hz : u.length ≤ sizeLine) (hz2 : (Builtin.Str.partsBetween u (Builtin.Str.occurrences u v 0 u.length (u.length + 1)) v.length).length ≤ sizeLine) (h : ∀ l, H l = none → k (.ref l) ρ (upd H l (.list ((Txt.split u v).map .str)))) : OpL g c VR (CallV (.builtin "str.split")) [.str u, .str v] ρ H k x := fun s X Q E vs R hv q er => by
  obtain ⟨_, _, rfl, z, z1⟩ := hv.inv2
  obtain ⟨t, rfl⟩ := z.strI
  obtain ⟨t', rfl⟩ := z1.strI
  show wpAny _ _ (PySem.call (.builtin "str.split") [.str u t, .str v t']) _ _ _
  refine split_raw hy (fun l tk e => ?_) hz hz2
  have kp : TupKeep s.heap (s.heap.push { cls := .type "list", data := .seq (strValues l).toArray }) := .of_keep fun b o e => Heap.get?_push_of_some _ e
  refine q _ _ { s with heap := _, toks := _ } _ _ (Step.heap' s (t := tk) kp) (R.alloc (o' := .list ((Txt.split u v).map .str)) ⟨strValues l, 0, Heap.get?_push_size _ rfl, ?_⟩) (.ref _) (h _ R.o.fresh)
  rw [← e]
  exact strVRs l
theorem pick_from {us : List AV} {a : Nat} : ∀ (h : Heap) its, VRs h its us → ∃ its', slicePick its.toArray (some (a : Int)) none none = its'.toArray ∧ VRs h its' (us.drop a) := fun h its z =>
  ⟨_, slicePick_from' its.toArray a, by rw [List.toList_toArray]; exact z.drop a⟩
end
end Mine
end

section
open PySem PySem.W PyProof.Rows PySem.Calls
set_option Elab.async false
set_option genSizeOf false
set_option linter.unusedVariables false
set_option maxRecDepth 100000
namespace Mine
theorem stars_no (pos : Pos) (env : Env) : ∀ es : List Expr, es.all notStar = true → (backTo pos (starEach es env)).any (·.1) = false ∧ (backTo pos (starEach es env)).all (!·.1) = true
  | [], _ => ⟨rfl, rfl⟩
  | e :: es, h => by
    rw [List.all_cons, Bool.and_eq_true] at h
    have ih := stars_no pos env es h.2
    rw [each_of h.1]
    exact ⟨by rw [show backTo pos ((false, eval e env) :: starEach es env) = (false, eval e env) :: backTo pos (starEach es env) from rfl, List.any_cons, ih.1]; rfl, by rw [show backTo pos ((false, eval e env) :: starEach es env) = (false, eval e env) :: backTo pos (starEach es env) from rfl, List.all_cons, ih.2]; rfl⟩
noncomputable def okLoc (sc : Scope) (y : Str) : Bool := decide (sc.kind = .function) && decide (sc.names.lookup y = some .local) && !(y == ("__debug__" : Str))
section
variable {KF : Params → Frag} {g : Gd KF} {ρ : Loc} {H : AH} {X : XH}
section
variable {A : Around} {qual : Str} {sc : Scope} {L f0 : Addr} {cd : Value} {k x : AV → Loc → AH → Prop} {y : Str}
theorem okLoc_un (h : okLoc sc y = true) : sc.kind = .function ∧ sc.names.lookup y = some .local ∧ (y == ("__debug__" : Str)) = false := by
  unfold okLoc at h
  rw [Bool.and_eq_true, Bool.and_eq_true, decide_eq_true_eq, decide_eq_true_eq, Bool.not_eq_true'] at h
  exact ⟨h.1.1, h.1.2, h.2⟩
theorem Exs.asg {e : Expr} {p pos : Pos} {rest : List Stmt} {kf : AF → Loc → AH → Prop} {x : AV → Loc → AH → Prop} (hs : okLoc sc y = true) (h : Ev g ⟨A, envOf qual sc L f0 cd⟩ e ρ H (fun v ρ₁ H₁ => Exs g ⟨A, envOf qual sc L f0 cd⟩ rest (setL ρ₁ y v) H₁ kf x) x)
    (hw : swapsWith e (some (.Name y p)) pos.line (envOf qual sc L f0 cd) = pure false := by kernel_rfl) : Exs g ⟨A, envOf qual sc L f0 cd⟩ (.Assign [.Name y p] e pos :: rest) ρ H kf x :=
  Exs.cons (Ex.assign (k := Then g _ rest kf x) (Tri.mono h (fun _ _ _ z => then_next z) fun _ _ _ z => z) ⟨(okLoc_un hs).1, .inl ⟨rfl, (okLoc_un hs).2.1⟩⟩ hw)
theorem As.nameQ {pos : Pos} {v : AV} {k : Loc → AH → Prop} (hs : okLoc sc y = true) (h : k (setL ρ y v) H) : As g ⟨A, envOf qual sc L f0 cd⟩ (.Name y pos) v ρ H k :=
  As.name h ⟨(okLoc_un hs).1, .inl ⟨rfl, (okLoc_un hs).2.1⟩⟩
theorem Ev.localQ {pos : Pos} {v : AV} (hv : ρ y = some v) (hs : okLoc sc y = true) (h : k v ρ H) : Ev g ⟨A, envOf qual sc L f0 cd⟩ (.Name y pos) ρ H k x :=
  Ev.local hv h rfl (okLoc_un hs).1 (okLoc_un hs).2.1 (okLoc_un hs).2.2
theorem Ev.attrL {a : Str} {p pos : Pos} {t C d : Addr} {fs : List (Str × AV)} {v : AV} (hv : ρ y = some (.ref t)) (hs : okLoc sc y = true) (hH : H t = some (.inst C d fs)) (hc : ClsF (KF g.w.params) C) (ha : findIn (KF g.w.params) (.ref C) a = some none) (hl : lookF fs a = some v) (hb : notBi v = true) (h : k v ρ H) :
    Ev g ⟨A, envOf qual sc L f0 cd⟩ (.Attribute (.Name y p) a pos) ρ H k x :=
  Ev.attr (Ev.localQ hv hs (Op1.getF hH hc ha hl hb h)) rfl
theorem Ev.idxL {i : Int} {n : Nat} {p p2 pos : Pos} {ds : List AV} {d : AV} (hv : ρ y = some (.tup ds)) (hs : okLoc sc y = true) (h0 : 0 ≤ i) (hz : i < 2 ^ 63) (hd : ds[i.toNat]? = some d) (h : k d ρ H) : Ev g ⟨A, envOf qual sc L f0 cd⟩ (.Subscript (.Name y p) (.Constant (.int i) n p2) pos) ρ H k x :=
  Ev.sub (Ev.localQ hv hs (Ev.cint (Op2.itemT h0 hz hd h)))
theorem Ev.methL {name : Str} {p apos pos : Pos} {es : List Expr} {t C d f : Addr} {fs : List (Str × AV)} (hv : ρ y = some (.ref t)) (hs : okLoc sc y = true) (hH : H t = some (.inst C d fs)) (hc : ClsF (KF g.w.params) C) (hf : findIn (KF g.w.params) (.ref C) name = some (some (.ref f))) (ht : typeIn (KF g.w.params) (.ref f) = some (.type "function")) (hl : lookF fs name = none) (hk : keepIn (KF g.w.params) (.ref f) = true)
    (hn : (es.all notStar && decide (es.length ≤ 20) && (apos.endLine == pos.line)) = true)
    (h : EvL g ⟨A, envOf qual sc L f0 cd⟩ pos es ρ H (fun vs ρ₁ H₁ => OpL g ⟨A, envOf qual sc L f0 cd⟩ VR (fun vs => PySem.call (.ref f) vs) ([.ref t] ++ vs) ρ₁ H₁ k x) x) : Ev g ⟨A, envOf qual sc L f0 cd⟩ (.Call (.Attribute (.Name y p) name apos) es [] pos) ρ H k x := by
  rw [Bool.and_eq_true, Bool.and_eq_true] at hn
  refine Ev.method (Ev.localQ hv hs (Meth.own hH hc hf ht hl (CW.own hk ?_ h))) rfl ?_ hn.2
  · exact (stars_no _ _ es hn.1.1).1
  · have h1 := (stars_no pos (envOf qual sc L f0 cd) es hn.1.1).2
    have h2 := of_decide_eq_true hn.1.2
    unfold methodCallForm
    rw [h1]
    show (true && true && decide (es.length + 0 + 0 < 30)) = true
    rw [decide_eq_true (by omega)]
    rfl
end
noncomputable def okGlob (sc : Scope) (y : Str) : Bool := decide (sc.kind = .function) && decide (sc.names.lookup y = some .globalImplicit) && !(y == ("__debug__" : Str))
section
variable {A : Around} {qual : Str} {sc : Scope} {L f0 : Addr} {cd : Value} {k x : AV → Loc → AH → Prop} {kb : Bool → Loc → AH → Prop} {y z : Str}
theorem okGlob_un (h : okGlob sc y = true) : sc.kind = .function ∧ sc.names.lookup y = some .globalImplicit ∧ (y == ("__debug__" : Str)) = false := by
  unfold okGlob at h
  rw [Bool.and_eq_true, Bool.and_eq_true, decide_eq_true_eq, decide_eq_true_eq, Bool.not_eq_true'] at h
  exact ⟨h.1.1, h.1.2, h.2⟩
theorem Ev.globalQ {pos : Pos} {v : Value} {d : AV} (e : nsIn (KF g.w.params) mainGlobals y = some (some v)) (hv : GV g v d) (hs : okGlob sc y = true) (h : k d ρ H) : Ev g ⟨A, envOf qual sc L f0 cd⟩ (.Name y pos) ρ H k x :=
  Ev.global e hv h rfl (okGlob_un hs).1 (okGlob_un hs).2.1 (okGlob_un hs).2.2
theorem Ev.callG {p pos : Pos} {es : List Expr} {f : Addr} (e : nsIn (KF g.w.params) mainGlobals y = some (some (.ref f))) (hs : okGlob sc y = true) (hk : keepIn (KF g.w.params) (.ref f) = true) (hn : es.all notStar = true)
    (h : EvL g ⟨A, envOf qual sc L f0 cd⟩ pos es ρ H (fun vs ρ₁ H₁ => OpL g ⟨A, envOf qual sc L f0 cd⟩ VR (fun vs => PySem.call (.ref f) vs) ([] ++ vs) ρ₁ H₁ k x) x) : Ev g ⟨A, envOf qual sc L f0 cd⟩ (.Call (.Name y p) es [] pos) ρ H k x :=
  Ev.call (Ev.globalQ e .ref hs (CW.own hk (stars_no _ _ es hn).1 h)) rfl
theorem EvL.consL {p pos : Pos} {es : List Expr} {v : AV} {k : List AV → Loc → AH → Prop} (hv : ρ y = some v) (hs : okLoc sc y = true) (h : EvL g ⟨A, envOf qual sc L f0 cd⟩ pos es ρ H (fun vs => k (v :: vs)) x) : EvL g ⟨A, envOf qual sc L f0 cd⟩ pos (.Name y p :: es) ρ H k x :=
  EvL.cons (Ev.localQ hv hs h) rfl
theorem Ts.eqLG {p1 p2 pos : Pos} {a b : Int} {vb : Value} (hv : ρ y = some (.int a)) (hs : okLoc sc y = true) (e : nsIn (KF g.w.params) mainGlobals z = some (some vb)) (hg : GV g vb (.int b)) (hz : okGlob sc z = true) (h : kb (decide (a = b)) ρ H) : Ts g ⟨A, envOf qual sc L f0 cd⟩ (.Compare (.Name y p1) [.Eq] [.Name z p2] pos) ρ H kb x :=
  Ts.compare1 (Ev.localQ hv hs (Ev.globalQ e hg hz (Op2.eq (Op1.truthy_bool h)))) rfl
theorem Ts.eqLS {p1 p2 pos : Pos} {n : Nat} {u w : Str} (hv : ρ y = some (.str u)) (hs : okLoc sc y = true) (h : kb (decide (u = w)) ρ H) : Ts g ⟨A, envOf qual sc L f0 cd⟩ (.Compare (.Name y p1) [.Eq] [.Constant (.str w) n p2] pos) ρ H kb x :=
  Ts.compare1 (Ev.localQ hv hs (Ev.cstr (Op2.eqS (Op1.truthy_bool h)))) rfl
theorem Ts.eqIS {p1 p2 p3 p4 pos : Pos} {i : Int} {n m : Nat} {ds : List AV} {u w : Str} (hv : ρ y = some (.tup ds)) (hs : okLoc sc y = true) (h0 : 0 ≤ i) (hz : i < 2 ^ 63) (hd : ds[i.toNat]? = some (.str u)) (h : kb (decide (u = w)) ρ H) : Ts g ⟨A, envOf qual sc L f0 cd⟩ (.Compare (.Subscript (.Name y p1) (.Constant (.int i) n p2) p3) [.Eq] [.Constant (.str w) m p4] pos) ρ H kb x :=
  Ts.compare1 (Ev.idxL hv hs h0 hz hd (Ev.cstr (Op2.eqS (Op1.truthy_bool h)))) rfl
end
end
end Mine
end

open PySem.Calls
set_option maxRecDepth 100000
set_option maxHeartbeats 1000000
namespace Mine
section
theorem words : True := by
  (k_with "enter" =>
    (case F => exact ⟨⟨_, _, _, by k_extra "part"⟩, by k_extra "part"⟩)
    (case B => intro s vs hv _; first
      | exact bB0 (B := fun vs ws => BindsTo s _ ⟨vs, []⟩ (List.zip _ ws)) hv (BindsTo.of_eq rfl)
      | exact bB1 (B := fun vs ws => BindsTo s _ ⟨vs, []⟩ (List.zip _ ws)) hv fun _ => BindsTo.of_eq rfl
      | exact bB2 (B := fun vs ws => BindsTo s _ ⟨vs, []⟩ (List.zip _ ws)) hv fun _ _ => BindsTo.of_eq rfl
      | exact bB3 (B := fun vs ws => BindsTo s _ ⟨vs, []⟩ (List.zip _ ws)) hv fun _ _ _ => BindsTo.of_eq rfl
      | exact bB4 (B := fun vs ws => BindsTo s _ ⟨vs, []⟩ (List.zip _ ws)) hv fun _ _ _ _ => BindsTo.of_eq rfl
      | exact bB5 (B := fun vs ws => BindsTo s _ ⟨vs, []⟩ (List.zip _ ws)) hv fun _ _ _ _ _ => BindsTo.of_eq rfl
      | exact ⟨vs, hv, by (repeat' (cases hv; (try (rename VRs _ _ _ => hv)))); exact BindsTo.of_eq rfl⟩)
    (case N => k_extra "eq")
    (intro _ _ _; dsimp only [locOf]))
  (k_with "if" =>
    first | refine ifDT (by omega) ?_ | refine ifDF (by omega) ?_ | refine ifDS (fun _ => ?_) (fun _ => ?_) | refine ifNT (by omega) ?_ | refine ifNF (by omega) ?_ | refine ifNS (fun _ => ?_) (fun _ => ?_))
  (k_with "part" =>
    first | k_is | (dsimp only [Gd.K]; k_is))
  (k_with "eq" =>
    first | exact Eq.refl true | exact Eq.refl false | exact Eq.refl (some _) | exact Eq.refl none | exact Eq.refl (pure false) | kernel_rfl)
  (k_with "name" =>
    first | with_reducible assumption | exact setL_same _ _ _ | (refine setL_other rfl ?_; k_extra "name") | (refine delL_other rfl ?_; k_extra "name"))
  (k_with "thing" =>
    first
      | with_reducible assumption
      | ((with_reducible show upd _ _ _ _ = _); first
        | with_reducible exact upd_same _ _ _
        | (refine upd_fresh (by with_reducible assumption) ?_; k_extra "thing")
        | (refine upd_other ?_ ?_; (first | with_reducible assumption | (apply Ne.symm; with_reducible assumption)); k_extra "thing")
        | (apply upd_new (by with_reducible assumption); (with_reducible assumption); (k_extra "thing"))
        | (apply upd_kind; (first | with_reducible assumption | with_reducible exact upd_same _ _ _); (k_extra "thing"); rfl)))
  (k_with "field" =>
    first | exact Eq.refl (some _) | exact Eq.refl none | exact lookF_same | (refine lookF_next rfl ?_; k_extra "field"))
  (k_with "put" =>
    first | exact putF_same | exact putF_nil | (apply putF_next rfl; k_extra "put") | exact rfl)
  (k_with "call" =>
    with_reducible show OpL ..
    (first
            | ((with_reducible show OpL _ _ _ (CallV (AV.builtin "len")) ..); refine OpL.lenL (by k_extra "thing") (by lia) ?_)
            | ((with_reducible show OpL _ _ _ (CallV (AV.builtin "list.append")) ..); refine OpL.append (by k_extra "thing") (by lia) ?_)
            | ((with_reducible show OpL _ _ _ (CallV (AV.type "tuple")) ..); refine OpL.tupleL (by k_extra "thing") (by lia) ?_)))
  (k_with "step" =>
    first
      | with_reducible show Ev _ _ (Expr.Name ..) ..
        first
        | refine Ev.localQ (by k_extra "name") (by k_extra "eq") ?_
        | refine Ev.globalQ (by k_extra "part") (by first | exact GV.ref | exact GV.int | exact GV.str) (by k_extra "eq") ?_
        | refine Ev.local (by k_extra "name") ?_
        | refine Ev.global (by k_extra "part") (by first | exact GV.ref | exact GV.int | exact GV.str) ?_
        | refine Ev.builtin (by k_extra "part") (by boot_by_name) (by exact fun _ => by first | exact .builtin _ | exact .type _) ?_
      | with_reducible show Ev ..
        (first
          | ((with_reducible show Ev _ _ (Expr.Attribute (Expr.Name ..) ..) ..); refine Ev.attrL (by k_extra "name") (by k_extra "eq") (by k_extra "thing") (by k_extra "cls") (by k_extra "part") (by k_extra "field") (by first | exact Eq.refl true | assumption) ?_)
          | ((with_reducible show Ev _ _ (Expr.Call (Expr.Attribute (Expr.Name ..) ..) ..) ..); refine Ev.methL (by k_extra "name") (by k_extra "eq") (by k_extra "thing") (by k_extra "cls") (by k_extra "part") (by k_extra "part") (by k_extra "field") (by k_extra "part") (by k_extra "eq") ?_)
          | ((with_reducible show Ev _ _ (Expr.Call (Expr.Name ..) ..) ..); refine Ev.callG (by k_extra "part") (by k_extra "eq") (by k_extra "part") (by k_extra "eq") ?_)
          | ((with_reducible show Ev _ _ (Expr.Subscript (Expr.Name ..) (Expr.Constant ..) _) ..); refine Ev.idxL (by k_extra "name") (by k_extra "eq") (by decide) (by decide) (by exact Eq.refl (some _)) ?_)
          | with_reducible refine Ev.cint ?_
          | with_reducible refine Ev.cstr ?_
          | with_reducible refine Ev.cbool ?_
          | with_reducible refine Ev.cnone ?_
          | with_reducible refine Ev.binop ?_
          | with_reducible refine Ev.boolop ?_
          | ((with_reducible show Ev _ _ (Expr.Attribute ..) ..); refine Ev.attr ?_)
          | ((with_reducible show Ev _ _ (Expr.Call (Expr.Attribute ..) ..) ..); refine Ev.method ?_)
          | ((with_reducible show Ev _ _ (Expr.Call ..) ..); refine Ev.call ?_)
          | ((with_reducible show Ev _ _ (Expr.Compare ..) ..); refine Ev.compare1 ?_)
          | ((with_reducible show Ev _ _ (Expr.Subscript _ (Expr.Slice ..) _) ..); refine Ev.slice ?_)
          | with_reducible refine Ev.sub ?_
          | with_reducible refine Ev.tuple ?_
          | ((with_reducible show Ev _ _ (Expr.List ..) ..); refine Ev.list ?_)
          | with_reducible refine Ev.unaryop ?_)
      | with_reducible show Ex ..
        (first
          | with_reducible refine Ex.ife ?_
          | with_reducible refine Ex.ret ?_
          | with_reducible refine Ex.ret0 ?_
          | ((with_reducible show Ex _ _ (Stmt.Assign [Expr.Name ..] ..) ..); refine Ex.assign ?_ ⟨by k_extra "eq", .inl ⟨by k_extra "eq", by k_extra "eq"⟩⟩)
          | ((with_reducible show Ex _ _ (Stmt.Assign [Expr.Tuple ..] ..) ..); refine Ex.assignT ?_)
          | ((with_reducible show Ex _ _ (Stmt.Assign [Expr.Attribute ..] ..) ..); refine Ex.assignAttr ?_)
          | ((with_reducible show Ex _ _ (Stmt.Assign [Expr.Subscript ..] ..) ..); refine Ex.assignSub ?_)
          | ((with_reducible show Ex _ _ (Stmt.Expr ..) ..); refine Ex.expr ?_)
          | ((with_reducible show Ex _ _ (Stmt.For ..) ..); refine Ex.for ?_)
          | ((with_reducible show Ex _ _ (Stmt.Try ..) ..); refine Ex.tryq ?_)
          | with_reducible refine Ex.whil ?_)
      | with_reducible show Ts ..
        (first
          | ((with_reducible show Ts _ _ (Expr.Compare (Expr.Name ..) [CmpOp.Eq] [Expr.Name ..] _) ..); refine Ts.eqLG (by k_extra "name") (by k_extra "eq") (by k_extra "part") (by exact GV.int) (by k_extra "eq") ?_)
          | ((with_reducible show Ts _ _ (Expr.Compare (Expr.Name ..) [CmpOp.Eq] [Expr.Constant (Const.str _) _ _] _) ..); refine Ts.eqLS (by k_extra "name") (by k_extra "eq") ?_)
          | ((with_reducible show Ts _ _ (Expr.Compare (Expr.Subscript (Expr.Name ..) (Expr.Constant ..) _) [CmpOp.Eq] [Expr.Constant (Const.str _) _ _] _) ..); refine Ts.eqIS (by k_extra "name") (by k_extra "eq") (by decide) (by decide) (by exact Eq.refl (some _)) ?_)
          | with_reducible refine Ts.boolop ?_
          | with_reducible refine Ts.not ?_
          | ((with_reducible show Ts _ _ (Expr.Compare ..) ..); refine Ts.compare1 ?_)
          | refine Ts.value ?_)
      | (first
          | ((with_reducible show Exs _ _ (List.cons (Stmt.Assign [Expr.Name ..] ..) _) ..); refine Exs.asg (by k_extra "eq") ?_)
          | with_reducible refine Exs.cons ?_
          | with_reducible refine then_next ?_
          | with_reducible refine then_ret ?_
          | with_reducible refine Exs.nil ?_
          | with_reducible refine EvP.none' ?_
          | with_reducible refine EvP.some' ?_
          | ((with_reducible show ∃ i, AV.int _ = AV.int i ∧ _); refine ⟨_, rfl, ?_⟩)
          | with_reducible refine EvB.and ?_
          | with_reducible refine EvB.or ?_
          | with_reducible refine EvB.one ?_
          | with_reducible refine TsA.and ?_
          | with_reducible refine TsA.or ?_
          | with_reducible refine TsA.nilA ?_
          | with_reducible refine TsA.nilO ?_)
      | with_reducible show Op2 ..
        first
        | (first
            | with_reducible refine Op2.le ?_
            | with_reducible refine Op2.lt ?_
            | with_reducible refine Op2.ge ?_
            | with_reducible refine Op2.gt ?_
            | with_reducible refine Op2.eq ?_
            | with_reducible refine Op2.ne ?_
            | with_reducible refine Op2.eqS ?_
            | with_reducible refine Op2.neS ?_
            | with_reducible refine Op2.add ?_
            | with_reducible refine Op2.isN ?_
            | with_reducible refine Op2.inDS (by k_extra "thing") ?_
            | ((with_reducible show Op2 _ _ _ (fun a b => setAttr a _ b) ..); refine Op2.setF (by k_extra "thing") (by k_extra "cls") (by k_extra "part") (by k_extra "put") (Nat.le_of_ble_eq_true rfl) ?_))
        | with_reducible show Op2 _ _ _ (subscriptTail _ _) _ (AV.int _) ..
          (first
            | ((with_reducible show Op2 _ _ _ (subscriptTail _ _) _ (AV.int (-1)) ..); refine Op2.last (by k_extra "thing") (by lia) ?_)
            | refine Op2.itemL (by k_extra "thing") (by lia) (by lia) (by k_extra "types") ?_
            | refine Op2.itemT (by decide) (by decide) (by exact Eq.refl (some _)) ?_)
      | (first
          | with_reducible refine Op1.truthy_bool ?_
          | with_reducible refine Op1.neg ?_
          | ((with_reducible show Op1 _ _ _ truthy (AV.ref _) ..); refine Op1.truthyL (by k_extra "thing") (by lia) ?_)
          | with_reducible refine And.intro (Nat.le_of_ble_eq_true rfl) ?_
          | ((with_reducible show CW _ _ _ (AV.ref _) ..); refine CW.own (by k_extra "part") (by k_extra "eq") ?_)
          | ((with_reducible show CW ..); refine CW.plain (by rfl) (by k_extra "eq") ?_)
          | ((with_reducible show EvL _ _ _ [] ..); refine EvL.nil ?_)
          | ((with_reducible show EvL _ _ _ (Expr.Name .. :: _) ..); refine EvL.consL (by k_extra "name") (by k_extra "eq") ?_)
          | ((with_reducible show EvL ..); refine EvL.cons ?_)
          | ((with_reducible show Op1 _ _ _ (fun o => getAttr o _ true) ..); refine Op1.getF (by k_extra "thing") (by k_extra "cls") (by k_extra "part") (by k_extra "field") (by first | exact Eq.refl true | assumption) ?_))
      | with_reducible show Meth _ _ _ _ _ (AV.ref _) ..
        (first
          | refine Meth.own (by k_extra "thing") (by k_extra "cls") (by k_extra "part") (by k_extra "part") (by k_extra "field") ?_
          | refine Meth.list (by k_extra "thing") PySem.slot_list_append PySem.F.type_list_append ?_
          | refine Meth.list (by k_extra "thing") PySem.F.slot_list_pop PySem.F.type_list_pop ?_
          | refine Meth.dict (by k_extra "thing") rfl PySem.F.slot_dict_get PySem.F.type_dict_get ?_)
      | (first
          | ((with_reducible show Meth _ _ _ _ _ (AV.str _) ..); refine Meth.str (fun _ _ _ _ _ _ _ h => GM.join h) ?_))
      | k_extra "call"
      | (first
          | with_reducible refine ifT rfl ?_
          | with_reducible refine ifF Bool.false_ne_true ?_
          | ((with_reducible show As _ _ (Expr.Name ..) ..); refine As.nameQ (by k_extra "eq") ?_)
          | ((with_reducible show As _ _ (Expr.Name ..) ..); refine As.name ?_ ⟨by k_extra "eq", .inl ⟨by k_extra "eq", by k_extra "eq"⟩⟩)
          | ((with_reducible show It1 _ _ _ (AV.tup _) ..); refine It1.tup (Ok.hand (by assumption) rfl) ?_)
          | ((with_reducible show It1 _ _ _ (AV.ref _) ..); refine It1.list (Ok.hand (by assumption) rfl) (by k_extra "thing") ?_)
          | ((with_reducible show As _ _ (Expr.Tuple ..) (AV.tup _) ..); refine As.tup (Ok.hand (by assumption) rfl) rfl ?_)
          | with_reducible refine AsL.cons ?_
          | with_reducible refine AsL.nil ?_
          | with_reducible refine ForL.cons ?_
          | with_reducible refine turn_next ?_
          | with_reducible refine turn_ret ?_)
      | with_reducible show if decide (Str.ofString _ = Str.ofString _ ∧ Str.ofString _ = Str.ofString _) = true then _ else _
        (first
          | refine ifDT (by decide) ?_
          | refine ifDF (by decide) ?_)
      | with_reducible show if isNone _ = true then _ else _
        (first
          | refine ifT rfl ?_
          | refine ifF (show ¬ false = true from Bool.false_ne_true) ?_)
      | with_reducible show if (!isNone _) = true then _ else _
        (first
          | refine ifT rfl ?_
          | refine ifF (show ¬ false = true from Bool.false_ne_true) ?_)
      | with_reducible show if decide (Str.ofString _ = Str.ofString _) = true then _ else _
        (first
          | refine ifDT rfl ?_
          | refine ifDF (by decide) ?_)
      | with_reducible show if (!decide (Str.ofString _ = Str.ofString _)) = true then _ else _
        (first
          | refine ifNF rfl ?_
          | refine ifNT (by decide) ?_)
      | k_extra "if")
  (k_with "same" =>
    (dsimp only [retOf]; first | with_reducible assumption | (refine kB (by assumption) ?_; first | rfl | (simp [*]; done) | (rw [Bool.eq_iff_iff]; simp only [Bool.and_eq_true, Bool.or_eq_true, Bool.not_eq_true', decide_eq_true_eq, decide_eq_false_iff_not]; omega))))
  (k_with "ne" =>
    first | with_reducible assumption | (apply Ne.symm; with_reducible assumption) | exact ne_kind (by with_reducible assumption) (by with_reducible assumption) rfl | exact ne_fresh (by with_reducible assumption) (by with_reducible assumption) | exact Ne.symm (ne_fresh (by with_reducible assumption) (by with_reducible assumption)))
  (k_with "nes" =>
    repeat' (first | exact nmn | refine nmc ?_ ?_ | apply And.intro | k_extra "ne"))
  (k_with "subs" =>
    repeat' (first | exact fmn | refine fmc ?_ ?_ | exact List.mem_cons_self | refine List.mem_cons_of_mem _ ?_))
  (k_with "cls" =>
    first | exact clsReader | exact clsParser | exact clsFrame | exact clsTok | exact clsFlags | exact clsOp | exact clsSym)
  (k_with "types" =>
    kas_types)
  trivial

section
section
variable {g : Gd Mine.hp.heap_1}
theorem is_layout_spec {H : AH} {a : Int} {k x : AV → AH → Prop} (h : k (.bool (decide (a = 32 ∨ 9 ≤ a ∧ a ≤ 13))) H) : Cal g 1 false 165 [.int a] H k x := by
  refine' Cal.enter (as' := [.int a]) ["code"] ?F ?B ?N ?_
  k_extra "enter"
  repeat' k_extra "step"
  all_goals k_extra "same"
theorem is_digit_spec {H : AH} {a : Int} {k x : AV → AH → Prop} (h : k (.bool (decide (48 ≤ a ∧ a ≤ 57))) H) : Cal g 1 false 172 [.int a] H k x := by
  refine' Cal.enter (as' := [.int a]) ["code"] ?F ?B ?N ?_
  k_extra "enter"
  repeat' k_extra "step"
  all_goals k_extra "same"
theorem is_small_spec {H : AH} {a : Int} {k x : AV → AH → Prop} (h : k (.bool (decide (97 ≤ a ∧ a ≤ 122))) H) : Cal g 1 false 179 [.int a] H k x := by
  refine' Cal.enter (as' := [.int a]) ["code"] ?F ?B ?N ?_
  k_extra "enter"
  repeat' k_extra "step"
  all_goals k_extra "same"
theorem is_capital_spec {H : AH} {a : Int} {k x : AV → AH → Prop} (h : k (.bool (decide (65 ≤ a ∧ a ≤ 90))) H) : Cal g 1 false 186 [.int a] H k x := by
  refine' Cal.enter (as' := [.int a]) ["code"] ?F ?B ?N ?_
  k_extra "enter"
  repeat' k_extra "step"
  all_goals k_extra "same"
theorem w1a : True := by
  (k_with "w1a" =>
    first
      | (with_reducible show OpL ..
         first
          | k_extra "call"
          | refine Cal.at (is_layout_spec ?_) (Ok.leB (by assumption) rfl)
          | refine Cal.at (is_digit_spec ?_) (Ok.leB (by assumption) rfl)
          | refine Cal.at (is_small_spec ?_) (Ok.leB (by assumption) rfl)
          | refine Cal.at (is_capital_spec ?_) (Ok.leB (by assumption) rfl))
      | k_extra "step")
  trivial
noncomputable def alnum (a : Int) : Prop := 97 ≤ a ∧ a ≤ 122 ∨ 65 ≤ a ∧ a ≤ 90 ∨ 48 ≤ a ∧ a ≤ 57 ∨ a = 95
noncomputable instance (a : Int) : Decidable (alnum a) := by unfold alnum; infer_instance
theorem is_alnum_spec {H : AH} {a : Int} {k x : AV → AH → Prop} (h : k (.bool (decide (alnum a))) H) : Cal g 2 false 193 [.int a] H k x := by
  unfold alnum at h
  refine' Cal.enter (as' := [.int a]) ["code"] ?F ?B ?N ?_
  k_extra "enter"
  repeat' k_extra "w1a"
  all_goals k_extra "same"

noncomputable def cds (l : List Nat) : List AV := l.map fun (n : Nat) => AV.int (n : Int)
noncomputable def cAt (l : List Nat) (i : Int) : Int := match l[i.toNat]? with
  | none => -1
  | some n => n
theorem cds_get {l : List Nat} {i : Nat} {n : Nat} (h : l[i]? = some n) : (cds l)[i]? = some (.int n) := by unfold cds; rw [List.getElem?_map, h]; rfl
theorem cds_len {l : List Nat} : (cds l).length = l.length := by unfold cds; exact List.length_map ..
theorem clsTok : ClsF (Mine.hp.heap_1 g.w.params) 370 := ⟨by k_extra "part", by k_extra "part", by k_extra "part", by k_extra "part", by k_extra "part"⟩
noncomputable abbrev tokO (d cs : Addr) (a o : Int) : AObj := .inst 370 d [(Str.ofString "codes", .ref cs), (Str.ofString "at", .int a), (Str.ofString "origin", .int o)]

theorem code_at_spec {H : AH} {t d cs : Addr} {a o i v : Int} {l : List Nat} {k x : AV → AH → Prop} (hT : H t = some (tokO d cs a o)) (hC : H cs = some (.list (cds l))) (hb : ∀ n ∈ l, n ≤ 1114111) (hz : l.length < 2 ^ 40)
    (h0 : 0 ≤ i) (hi : i < 2 ^ 41) (hv : cAt l i = v) (h : k (.int v) H) : Cal g 1 false 255 [.ref t, .int i] H k x := by
  have hlen : (cds l).length < 2 ^ 60 := by rw [cds_len]; lia
  have hll : ((cds l).length : Int) = l.length := by rw [cds_len]
  refine' Cal.enter (as' := [.ref t, .int i]) ["self", "index"] ?F ?B ?N ?_
  k_extra "enter"
  repeat' k_extra "w1a"
  · have e : l[i.toNat]? = none := List.getElem?_eq_none (by lia)
    unfold cAt at hv
    rw [e] at hv
    subst hv
    exact h
  · obtain ⟨n, e⟩ : ∃ n, l[i.toNat]? = some n := ⟨_, List.getElem?_eq_getElem (by lia)⟩
    have hn := hb n (List.mem_of_getElem? e)
    unfold cAt at hv
    rw [e] at hv
    subst hv
    refine Op2.itemL (by k_extra "thing") (by lia) (by lia) (cds_get e) ?_
    repeat' k_extra "w1a"
    exact h

structure Cds (H : AH) (cs : Addr) (l : List Nat) : Prop where
  h : H cs = some (.list (cds l))
  b : ∀ n ∈ l, n ≤ 1114111
  z : l.length < 2 ^ 40
theorem Cds.upd {H : AH} {cs t : Addr} {l : List Nat} {o : AObj} (C : Cds H cs l) (n : cs ≠ t) : Cds (Mine.upd H t o) cs l := ⟨(upd_ne n).trans C.h, C.b, C.z⟩
theorem Cds.ne {H : AH} {cs t d : Addr} {l : List Nat} {C : Addr} {fs : List (Str × AV)} (x : Cds H cs l) (h : H t = some (.inst C d fs)) : cs ≠ t := fun q => by have := x.h; rw [q, h] at this; cases this
theorem code_at_is {H : AH} {t d cs : Addr} {a o i v : Int} {l : List Nat} {k x : AV → AH → Prop} (hT : H t = some (tokO d cs a o)) (C : Cds H cs l)
    (h0 : 0 ≤ i) (hi : i < 2 ^ 41) (hv : cAt l i = v) (h : k (.int v) H) : Cal g 1 false 255 [.ref t, .int i] H k x := code_at_spec hT C.h C.b C.z h0 hi hv h
theorem w1b : True := by
  (k_with "w1b" =>
    first
      | (with_reducible show OpL ..
         first
          | k_extra "call"
          | refine Cal.at (code_at_is (by k_extra "thing") (by assumption) (by lia) (by lia) (by assumption) ?_) (Ok.leB (by assumption) rfl)
          | refine Cal.at (is_layout_spec ?_) (Ok.leB (by assumption) rfl)
          | refine Cal.at (is_digit_spec ?_) (Ok.leB (by assumption) rfl)
          | refine Cal.at (is_small_spec ?_) (Ok.leB (by assumption) rfl)
          | refine Cal.at (is_capital_spec ?_) (Ok.leB (by assumption) rfl)
          | refine Cal.at (is_alnum_spec ?_) (Ok.leB (by assumption) rfl))
      | k_extra "step")
  trivial
noncomputable def layout (a : Int) : Prop := a = 32 ∨ 9 ≤ a ∧ a ≤ 13
theorem cAt_lt {l : List Nat} {p c : Int} (h0 : 0 ≤ p) (h : cAt l p = c) (hc : c ≠ -1) : p + 1 ≤ l.length := by
  unfold cAt at h
  cases e : l[p.toNat]? with
  | none => rw [e] at h; exact absurd h.symm hc
  | some n => have := (List.getElem?_eq_some_iff.mp e).1; lia
inductive RowEnd (l : List Nat) : Int → Int → Prop
  | stop {p c : Int} : cAt l p = c → c = -1 ∨ c = 10 → RowEnd l p p
  | step {p q c : Int} : cAt l p = c → c ≠ -1 → c ≠ 10 → RowEnd l (p + 1) q → RowEnd l p q
theorem RowEnd.le {l : List Nat} {p q : Int} (w : RowEnd l p q) : 0 ≤ p → p ≤ l.length → p ≤ q ∧ q ≤ l.length := by
  induction w with
  | stop => intro h0 h1; exact ⟨Int.le_refl _, h1⟩
  | step hc h1 h2 _ ih =>
    intro h0 h1'
    have a1 := cAt_lt h0 hc h1
    have a2 := ih (by lia) a1
    lia
theorem skip_row_spec {H : AH} {t d cs : Addr} {p q o : Int} {l : List Nat} {k x : AV → AH → Prop} (G : RowEnd l p q) (hT : H t = some (tokO d cs p o)) (C : Cds H cs l) (h0 : 0 ≤ p) (hq : p ≤ l.length)
    (h : k .none (upd H t (tokO d cs q o))) : Cal g 2 false 297 [.ref t] H k x := by
  refine' Cal.enter (as' := [.ref t]) ["self"] ?F ?B ?N ?_
  k_extra "enter"
  have hz := C.z
  refine Exs.cons ?_
  refine Ex.whil ?_
  have hs : (setL noL (Str.ofString "self") (AV.ref t)) (Str.ofString "self") = some (.ref t) := setL_same _ _ _
  generalize (setL noL (Str.ofString "self") (AV.ref t)) = ρ at hs ⊢
  induction G generalizing ρ H with
  | stop hc hl =>
    refine Lp.step ?_
    repeat' k_extra "w1b"
    all_goals first
      | (rw [upd_self hT] at h; exact h)
      | lia
  | step hc h1 h2 G' ih =>
    refine Lp.step ?_
    repeat' k_extra "w1b"
    all_goals first
      | exact ih (upd_same _ _ _) (C.upd (C.ne hT)) (by lia) (cAt_lt h0 hc h1) (by rw [upd_upd]; exact h) _ (setL_other (by k_extra "eq") hs)
      | lia
inductive RemEnd (l : List Nat) : Int → Int → Prop
  | stop {p : Int} : cAt l p = 42 → cAt l (p + 1) = 47 → RemEnd l p (p + 2)
  | step {p q c c' : Int} : cAt l p = c → c ≠ -1 → cAt l (p + 1) = c' → c ≠ 42 ∨ c' ≠ 47 → RemEnd l (p + 1) q → RemEnd l p q
theorem RemEnd.le {l : List Nat} {p q : Int} (w : RemEnd l p q) : 0 ≤ p → p ≤ l.length → p ≤ q ∧ q ≤ l.length := by
  induction w with
  | stop h1 h2 =>
    intro h0 h3
    have a1 := cAt_lt (by lia) h2 (by decide)
    lia
  | step hc h1 _ _ _ ih =>
    intro h0 h1'
    have a1 := cAt_lt h0 hc h1
    have a2 := ih (by lia) a1
    lia
theorem skip_remark_spec {H : AH} {t d cs : Addr} {p q o : Int} {l : List Nat} {k x : AV → AH → Prop} (G : RemEnd l (p + 2) q) (hT : H t = some (tokO d cs p o)) (C : Cds H cs l) (h0 : 0 ≤ p) (hq : p + 2 ≤ l.length)
    (h : k .none (upd H t (tokO d cs q o))) : Cal g 2 false 304 [.ref t] H k x := by
  refine' Cal.enter (as' := [.ref t]) ["self"] ?F ?B ?N ?_
  k_extra "enter"
  have hz := C.z
  repeat' k_extra "w1b"
  refine (?key : ∀ (a : Int) (H' : AH) (ρ : Loc), RemEnd l a q → 0 ≤ a → a ≤ l.length → H' t = some (tokO d cs a o) → Cds H' cs l → (∀ b, upd H' t (tokO d cs b o) = upd H t (tokO d cs b o)) → ρ (Str.ofString "self") = some (.ref t) → ρ (Str.ofString "begun") = some (.int p) → Lp g _ _ _ ρ H' _ _) (p + 2) _ _ G (by lia) hq (upd_same _ _ _) (C.upd (C.ne hT)) (fun b => upd_upd _ _ _ _) (by k_extra "name") (by k_extra "name")
  intro a H' ρ G' h1 h2 e1 C' e2 r1 r2
  induction G' generalizing ρ H' with
  | stop c1 c2 =>
    refine Lp.step ?_
    repeat' k_extra "w1b"
    all_goals first
      | (rw [e2]; exact h)
      | lia
  | step hc n1 hc' n2 G'' ih =>
    refine Lp.step ?_
    repeat' k_extra "w1b"
    all_goals first
      | exact ih G h _ _ (by lia) (cAt_lt h1 hc n1) (upd_same _ _ _) (C'.upd (C'.ne e1)) (fun b => by rw [upd_upd]; exact e2 b) (by k_extra "name") (by k_extra "name")
      | lia
inductive Gap (l : List Nat) : Int → Int → Prop
  | stop {p c : Int} : cAt l p = c → ¬ layout c → c ≠ 37 → c ≠ 47 → Gap l p p
  | blank {p q c : Int} : cAt l p = c → layout c → Gap l (p + 1) q → Gap l p q
  | row {p r q : Int} : cAt l p = 37 → RowEnd l p r → Gap l r q → Gap l p q
  | rem {p r q : Int} : cAt l p = 47 → cAt l (p + 1) = 42 → RemEnd l (p + 2) r → Gap l r q → Gap l p q
theorem skip_layout_spec {H : AH} {t d cs : Addr} {p q o : Int} {l : List Nat} {k x : AV → AH → Prop} (G : Gap l p q) (hT : H t = some (tokO d cs p o)) (C : Cds H cs l) (h0 : 0 ≤ p) (hq : p ≤ l.length)
    (h : k .none (upd H t (tokO d cs q o))) : Cal g 3 false 290 [.ref t] H k x := by
  refine' Cal.enter (as' := [.ref t]) ["self"] ?F ?B ?N ?_
  k_extra "enter"
  have hz := C.z
  refine Exs.cons ?_
  refine Ex.whil ?_
  have hs : (setL noL (Str.ofString "self") (AV.ref t)) (Str.ofString "self") = some (.ref t) := setL_same _ _ _
  generalize (setL noL (Str.ofString "self") (AV.ref t)) = ρ at hs ⊢
  induction G generalizing ρ H with
  | stop hc n1 n2 n3 =>
    unfold layout at n1
    refine Lp.step ?_
    repeat' k_extra "w1b"
    rw [upd_self hT] at h
    exact h
  | blank hc hl G' ih =>
    unfold layout at hl
    refine Lp.step ?_
    repeat' k_extra "w1b"
    exact ih (upd_same _ _ _) (C.upd (C.ne hT)) (by lia) (cAt_lt h0 hc (by lia)) (by rw [upd_upd]; exact h) _ (setL_other (by k_extra "eq") hs)
  | row hc E G' ih =>
    have a1 := E.le h0 hq
    refine Lp.step ?_
    repeat' k_extra "w1b"
    all_goals first
      | (refine Cal.at (skip_row_spec E hT C h0 hq ?_) (Ok.leB (by assumption) rfl)
         repeat' k_extra "w1b"
         exact ih (upd_same _ _ _) (C.upd (C.ne hT)) (by lia) a1.2 (by rw [upd_upd]; exact h) _ (setL_other (by k_extra "eq") hs))
      | lia
  | rem hc hc2 E G' ih =>
    have a0 := cAt_lt (by lia) hc2 (by decide)
    have a1 := E.le (by lia) (by lia)
    refine Lp.step ?_
    repeat' k_extra "w1b"
    all_goals first
      | (refine Cal.at (skip_remark_spec E hT C h0 (by lia) ?_) (Ok.leB (by assumption) rfl)
         repeat' k_extra "w1b"
         exact ih (upd_same _ _ _) (C.upd (C.ne hT)) (by lia) a1.2 (by rw [upd_upd]; exact h) _ (setL_other (by k_extra "eq") hs))
      | lia
end
end

section
section
variable {g : Gd Mine.hp.heap_1}
noncomputable def txt (l : List Nat) : Str := ⟨l.toArray⟩
noncomputable def chars (l : List Nat) : List Str := l.map fun n => ⟨#[n]⟩
theorem glue0 : ∀ (r : List Nat) (a : Array Nat), (chars r).foldl (fun acc p => acc ++ (Str.ofString "").cps ++ p.cps) a = a ++ r.toArray
  | [], a => by simp [chars]
  | n :: r, a => by
    have ih := glue0 r (a ++ (Str.ofString "").cps ++ #[n])
    have e0 : (Str.ofString "").cps = #[] := by rfl
    show (chars r).foldl _ (a ++ (Str.ofString "").cps ++ #[n]) = _
    rw [ih, e0]
    simp
theorem join_chars (l : List Nat) : Txt.join (Str.ofString "") (chars l) = txt l := by
  cases l with
  | nil => rfl
  | cons n r =>
    show Str.mk ((chars r).foldl _ _) = _
    have := glue0 r #[n]
    show Str.mk ((chars r).foldl (fun acc p => acc ++ (Str.ofString "").cps ++ p.cps) #[n]) = _
    rw [this]
    simp [txt]
theorem join_ok (l : List Nat) (h : l.length ≤ 1000000) : JoinOk (Str.ofString "") (chars l) = true := by
  unfold JoinOk
  rw [StrLaws.joinFits (B := 1) (fun y hy => by
    unfold chars at hy
    obtain ⟨n, _, rfl⟩ := List.mem_map.mp hy
    exact Nat.le_refl 1) (by
    have : (Str.ofString "").length = 0 := rfl
    rw [this]; unfold chars; rw [List.length_map]; lia)]
  rfl
theorem codes_text_spec {H : AH} {cs : Addr} {l : List Nat} {k x : AV → AH → Prop} (hC : H cs = some (.list (cds l))) (hb : ∀ n ∈ l, n ≤ 1114111) (hz : l.length ≤ 1000000)
    (h : k (.str (txt l)) H) : Cal g 1 true 219 [.ref cs] H k x := by
  refine Cal.left ?_
  refine' Cal.enter (as' := [.ref cs]) ["codes"] ?F ?B ?N ?_
  k_extra "enter"
  repeat' k_extra "step"
  refine Ev.comp [] ?_ rfl (by intro p hp; cases hp) rfl (by decide) (by decide)
  refine EvIt.val ?_
  repeat' k_extra "step"
  try refine It1.list (Ok.hand (by assumption) rfl) (by k_extra "thing") ?_
  intro L C hL
  refine CmpL.flat (fun _ => True) (fun v ρ => setL ρ (Str.ofString "code") v) (fun _ => true) (fun v => match v with | .int i => .str ⟨#[i.toNat]⟩ | _ => .none) (fun us => upd_fresh hL (by k_extra "thing")) _ [] _ (fun _ _ _ _ => trivial) ?_ ?_ ?_ ?_ ?_ trivial
  · intro v hv ρ us k' _ hk
    exact As.name hk ⟨by k_extra "eq", .inl ⟨by k_extra "eq", by k_extra "eq"⟩⟩
  · intro v hv ρ us k' _ hk
    exact TsL.nil hk
  · intro v hv _ ρ us k' _ hk
    obtain ⟨n, hn, rfl⟩ := List.mem_map.mp hv
    have := hb n hn
    repeat' k_extra "step"
    exact OpL.chr (by lia) (by lia) hk
  · rw [cds_len]; simp; lia
  · intro ρ _
    have e : ((cds l).filter (fun _ => true)).map (fun v => match v with | .int i => AV.str ⟨#[i.toNat]⟩ | _ => .none) = (chars l).map AV.str := by
      rw [List.filter_eq_self.mpr (fun _ _ => rfl)]
      unfold cds chars
      rw [List.map_map, List.map_map]
      rfl
    rw [e, List.nil_append]
    repeat' k_extra "step"
    refine OpL.join (by k_extra "thing") (join_ok l hz) ?_
    repeat' k_extra "step"
    rw [join_chars]
    exact .drop rfl rfl hL (.here h)
end
end

section
section
variable {g : Gd Mine.hp.heap_1}
inductive Word (l : List Nat) : Int → Int → Prop
  | stop {p c : Int} : cAt l p = c → ¬ alnum c → Word l p p
  | step {p q c : Int} : cAt l p = c → alnum c → Word l (p + 1) q → Word l p q
theorem alnum_pos {c : Int} (h : alnum c) : c ≠ -1 := by unfold alnum at h; lia
theorem Word.le {l : List Nat} {p q : Int} (w : Word l p q) : 0 ≤ p → p ≤ l.length → p ≤ q ∧ q ≤ l.length := by
  induction w with
  | stop => intro h0 h1; exact ⟨Int.le_refl _, h1⟩
  | step hc ha _ ih =>
    intro h0 h1
    have := cAt_lt h0 hc (alnum_pos ha)
    have := ih (by lia) this
    lia
noncomputable def runL (l : List Nat) (p q : Int) : List Nat := (l.drop p.toNat).take (q.toNat - p.toNat)
theorem cds_run (l : List Nat) (p q : Int) : ((cds l).drop p.toNat).take (q.toNat - p.toNat) = cds (runL l p q) := by
  unfold cds runL
  rw [← List.map_drop, ← List.map_take]
theorem runL_mem {l : List Nat} {p q : Int} {n : Nat} (h : n ∈ runL l p q) : n ∈ l := List.mem_of_mem_drop (List.mem_of_mem_take h)
theorem runL_len (l : List Nat) (p q : Int) : (runL l p q).length ≤ l.length := Nat.le_trans (List.length_take_le' _ _) (by rw [List.length_drop]; exact Nat.sub_le _ _)
theorem w3a : True := by
  (k_with "w3a" =>
    first
      | (with_reducible show OpL ..
         first
          | k_extra "call"
          | refine Cal.at (code_at_is (by k_extra "thing") (by assumption) (by lia) (by lia) (by assumption) ?_) (Ok.leB (by assumption) rfl)
          | refine Cal.at (is_layout_spec ?_) (Ok.leB (by assumption) rfl)
          | refine Cal.at (is_digit_spec ?_) (Ok.leB (by assumption) rfl)
          | refine Cal.at (is_small_spec ?_) (Ok.leB (by assumption) rfl)
          | refine Cal.at (is_capital_spec ?_) (Ok.leB (by assumption) rfl)
          | refine Cal.at (is_alnum_spec ?_) (Ok.leB (by assumption) rfl))
      | k_extra "step")
  trivial
theorem word_spec {H : AH} {t d cs : Addr} {a p q o : Int} {l : List Nat} {k x : AV → AH → Prop} (W : Word l p q) (hT : H t = some (tokO d cs a o)) (C : Cds H cs l) (h0 : 0 ≤ p) (hp : p ≤ l.length) (hl : l.length ≤ 1000000)
    (h : k (.str (txt (runL l p q))) (upd H t (tokO d cs q o))) : Cal g 3 true 311 [.ref t, .int p] H k x := by
  refine Cal.left ?_
  refine' Cal.enter (as' := [.ref t, .int p]) ["self", "at"] ?F ?B ?N ?_
  k_extra "enter"
  have hz := C.z
  have hCs := C.h
  have hr := W.le h0 hp
  repeat' k_extra "w3a"
  refine (?key : ∀ (e : Int), Word l e q → p ≤ e → e ≤ l.length → ∀ ρ : Loc, ρ (Str.ofString "self") = some (.ref t) → ρ (Str.ofString "at") = some (.int p) → ρ (Str.ofString "end") = some (.int e) → Lp g _ _ _ ρ H _ _) p W (Int.le_refl _) hp _ (by k_extra "name") (by k_extra "name") (by k_extra "name")
  intro e W'
  induction W' with
  | stop hc hn =>
    intro h1 h2 ρ hs ha he
    refine Lp.step ?_
    repeat' k_extra "w3a"
    refine ⟨_, _, _, rfl, by k_extra "thing", ?_, pick_runI h0 h1 (by rw [cds_len]; exact h2), fun b hb => ?_⟩
    · rw [cds_len]; lia
    rw [cds_run]
    repeat' k_extra "w3a"
    refine Cal.at (codes_text_spec (upd_same _ _ _) (fun n hn => C.b n (runL_mem hn)) (Nat.le_trans (runL_len ..) hl) ?_) (Ok.leB (by assumption) rfl)
    repeat' k_extra "w3a"
    exact .drop rfl rfl hb (.here h)
  | step hc ha' _ ih =>
    intro h1 h2 ρ hs ha he
    have := cAt_lt (by lia) hc (alnum_pos ha')
    refine Lp.step ?_
    repeat' k_extra "w3a"
    exact ih (by assumption) (by assumption) (by assumption) (by lia) (by lia) _ (by k_extra "name") (by k_extra "name") (by k_extra "name")
end
end

section
section
variable {g : Gd Mine.hp.heap_1}

theorem w4a : True := by
  (k_with "w4a" =>
    first
      | (with_reducible show OpL ..
         first
          | k_extra "call"
          | refine Cal.at (code_at_is (by k_extra "thing") (by first | assumption | exact Cds.upd (by assumption) (by assumption)) (by lia) (by lia) (by assumption) ?_) (Ok.leB (by assumption) rfl)
          | refine Cal.at (is_layout_spec ?_) (Ok.leB (by assumption) rfl)
          | refine Cal.at (is_digit_spec ?_) (Ok.leB (by assumption) rfl)
          | refine Cal.at (is_small_spec ?_) (Ok.leB (by assumption) rfl)
          | refine Cal.at (is_capital_spec ?_) (Ok.leB (by assumption) rfl)
          | refine Cal.at (is_alnum_spec ?_) (Ok.leB (by assumption) rfl))
      | k_extra "step")
  trivial
noncomputable def symb (a : Int) : Prop := a = 43 ∨ a = 45 ∨ a = 42 ∨ a = 47 ∨ a = 92 ∨ a = 94 ∨ a = 60 ∨ a = 62 ∨ a = 61 ∨ a = 126 ∨ a = 58 ∨ a = 46 ∨ a = 63 ∨ a = 64 ∨ a = 35 ∨ a = 38 ∨ a = 36
noncomputable instance (a : Int) : Decidable (symb a) := by unfold symb; infer_instance
theorem symb_in : ∀ n < 128, (!(Builtin.Str.occurrences (Str.ofString "+-*/\\^<>=~:.?@#&$") ⟨#[n]⟩ 0 (Str.ofString "+-*/\\^<>=~:.?@#&$").length 1).isEmpty) = decide (symb (n : Int)) := by decide +kernel
theorem symb_range {a : Int} (h : symb a) : 0 ≤ a ∧ a < 128 := by
  unfold symb at h
  rcases h with rfl | rfl | rfl | rfl | rfl | rfl | rfl | rfl | rfl | rfl | rfl | rfl | rfl | rfl | rfl | rfl | rfl <;> decide
theorem is_symbol_spec {H : AH} {a : Int} {k x : AV → AH → Prop} (h : k (.bool (decide (symb a))) H) : Cal g 1 false 200 [.int a] H k x := by
  refine' Cal.enter (as' := [.int a]) ["code"] ?F ?B ?N ?_
  k_extra "enter"
  by_cases h0 : 0 ≤ a ∧ a < 128
  · repeat' k_extra "w4a"
    refine OpL.chr (by lia) (by lia) ?_
    repeat' k_extra "w4a"
    refine Op2.inS ?_
    have := symb_in a.toNat (by lia)
    rw [Int.toNat_of_nonneg h0.1] at this
    rw [this]
    repeat' k_extra "w4a"
    exact h
  · have e : decide (symb a) = false := decide_eq_false fun h => h0 (symb_range h)
    rw [e] at h
    by_cases h1 : 0 ≤ a
    · repeat' k_extra "w4a"
      rw [decide_eq_false (by lia)] 
      exact h
    · repeat' k_extra "w4a"
      rw [decide_eq_false (by lia)] 
      exact h
noncomputable instance (a : Int) : Decidable (layout a) := by unfold layout; infer_instance
theorem ends_at_spec {H : AH} {t d cs : Addr} {a i v o : Int} {l : List Nat} {k x : AV → AH → Prop} (hT : H t = some (tokO d cs a o)) (C : Cds H cs l) (h0 : 0 ≤ i) (hi : i < 2 ^ 41) (hv : cAt l i = v)
    (h : k (.bool (decide (v = -1 ∨ v = 37 ∨ layout v))) H) : Cal g 2 false 325 [.ref t, .int i] H k x := by
  unfold layout at h
  refine' Cal.enter (as' := [.ref t, .int i]) ["self", "index"] ?F ?B ?N ?_
  k_extra "enter"
  repeat' k_extra "w4a"
  all_goals k_extra "same"
theorem symbol_end_spec {H : AH} {t d cs : Addr} {a p o v : Int} {l : List Nat} {k x : AV → AH → Prop} (hT : H t = some (tokO d cs a o)) (C : Cds H cs l) (h0 : 0 ≤ p) (hi : p < 2 ^ 40) (hv : cAt l p = 46) (hv' : cAt l (p + 1) = v) (he : v = -1 ∨ v = 37 ∨ layout v)
    (h : k (.tup [.str (Str.ofString "end"), .str (Str.ofString "."), .int p]) (upd H t (tokO d cs (p + 1) o))) : Cal g 3 false 318 [.ref t, .int p] H k x := by
  refine' Cal.enter (as' := [.ref t, .int p]) ["self", "at"] ?F ?B ?N ?_
  k_extra "enter"
  repeat' k_extra "w4a"
  refine Cal.at (ends_at_spec (by k_extra "thing") (by assumption) (by lia) (by lia) hv' ?_) (Ok.leB (by assumption) rfl)
  rw [decide_eq_true he]
  repeat' k_extra "w4a"
  exact h
end
end

section
section
variable {g : Gd Mine.hp.heap_1}
theorem Gap.le {l : List Nat} {p q : Int} (w : Gap l p q) : 0 ≤ p → p ≤ l.length → p ≤ q ∧ q ≤ l.length := by
  induction w with
  | stop => intro h0 h1; exact ⟨Int.le_refl _, h1⟩
  | blank hc hl _ ih =>
    intro h0 h1
    have := cAt_lt h0 hc (by unfold layout at hl; lia)
    have := ih (by lia) this
    lia
  | row hc E _ ih =>
    intro h0 h1
    have a1 := E.le h0 h1
    have a2 := ih (by lia) a1.2
    lia
  | rem hc hc2 E _ ih =>
    intro h0 h1
    have a0 := cAt_lt (by lia) hc2 (by decide)
    have a1 := E.le (by lia) (by lia)
    have a2 := ih (by lia) a1.2
    lia
theorem w5a : True := by
  (k_with "w5a" =>
    first
      | (with_reducible show OpL ..
         first
          | k_extra "call"
          | refine Cal.at (code_at_is (by k_extra "thing") (by first | assumption | exact Cds.upd (by assumption) (by assumption)) (by lia) (by lia) (by assumption) ?_) (Ok.leB (by assumption) rfl)
          | refine Cal.at (skip_layout_spec (by assumption) (by k_extra "thing") (by assumption) (by lia) (by lia) ?_) (Ok.leB (by assumption) rfl)
          | refine Cal.at (word_spec (by assumption) (by k_extra "thing") (by first | assumption | exact Cds.upd (by assumption) (by assumption)) (by lia) (by lia) (by lia) ?_) (Ok.leB (by assumption) rfl)
          | refine Cal.at (symbol_end_spec (by k_extra "thing") (by first | assumption | exact Cds.upd (by assumption) (by assumption)) (by lia) (by lia) (by assumption) (by assumption) (by assumption) ?_) (Ok.leB (by assumption) rfl)
          | refine Cal.at (is_layout_spec ?_) (Ok.leB (by assumption) rfl)
          | refine Cal.at (is_symbol_spec ?_) (Ok.leB (by assumption) rfl)
          | refine Cal.at (is_digit_spec ?_) (Ok.leB (by assumption) rfl)
          | refine Cal.at (is_small_spec ?_) (Ok.leB (by assumption) rfl)
          | refine Cal.at (is_capital_spec ?_) (Ok.leB (by assumption) rfl)
          | refine Cal.at (is_alnum_spec ?_) (Ok.leB (by assumption) rfl))
      | k_extra "step")
  trivial
section
variable {H : AH} {t d cs : Addr} {a p q o v c : Int} {l : List Nat} {k x : AV → AH → Prop}
theorem next_eof_spec (G : Gap l a p) (hp : (l.length : Int) ≤ p) (hT : H t = some (tokO d cs a o)) (C : Cds H cs l) (h0 : 0 ≤ a) (ha : a ≤ l.length) 
    (h : k (.tup [.str (Str.ofString "eof"), .str (Str.ofString ""), .int p]) (upd H t (tokO d cs p o))) : Cal g 4 true 276 [.ref t] H k x := by
  refine' Cal.enter (as' := [.ref t]) ["self"] ?F ?B ?N ?_
  k_extra "enter"
  have hz := C.z
  have hCs := C.h
  have hn := C.ne hT
  have hll : ((cds l).length : Int) = l.length := by rw [cds_len]
  have hr := G.le h0 ha
  repeat' k_extra "w5a"
  exact h
theorem next_open_spec (G : Gap l a p) (hc : cAt l p = 40) (hk : p > a ∨ p = o) (hT : H t = some (tokO d cs a o)) (C : Cds H cs l) (h0 : 0 ≤ a) (ha : a ≤ l.length) 
    (h : k (.tup [.str (Str.ofString "open"), .str (Str.ofString "("), .int p]) (upd H t (tokO d cs (p + 1) o))) : Cal g 4 true 276 [.ref t] H k x := by
  refine' Cal.enter (as' := [.ref t]) ["self"] ?F ?B ?N ?_
  k_extra "enter"
  have hz := C.z
  have hCs := C.h
  have hn := C.ne hT
  have hll : ((cds l).length : Int) = l.length := by rw [cds_len]
  have hr := G.le h0 ha
  have hlt := cAt_lt (by lia) hc (by decide)
  rw [← upd_upd H t (tokO d cs p o)] at h
  repeat' k_extra "w5a"
  all_goals first | exact h | lia
theorem next_open_ct_spec (G : Gap l p p) (hc : cAt l p = 40) (hk : p ≠ o) (hT : H t = some (tokO d cs p o)) (C : Cds H cs l) (h0 : 0 ≤ p) (ha : p ≤ l.length) 
    (h : k (.tup [.str (Str.ofString "open_ct"), .str (Str.ofString "("), .int p]) (upd H t (tokO d cs (p + 1) o))) : Cal g 4 true 276 [.ref t] H k x := by
  refine' Cal.enter (as' := [.ref t]) ["self"] ?F ?B ?N ?_
  k_extra "enter"
  have hz := C.z
  have hCs := C.h
  have hn := C.ne hT
  have hll : ((cds l).length : Int) = l.length := by rw [cds_len]
  have hr := G.le h0 ha
  have hlt := cAt_lt (by lia) hc (by decide)
  rw [← upd_upd H t (tokO d cs p o)] at h
  repeat' k_extra "w5a"
  all_goals first | exact h | lia
theorem next_name_spec (G : Gap l a p) (W : Word l p q) (hc : cAt l p = c) (hk : 97 ≤ c ∧ c ≤ 122) (hT : H t = some (tokO d cs a o)) (C : Cds H cs l) (h0 : 0 ≤ a) (ha : a ≤ l.length) (hl : l.length ≤ 1000000)
    (h : k (.tup [.str (Str.ofString "name"), .str (txt (runL l p q)), .int p]) (upd H t (tokO d cs q o))) : Cal g 4 true 276 [.ref t] H k x := by
  refine' Cal.enter (as' := [.ref t]) ["self"] ?F ?B ?N ?_
  k_extra "enter"
  have hz := C.z
  have hCs := C.h
  have hn := C.ne hT
  have hll : ((cds l).length : Int) = l.length := by rw [cds_len]
  have hr := G.le h0 ha
  have hlt := cAt_lt (by lia) hc (by lia)
  rw [← upd_upd H t (tokO d cs p o)] at h
  repeat' k_extra "w5a"
  all_goals first | exact h | lia
theorem next_var_spec (G : Gap l a p) (W : Word l p q) (hc : cAt l p = c) (hk : 65 ≤ c ∧ c ≤ 90 ∨ c = 95) (hT : H t = some (tokO d cs a o)) (C : Cds H cs l) (h0 : 0 ≤ a) (ha : a ≤ l.length) (hl : l.length ≤ 1000000)
    (h : k (.tup [.str (Str.ofString "var"), .str (txt (runL l p q)), .int p]) (upd H t (tokO d cs q o))) : Cal g 4 true 276 [.ref t] H k x := by
  refine' Cal.enter (as' := [.ref t]) ["self"] ?F ?B ?N ?_
  k_extra "enter"
  have hz := C.z
  have hCs := C.h
  have hn := C.ne hT
  have hll : ((cds l).length : Int) = l.length := by rw [cds_len]
  have hr := G.le h0 ha
  have hlt := cAt_lt (by lia) hc (by lia)
  rw [← upd_upd H t (tokO d cs p o)] at h
  repeat' k_extra "w5a"
  all_goals first | exact h | lia
theorem next_endF_spec (G : Gap l a p) (hc : cAt l p = 46) (hv' : cAt l (p + 1) = v) (he : v = -1 ∨ v = 37 ∨ layout v) (hT : H t = some (tokO d cs a o)) (C : Cds H cs l) (h0 : 0 ≤ a) (ha : a ≤ l.length)
    (h : k (.tup [.str (Str.ofString "end"), .str (Str.ofString "."), .int p]) (upd H t (tokO d cs (p + 1) o))) : Cal g 4 false 276 [.ref t] H k x := by
  refine' Cal.enter (as' := [.ref t]) ["self"] ?F ?B ?N ?_
  k_extra "enter"
  have hz := C.z
  have hCs := C.h
  have hn := C.ne hT
  have hll : ((cds l).length : Int) = l.length := by rw [cds_len]
  have hr := G.le h0 ha
  have hlt := cAt_lt (by lia) hc (by decide)
  have hs : symb 46 := by decide
  rw [← upd_upd H t (tokO d cs p o)] at h
  repeat' k_extra "w5a"
  all_goals first | exact h | lia
theorem next_end_spec (G : Gap l a p) (hc : cAt l p = 46) (hv' : cAt l (p + 1) = v) (he : v = -1 ∨ v = 37 ∨ layout v) (hT : H t = some (tokO d cs a o)) (C : Cds H cs l) (h0 : 0 ≤ a) (ha : a ≤ l.length)
    (h : k (.tup [.str (Str.ofString "end"), .str (Str.ofString "."), .int p]) (upd H t (tokO d cs (p + 1) o))) : Cal g 4 true 276 [.ref t] H k x :=
  Cal.mono (next_endF_spec (k := k) (x := x) G hc hv' he hT C h0 ha h) (fun _ _ z => z) (fun _ _ z => z) (Nat.le_refl _) fun q => (nomatch q)
noncomputable def punc (c : Int) : Prop := c = 41 ∨ c = 91 ∨ c = 93 ∨ c = 123 ∨ c = 125 ∨ c = 44 ∨ c = 124
theorem punc_in {c : Int} (h : punc c) : (!(Builtin.Str.occurrences (Str.ofString ")[]{},|") ⟨#[c.toNat]⟩ 0 (Str.ofString ")[]{},|").length 1).isEmpty) = true := by
  unfold punc at h
  rcases h with rfl | rfl | rfl | rfl | rfl | rfl | rfl <;> decide +kernel
theorem punc_facts {c : Int} (h : punc c) : ¬ symb c ∧ c ≠ 40 ∧ c < 128 ∧ 40 < c ∧ ¬ (97 ≤ c ∧ c ≤ 122) ∧ ¬ (65 ≤ c ∧ c ≤ 90) ∧ c ≠ 95 ∧ ¬ (48 ≤ c ∧ c ≤ 57) ∧ c ≠ 39 ∧ c ≠ 34 ∧ c ≠ 96 := by
  unfold punc at h
  rcases h with rfl | rfl | rfl | rfl | rfl | rfl | rfl <;> decide
theorem next_punct_spec (G : Gap l a p) (hc : cAt l p = c) (hk : punc c) (hT : H t = some (tokO d cs a o)) (C : Cds H cs l) (h0 : 0 ≤ a) (ha : a ≤ l.length)
    (h : k (.tup [.str (Str.ofString "punct"), .str ⟨#[c.toNat]⟩, .int p]) (upd H t (tokO d cs (p + 1) o))) : Cal g 4 true 276 [.ref t] H k x := by
  refine' Cal.enter (as' := [.ref t]) ["self"] ?F ?B ?N ?_
  k_extra "enter"
  have hz := C.z
  have hCs := C.h
  have hn := C.ne hT
  have hll : ((cds l).length : Int) = l.length := by rw [cds_len]
  have hr := G.le h0 ha
  have hin := punc_in hk
  obtain ⟨hns, f1, f2, f3, f4, f5, f6, f7, f8, f9, f10⟩ := punc_facts hk
  clear hk
  have hlt := cAt_lt (by lia) hc (by lia)
  rw [← upd_upd H t (tokO d cs p o)] at h
  repeat' k_extra "w5a"
  refine OpL.max2 (Ok.hand (by assumption) rfl) ?_
  rw [show (if (0 : Int) > c then (0 : Int) else c) = c by lia]
  repeat' k_extra "w5a"
  refine OpL.chr (by lia) (by lia) ?_
  repeat' k_extra "w5a"
  refine Op2.inS ?_
  rw [hin]
  repeat' k_extra "w5a"
  exact h
end
end
end

section
section
variable {g : Gd Mine.hp.heap_1}
noncomputable def num {K : Type} : List K → Nat → List (K × AV)
  | [], _ => []
  | k :: l, n => (k, .int (n : Nat)) :: num l (n + 1)
theorem num_len {K : Type} : ∀ (l : List K) (n : Nat), (num l n).length = l.length
  | [], _ => rfl
  | k :: l, n => by unfold num; rw [List.length_cons, num_len l, List.length_cons]
noncomputable def posA {K : Type} [DecidableEq K] (l : List K) (k : K) : Nat := l.idxOf k
theorem posA_new {K : Type} [DecidableEq K] {l : List K} {k : K} (h : k ∉ l) : posA l k = l.length := List.idxOf_eq_length h
theorem getA_num {K : Type} [DecidableEq K] {k : K} : ∀ {l : List K} {n : Nat}, k ∈ l → getA (num l n) k = some (.int ((n + posA l k : Nat)))
  | [], _, h => by cases h
  | y :: l, n, h => by
    unfold num getA
    by_cases q : y = k
    · subst q
      simp only [List.find?_cons, decide_true, Option.map_some, posA, List.idxOf_cons_self, Nat.add_zero]
    · have hk : k ∈ l := by cases h with
        | head => exact absurd rfl q
        | tail _ h => exact h
      have ih := getA_num (n := n + 1) hk
      unfold getA at ih
      simp only [List.find?_cons, q, decide_false]
      unfold posA at ih ⊢
      rw [ih, List.idxOf_cons, show (y == k) = false from beq_eq_false_iff_ne.mpr q, cond_false, show n + 1 + l.idxOf k = n + (l.idxOf k + 1) by lia]
theorem getA_num_none {K : Type} [DecidableEq K] {k : K} : ∀ {l : List K} {n : Nat}, k ∉ l → getA (num l n) k = none
  | [], _, h => rfl
  | y :: l, n, h => by
    unfold num getA
    have q : y ≠ k := fun e => h (e ▸ .head _)
    have ih := getA_num_none (l := l) (n := n + 1) fun hk => h (.tail _ hk)
    unfold getA at ih
    simp only [List.find?_cons, q, decide_false]
    exact ih
theorem num_any {K : Type} [DecidableEq K] {k : K} : ∀ {l : List K} {n : Nat}, k ∉ l → (num l n).any (fun kv => kv.1 = k) = false
  | [], _, h => rfl
  | y :: l, n, h => by
    unfold num
    have q : y ≠ k := fun e => h (e ▸ .head _)
    simp only [List.any_cons, q, decide_false, Bool.false_or]
    exact num_any fun hk => h (.tail _ hk)
theorem num_append {K : Type} {k : K} : ∀ {l : List K} {n : Nat}, num (l ++ [k]) n = num l n ++ [(k, .int ((n + l.length : Nat)))]
  | [], n => rfl
  | y :: l, n => by
    rw [List.cons_append]
    unfold num
    rw [num_append, List.cons_append, List.length_cons, show n + 1 + l.length = n + (l.length + 1) by lia]
theorem putA_num {K : Type} [DecidableEq K] {k : K} {l : List K} (h : k ∉ l) : putA (num l 0) k (.int (l.length : Nat)) = num (l ++ [k]) 0 := by
  unfold putA
  rw [num_any h, if_neg Bool.false_ne_true, num_append, Nat.zero_add]
noncomputable def addA {K : Type} [DecidableEq K] (l : List K) (k : K) : List K := if k ∈ l then l else l ++ [k]
theorem addA_old {K : Type} [DecidableEq K] {l : List K} {k : K} (h : k ∈ l) : addA l k = l := if_pos h
theorem addA_new {K : Type} [DecidableEq K] {l : List K} {k : K} (h : k ∉ l) : addA l k = l ++ [k] := if_neg h
noncomputable abbrev symO (d tx an fn fnn : Addr) : AObj := .inst 154 d [(Str.ofString "texts", .ref tx), (Str.ofString "atom_numbers", .ref an), (Str.ofString "functors", .ref fn), (Str.ofString "functor_numbers", .ref fnn)]
theorem clsSym : ClsF (Mine.hp.heap_1 g.w.params) 154 := ⟨by k_extra "part", by k_extra "part", by k_extra "part", by k_extra "part", by k_extra "part"⟩
structure Sy (H : AH) (S d tx an fn fnn : Addr) (ts : List Str) (fs : List (List Int)) : Prop where
  o : H S = some (symO d tx an fn fnn)
  t : H tx = some (.list (ts.map .str))
  a : H an = some (.dictS (num ts 0))
  f : H fn = some (.list (fs.map fun k => .tup (intsAV k)))
  n : H fnn = some (.dictT (num fs 0))
  ne : tx ≠ fn
noncomputable abbrev putT (H : AH) (tx an : Addr) (ts : List Str) : AH := upd (upd H tx (.list (ts.map .str))) an (.dictS (num ts 0))
noncomputable abbrev putFn (H : AH) (fn fnn : Addr) (fs : List (List Int)) : AH := upd (upd H fn (.list (fs.map fun k => .tup (intsAV k)))) fnn (.dictT (num fs 0))
section
variable {H : AH} {S d tx an fn fnn : Addr} {ts : List Str} {fs : List (List Int)} {u : Str} {k x : AV → AH → Prop}
section
theorem w6a : True := by
  (k_with "w6a" =>
    first
      | with_reducible assumption
      | exact upd_same _ _ _
      | (apply upd_kind; (k_extra "w6a"); (k_extra "w6a"); rfl)
      | k_extra "thing")
  trivial
theorem Sy.putT (y : Sy H S d tx an fn fnn ts fs) (ts' : List Str) : Sy (Mine.putT H tx an ts') S d tx an fn fnn ts' fs := by
  obtain ⟨h1, h2, h3, h4, h5, h6⟩ := y
  exact ⟨by k_extra "w6a", by k_extra "w6a", by k_extra "w6a", by k_extra "w6a", by k_extra "w6a", h6⟩
theorem Sy.putF (y : Sy H S d tx an fn fnn ts fs) (fs' : List (List Int)) : Sy (Mine.putFn H fn fnn fs') S d tx an fn fnn ts fs' := by
  obtain ⟨h1, h2, h3, h4, h5, h6⟩ := y
  exact ⟨by k_extra "w6a", by k_extra "w6a", by k_extra "w6a", by k_extra "w6a", by k_extra "w6a", h6⟩
end
theorem atom_spec (y : Sy H S d tx an fn fnn ts fs) (hz : ts.length ≤ 100000) (h : k (.int (posA ts u : Nat)) (putT H tx an (addA ts u))) : Cal g 1 false 88 [.ref S, .str u] H k x := by
  have h1 := y.o
  have h2 := y.t
  have h3 := y.a
  have hl : (ts.map AV.str).length = ts.length := List.length_map ..
  have hn : (num ts 0).length = ts.length := num_len ts 0
  refine' Cal.enter (as' := [.ref S, .str u]) ["self", "text"] ?F ?B ?N ?_
  k_extra "enter"
  repeat' k_extra "step"
  refine OpL.getS2 (by k_extra "w6a") ?_
  by_cases hu : u ∈ ts
  · rw [getA_num hu, Option.getD_some]
    repeat' k_extra "step"
    rw [addA_old hu, putT, upd_self h2, upd_self h3] at h
    rw [Nat.zero_add]
    exact h
  · rw [getA_num_none hu, Option.getD_none]
    repeat' k_extra "step"
    refine OpS.dS (by k_extra "w6a") (by lia) ?_
    repeat' k_extra "step"
    rw [addA_new hu, posA_new hu] at h
    rw [hl, putA_num hu]
    rw [putT, List.map_append] at h
    exact h
end
end
end

section
section
variable {g : Gd Mine.hp.heap_1}
section
variable {H : AH} {S d tx an fn fnn : Addr} {ts : List Str} {fs : List (List Int)} {u : Str} {k x : AV → AH → Prop}
theorem functor_spec {a r : Int} (y : Sy H S d tx an fn fnn ts fs) (hz : fs.length ≤ 100000) (h : k (.int (posA fs [a, r] : Nat)) (putFn H fn fnn (addA fs [a, r]))) : Cal g 1 false 102 [.ref S, .int a, .int r] H k x := by
  have h1 := y.o
  have h2 := y.f
  have h3 := y.n
  have hl : (fs.map fun k => AV.tup (intsAV k)).length = fs.length := List.length_map ..
  have hn : (num fs 0).length = fs.length := num_len fs 0
  refine' Cal.enter (as' := [.ref S, .int a, .int r]) ["self", "atom", "arity"] ?F ?B ?N ?_
  k_extra "enter"
  repeat' k_extra "step"
  refine OpL.getT2 (u := [a, r]) (by have := Ok.units (by assumption : Ok _ _ _); show _ < 9900; simp only; lia) (by k_extra "thing") ?_
  by_cases hu : [a, r] ∈ fs
  · rw [getA_num hu, Option.getD_some]
    repeat' k_extra "step"
    rw [addA_old hu, putFn, upd_self h2, upd_self h3] at h
    rw [Nat.zero_add]
    exact h
  · rw [getA_num_none hu, Option.getD_none]
    repeat' k_extra "step"
    refine OpS.dT (u := [a, r]) (by have := Ok.units (by assumption : Ok _ _ _); show _ < 9900; simp only; lia) (by k_extra "thing") (by lia) ?_
    repeat' k_extra "step"
    rw [addA_new hu, posA_new hu] at h
    rw [hl, putA_num hu]
    rw [putFn, List.map_append] at h
    exact h
theorem w7a : True := by
  (k_with "w7a" =>
    first
      | (with_reducible show OpL ..
         first
          | k_extra "call"
          | refine Cal.at (atom_spec (by first | assumption | exact Sy.putT (by assumption) _) (by lia) ?_) (Ok.leB (by assumption) rfl)
          | refine Cal.at (functor_spec (by first | assumption | exact Sy.putT (by assumption) _) (by lia) ?_) (Ok.leB (by assumption) rfl))
      | k_extra "step")
  trivial
theorem func_spec {r : Int} (y : Sy H S d tx an fn fnn ts fs) (hz : ts.length ≤ 100000) (hz' : fs.length ≤ 100000)
    (h : k (.int (posA fs [(posA ts u : Int), r] : Nat)) (putFn (putT H tx an (addA ts u)) fn fnn (addA fs [(posA ts u : Int), r]))) : Cal g 2 false 109 [.ref S, .str u, .int r] H k x := by
  have h1 := y.o
  refine' Cal.enter (as' := [.ref S, .str u, .int r]) ["self", "text", "arity"] ?F ?B ?N ?_
  k_extra "enter"
  have y' := y.putT (addA ts u)
  repeat' k_extra "w7a"
  exact h
theorem text_spec {i : Nat} {v : Str} (y : Sy H S d tx an fn fnn ts fs) (hi : ts[i]? = some v) (hz : ts.length ≤ 100000) (h : k (.str v) H) : Cal g 1 false 95 [.ref S, .int i] H k x := by
  have h1 := y.o
  have h2 := y.t
  have hlt := (List.getElem?_eq_some_iff.mp hi).1
  refine' Cal.enter (as' := [.ref S, .int i]) ["self", "number"] ?F ?B ?N ?_
  k_extra "enter"
  repeat' k_extra "w7a"
  refine Op2.itemL (by k_extra "thing") (by lia) (by lia) (by rw [Int.toNat_natCast, List.getElem?_map, hi]; rfl) ?_
  repeat' k_extra "w7a"
  exact h
end
noncomputable def strOf : AV → Str
  | .str u => u
  | _ => Str.ofString ""
noncomputable def intOf : AV → Int
  | .int u => u
  | _ => 0
noncomputable def itsOf : AV → List AV
  | .tup u => u
  | _ => []
theorem fixed_atoms_ex : ∃ av : List AV, (∀ {g : Gd Mine.hp.heap_1} {H : AH} {k x : AV → AH → Prop}, k (.tup av) H → Cal g 1 false 60 [] H k x) ∧ av = (av.map strOf).map .str ∧ ((av.map strOf).foldl addA [])[7]? = some (Str.ofString ",") ∧ av.length ≤ 1000 := by
  refine' ⟨_, ?_, ?_⟩
  rotate_left
  · intro g H k x h
    refine' Cal.enter (as' := []) [] ?F ?B ?N ?_
    k_extra "enter"
    with_reducible refine Exs.cons ?_
    with_reducible refine Ex.ret ?_
    refine' (Pu.tup ?pu ?hz).1 ?hq
    rotate_left
    (case pu => (repeat' (with_reducible first | exact Pu.str | exact Pu.int | exact Pu.bool | refine' PuL.cons ?_ ?_ | exact PuL.nil | refine' Pu.tup ?_ ?_)); all_goals rfl)
    (case hz => rfl)
    repeat' k_extra "w7a"
    exact h
  exact ⟨rfl, by decide +kernel, Nat.le_of_ble_eq_true rfl⟩
theorem fixed_functors_ex : ∃ av : List AV, (∀ {g : Gd Mine.hp.heap_1} {H : AH} {k x : AV → AH → Prop}, k (.tup av) H → Cal g 1 false 67 [] H k x) ∧ av = (av.map fun v => (strOf ((itsOf v)[0]?.getD .none), intOf ((itsOf v)[1]?.getD .none))).map (fun p => .tup [.str p.1, .int p.2]) ∧ av.length ≤ 1000 := by
  refine' ⟨_, ?_, ?_⟩
  rotate_left
  · intro g H k x h
    refine' Cal.enter (as' := []) [] ?F ?B ?N ?_
    k_extra "enter"
    with_reducible refine Exs.cons ?_
    with_reducible refine Ex.ret ?_
    refine' (Pu.tup ?pu ?hz).1 ?hq
    rotate_left
    (case pu => (repeat' (with_reducible first | exact Pu.str | exact Pu.int | exact Pu.bool | refine' PuL.cons ?_ ?_ | exact PuL.nil | refine' Pu.tup ?_ ?_)); all_goals rfl)
    (case hz => rfl)
    repeat' k_extra "w7a"
    exact h
  exact ⟨rfl, Nat.le_of_ble_eq_true rfl⟩
end
end

section
section
variable {g : Gd Mine.hp.heap_1}
theorem addA_len {K : Type} [DecidableEq K] (l : List K) (k : K) : (addA l k).length ≤ l.length + 1 := by
  unfold addA
  split
  · lia
  · simp
theorem addA_ge {K : Type} [DecidableEq K] (l : List K) (k : K) : l.length ≤ (addA l k).length := by
  unfold addA
  split
  · lia
  · simp
theorem addA_get {K : Type} [DecidableEq K] {l : List K} {k u : K} {i : Nat} (h : l[i]? = some u) : (addA l k)[i]? = some u := by
  unfold addA
  split
  · exact h
  · rw [List.getElem?_append_left (List.getElem?_eq_some_iff.mp h).1]; exact h
theorem Keep.putT {H0 H : AH} {tx an : Addr} {ts : List Str} (y : Keep H0 H) (h1 : H0 tx = none) (h2 : H0 an = none) : Keep H0 (Mine.putT H tx an ts) := fun b o e => (upd_ne (ne_fresh h2 e)).trans ((upd_ne (ne_fresh h1 e)).trans (y b o e))
theorem Keep.putF {H0 H : AH} {tx an : Addr} {ts : List (List Int)} (y : Keep H0 H) (h1 : H0 tx = none) (h2 : H0 an = none) : Keep H0 (Mine.putFn H tx an ts) := fun b o e => (upd_ne (ne_fresh h2 e)).trans ((upd_ne (ne_fresh h1 e)).trans (y b o e))
theorem Symbols_spec {H : AH} {k x : AV → AH → Prop}
    (h : ∀ S d tx an fn fnn ts fs H', H S = none → H tx = none → H an = none → H fn = none → H fnn = none → Keep H H' → Sy H' S d tx an fn fnn ts fs → ts[7]? = some (Str.ofString ",") → ts.length ≤ 3000 → fs.length ≤ 1000 → k (.ref S) H') : Cal g 4 true 154 [] H k x := by
  refine Cal.make (fI := 81) ⟨by k_extra "part", by k_extra "part", by k_extra "part"⟩ ?_
  intro S d hS hd hne
  refine' Cal.enter (as' := [.ref S]) ["self"] ?F ?B ?N ?_
  k_extra "enter"
  obtain ⟨av, hav, eav, h7, lav⟩ := fixed_atoms_ex
  obtain ⟨fv, hfv, efv, lfv⟩ := fixed_functors_ex
  repeat' k_extra "step"
  intro tx htx
  repeat' k_extra "step"
  refine Ev.dictS (fun an han => ?_)
  repeat' k_extra "step"
  intro fn hfn
  repeat' k_extra "step"
  refine Ev.dictT (fun fnn hfnn => ?_)
  repeat' k_extra "step"
  have nS := uD htx
  have nd := uD (uN htx)
  have kS := uN (uN htx)
  have nan1 := uD (uN han)
  have nan2 := uD (uN (uN han))
  have nan3 := uD (uN (uN (uN han)))
  have kan := uN (uN (uN (uN han)))
  have nfn0 := uD (uN hfn)
  have nfn1 := uD (uN (uN (uN hfn)))
  have nfn2 := uD (uN (uN (uN (uN hfn))))
  have nfn3 := uD (uN (uN (uN (uN (uN hfn)))))
  have kfn := uN (uN (uN (uN (uN (uN hfn)))))
  have nfnn0 := uD (uN hfnn)
  have nfnn4 := uD (uN (uN (uN hfnn)))
  have nfnn1 := uD (uN (uN (uN (uN (uN hfnn)))))
  have nfnn2 := uD (uN (uN (uN (uN (uN (uN hfnn))))))
  have nfnn3 := uD (uN (uN (uN (uN (uN (uN (uN hfnn)))))))
  have kfnn := uN (uN (uN (uN (uN (uN (uN (uN hfnn)))))))
  refine EvIt.val ?_
  repeat' k_extra "step"
  refine Cal.at (hav ?_) (Ok.leB (by assumption) rfl)
  repeat' k_extra "step"
  rw [eav]
  rw [← List.length_map (f := strOf)] at lav
  generalize av.map strOf = as at h7 lav ⊢
  have y0 : Sy (upd (upd (upd (upd (upd (upd (upd (upd (upd (upd H d (AObj.own S)) S (AObj.inst 154 d [])) tx (AObj.list [])) S (AObj.inst 154 d [(Str.ofString "texts", AV.ref tx)])) an (AObj.dictS [])) S (AObj.inst 154 d [(Str.ofString "texts", AV.ref tx), (Str.ofString "atom_numbers", AV.ref an)])) fn (AObj.list [])) S (AObj.inst 154 d [(Str.ofString "texts", AV.ref tx), (Str.ofString "atom_numbers", AV.ref an), (Str.ofString "functors", AV.ref fn)])) fnn (AObj.dictT [])) S (symO d tx an fn fnn)) S d tx an fn fnn [] [] :=
    ⟨by k_extra "thing", (show _ = some (AObj.list []) by k_extra "thing"), (show _ = some (AObj.dictS []) by k_extra "thing"), (show _ = some (AObj.list []) by k_extra "thing"), (show _ = some (AObj.dictT []) by k_extra "thing"), Ne.symm (by assumption)⟩
  have kp0 : Keep H (upd (upd (upd (upd (upd (upd (upd (upd (upd (upd H d (AObj.own S)) S (AObj.inst 154 d [])) tx (AObj.list [])) S (AObj.inst 154 d [(Str.ofString "texts", AV.ref tx)])) an (AObj.dictS [])) S (AObj.inst 154 d [(Str.ofString "texts", AV.ref tx), (Str.ofString "atom_numbers", AV.ref an)])) fn (AObj.list [])) S (AObj.inst 154 d [(Str.ofString "texts", AV.ref tx), (Str.ofString "atom_numbers", AV.ref an), (Str.ofString "functors", AV.ref fn)])) fnn (AObj.dictT [])) S (symO d tx an fn fnn)) := by
    intro b o e
    have e1 := ne_fresh hS e
    have e2 := ne_fresh hd e
    have e3 := ne_fresh kS e
    have e4 := ne_fresh kan e
    have e5 := ne_fresh kfn e
    have e6 := ne_fresh kfnn e
    repeat (refine upd_other (by assumption) ?_)
    exact e
  revert y0 kp0
  generalize (upd (upd (upd (upd (upd (upd (upd (upd (upd (upd H d (AObj.own S)) S (AObj.inst 154 d [])) tx (AObj.list [])) S (AObj.inst 154 d [(Str.ofString "texts", AV.ref tx)])) an (AObj.dictS [])) S (AObj.inst 154 d [(Str.ofString "texts", AV.ref tx), (Str.ofString "atom_numbers", AV.ref an)])) fn (AObj.list [])) S (AObj.inst 154 d [(Str.ofString "texts", AV.ref tx), (Str.ofString "atom_numbers", AV.ref an), (Str.ofString "functors", AV.ref fn)])) fnn (AObj.dictT [])) S (symO d tx an fn fnn)) = H1
  intro y0 kp0
  refine (?key : ∀ (us : List Str) (ts : List Str) (H' : AH) (ρ : Loc), Sy H' S d tx an fn fnn ts [] → Keep H H' → (us.foldl addA ts)[7]? = some (Str.ofString ",") → ts.length + us.length ≤ 1000 → ρ (Str.ofString "self") = some (.ref S) → ForL g _ _ _ _ _ (us.map AV.str) ρ H') as [] _ _ y0 kp0 h7 (by simpa using lav) (by k_extra "name")
  intro us
  induction us with
  | nil =>
    intro ts H' ρ y kp h7 hl hs
    refine ForL.nil ?_
    repeat' k_extra "step"
    refine EvIt.val ?_
    repeat' k_extra "step"
    refine Cal.at (hfv ?_) (Ok.leB (by assumption) rfl)
    repeat' k_extra "step"
    rw [efv]
    rw [← List.length_map (f := fun v => (strOf ((itsOf v)[0]?.getD AV.none), intOf ((itsOf v)[1]?.getD AV.none)))] at lfv
    generalize (fv.map fun v => (strOf ((itsOf v)[0]?.getD AV.none), intOf ((itsOf v)[1]?.getD AV.none))) = fp at lfv ⊢
    refine (?key2 : ∀ (us : List (Str × Int)) (ts : List Str) (fs : List (List Int)) (H' : AH) (ρ : Loc), Sy H' S d tx an fn fnn ts fs → Keep H H' → ts[7]? = some (Str.ofString ",") → ts.length + us.length ≤ 2000 → fs.length + us.length ≤ 1000 → ρ (Str.ofString "self") = some (.ref S) → ForL g _ _ _ _ _ (us.map fun p => AV.tup [.str p.1, .int p.2]) ρ H') fp ts [] _ _ y kp h7 (by simp at hl; lia) (by simpa using lfv) (by k_extra "name")
    intro us
    induction us with
    | nil =>
      intro ts fs H' ρ y kp h7 hl hl' hs
      refine ForL.nil ?_
      repeat' k_extra "step"
      exact ⟨rfl, h S d tx an fn fnn ts fs H' hS kS kan kfn kfnn kp y h7 (by lia) (by simp at hl'; lia)⟩
    | cons u us ih =>
      intro ts fs H' ρ y kp h7 hl hl' hs
      rw [List.length_cons] at hl hl'
      have hy := y.o
      have l1 := addA_len ts u.1
      have l2 := addA_len fs [(posA ts u.1 : Int), u.2]
      rw [List.map_cons]
      repeat' k_extra "step"
      refine Cal.at (func_spec y (by lia) (by lia) ?_) (Ok.leB (by assumption) rfl)
      repeat' k_extra "step"
      exact turnF_next trivial (ih _ _ _ _ ((y.putT _).putF _) ((kp.putT kS kan).putF kfn kfnn) (addA_get h7) (by lia) (by lia) (by k_extra "name"))
  | cons u us ih =>
    intro ts H' ρ y kp h7 hl hs
    rw [List.length_cons] at hl
    have hy := y.o
    have l1 := addA_len ts u
    rw [List.map_cons]
    repeat' k_extra "step"
    refine Cal.at (atom_spec y (by lia) ?_) (Ok.leB (by assumption) rfl)
    repeat' k_extra "step"
    exact turnF_next trivial (ih _ _ _ (y.putT _) (kp.putT kS kan) h7 (by lia) (by k_extra "name"))
end
end

section
section
variable {g : Gd Mine.hp.heap_1}
theorem fixity_pre {H : AH} {ty : Str} {k x : AV → AH → Prop} (hp : ty = Str.ofString "fx" ∨ ty = Str.ofString "fy") (h : k (.str (Str.ofString "prefix")) H) : Cal g 1 false 435 [.str ty] H k x := by
  refine' Cal.enter (as' := [.str ty]) ["type_text"] ?F ?B ?N ?_
  k_extra "enter"
  repeat' k_extra "step"
  refine Op2.inK (ss := [Str.ofString "fx", Str.ofString "fy"]) (by k_extra "part") (fun h => .cons (.str _ _) (.cons (.str _ _) .nil)) ?_
  rw [decide_eq_true (by rcases hp with rfl | rfl <;> simp)]
  repeat' k_extra "step"
  exact h
theorem fixity_inf {H : AH} {ty : Str} {k x : AV → AH → Prop} (hp : ty = Str.ofString "xfx" ∨ ty = Str.ofString "xfy" ∨ ty = Str.ofString "yfx") (h : k (.str (Str.ofString "infix")) H) : Cal g 1 false 435 [.str ty] H k x := by
  refine' Cal.enter (as' := [.str ty]) ["type_text"] ?F ?B ?N ?_
  k_extra "enter"
  repeat' k_extra "step"
  refine Op2.inK (ss := [Str.ofString "fx", Str.ofString "fy"]) (by k_extra "part") (fun h => .cons (.str _ _) (.cons (.str _ _) .nil)) ?_
  rw [decide_eq_false (by rcases hp with rfl | rfl | rfl <;> decide)]
  repeat' k_extra "step"
  refine Op2.inK (ss := [Str.ofString "xfx", Str.ofString "xfy", Str.ofString "yfx"]) (by k_extra "part") (fun h => .cons (.str _ _) (.cons (.str _ _) (.cons (.str _ _) .nil))) ?_
  rw [decide_eq_true (by rcases hp with rfl | rfl | rfl <;> simp)]
  repeat' k_extra "step"
  exact h
theorem clsOp : ClsF (Mine.hp.heap_1 g.w.params) 509 := ⟨by k_extra "part", by k_extra "part", by k_extra "part", by k_extra "part", by k_extra "part"⟩
noncomputable abbrev opO (d S pr inf po : Addr) : AObj := .inst 509 d [(Str.ofString "symbols", .ref S), (Str.ofString "prefixes", .ref pr), (Str.ofString "infixes", .ref inf), (Str.ofString "postfixes", .ref po)]
section
variable {H : AH} {O d S pr inf po : Addr} {ty : Str} {p a : Int} {xs : List (Int × AV)} {k x : AV → AH → Prop}
theorem table_pre (hO : H O = some (opO d S pr inf po)) (hp : ty = Str.ofString "fx" ∨ ty = Str.ofString "fy") (h : k (.ref pr) H) : Cal g 2 false 492 [.ref O, .str ty] H k x := by
  refine' Cal.enter (as' := [.ref O, .str ty]) ["self", "type_text"] ?F ?B ?N ?_
  k_extra "enter"
  repeat' k_extra "step"
  refine Cal.at (fixity_pre hp ?_) (Ok.leB (by assumption) rfl)
  repeat' k_extra "step"
  exact h
theorem table_inf (hO : H O = some (opO d S pr inf po)) (hp : ty = Str.ofString "xfx" ∨ ty = Str.ofString "xfy" ∨ ty = Str.ofString "yfx") (h : k (.ref inf) H) : Cal g 2 false 492 [.ref O, .str ty] H k x := by
  refine' Cal.enter (as' := [.ref O, .str ty]) ["self", "type_text"] ?F ?B ?N ?_
  k_extra "enter"
  repeat' k_extra "step"
  refine Cal.at (fixity_inf hp ?_) (Ok.leB (by assumption) rfl)
  repeat' k_extra "step"
  exact h
theorem w9a : True := by
  (k_with "w9a" =>
    first
      | (with_reducible show OpL ..
         first
          | k_extra "call"
          | refine Cal.at (table_pre (by k_extra "thing") (by assumption) ?_) (Ok.leB (by assumption) rfl)
          | refine Cal.at (table_inf (by k_extra "thing") (by assumption) ?_) (Ok.leB (by assumption) rfl))
      | k_extra "step")
  trivial
theorem add_pre (hO : H O = some (opO d S pr inf po)) (hT : H pr = some (.dictI xs)) (hz : xs.length ≤ 100000) (h0 : 0 < p) (hp : ty = Str.ofString "fx" ∨ ty = Str.ofString "fy") (h : k .none (upd H pr (.dictI (putA xs a (.tup [.int p, .str ty]))))) : Cal g 3 false 499 [.ref O, .int p, .str ty, .int a] H k x := by
  refine' Cal.enter (as' := [.ref O, .int p, .str ty, .int a]) ["self", "priority", "type_text", "a"] ?F ?B ?N ?_
  k_extra "enter"
  repeat' k_extra "w9a"
  refine OpS.dI (by k_extra "thing") (by lia) ?_
  repeat' k_extra "w9a"
  exact h
theorem add_inf (hO : H O = some (opO d S pr inf po)) (hT : H inf = some (.dictI xs)) (hz : xs.length ≤ 100000) (h0 : 0 < p) (hp : ty = Str.ofString "xfx" ∨ ty = Str.ofString "xfy" ∨ ty = Str.ofString "yfx") (h : k .none (upd H inf (.dictI (putA xs a (.tup [.int p, .str ty]))))) : Cal g 3 false 499 [.ref O, .int p, .str ty, .int a] H k x := by
  refine' Cal.enter (as' := [.ref O, .int p, .str ty, .int a]) ["self", "priority", "type_text", "a"] ?F ?B ?N ?_
  k_extra "enter"
  repeat' k_extra "w9a"
  refine OpS.dI (by k_extra "thing") (by lia) ?_
  repeat' k_extra "w9a"
  exact h
end
noncomputable def rowOf (v : AV) : Int × Str × List Str := (intOf ((itsOf v)[0]?.getD .none), strOf ((itsOf v)[1]?.getD .none), (itsOf ((itsOf v)[2]?.getD .none)).map strOf)
noncomputable def rowAV (r : Int × Str × List Str) : AV := .tup [.int r.1, .str r.2.1, .tup (r.2.2.map .str)]
noncomputable def plainA : List Str := [Str.ofString ".", Str.ofString "a", Str.ofString "b"]
noncomputable def RowOk (r : Int × Str × List Str) : Prop := 0 < r.1 ∧ (r.2.1 = Str.ofString "fx" ∨ r.2.1 = Str.ofString "fy" ∨ r.2.1 = Str.ofString "xfx" ∨ r.2.1 = Str.ofString "xfy" ∨ r.2.1 = Str.ofString "yfx") ∧ (∀ u ∈ r.2.2, u ≠ Str.ofString "," ∧ u ∉ plainA) ∧ r.2.2.length ≤ 100
noncomputable instance (r : Int × Str × List Str) : Decidable (RowOk r) := by unfold RowOk; infer_instance
theorem standard_rows_ex : ∃ av : List AV, (∀ {g : Gd Mine.hp.heap_1} {H : AH} {k x : AV → AH → Prop}, k (.tup av) H → Cal g 1 false 421 [] H k x) ∧ av = (av.map rowOf).map rowAV ∧ (∀ r ∈ av.map rowOf, RowOk r) ∧ av.length ≤ 100 := by
  refine' ⟨_, ?_, ?_⟩
  rotate_left
  · intro g H k x h
    refine' Cal.enter (as' := []) [] ?F ?B ?N ?_
    k_extra "enter"
    with_reducible refine Exs.cons ?_
    with_reducible refine Ex.ret ?_
    refine' (Pu.tup ?pu ?hz).1 ?hq
    rotate_left
    (case pu => (repeat' (with_reducible first | exact Pu.str | exact Pu.int | exact Pu.bool | refine' PuL.cons ?_ ?_ | exact PuL.nil | refine' Pu.tup ?_ ?_)); all_goals rfl)
    (case hz => rfl)
    repeat' k_extra "w9a"
    exact h
  exact ⟨rfl, by decide +kernel, Nat.le_of_ble_eq_true rfl⟩
noncomputable def flagOf (v : AV) : Str × Str × List Str × Bool := (strOf ((itsOf v)[0]?.getD .none), strOf ((itsOf v)[1]?.getD .none), (itsOf ((itsOf v)[2]?.getD .none)).map strOf, match (itsOf v)[3]?.getD .none with | .bool b => b | _ => false)
noncomputable def flagAV (r : Str × Str × List Str × Bool) : AV := .tup [.str r.1, .str r.2.1, .tup (r.2.2.1.map .str), .bool r.2.2.2]
theorem flag_rows_ex : ∃ av : List AV, (∀ {g : Gd Mine.hp.heap_1} {H : AH} {k x : AV → AH → Prop}, k (.tup av) H → Cal g 1 false 428 [] H k x) ∧ av = (av.map flagOf).map flagAV ∧ (Str.ofString "double_quotes") ∈ (av.map flagOf).map (·.1) ∧ av.length ≤ 100 := by
  refine' ⟨_, ?_, ?_⟩
  rotate_left
  · intro g H k x h
    refine' Cal.enter (as' := []) [] ?F ?B ?N ?_
    k_extra "enter"
    with_reducible refine Exs.cons ?_
    with_reducible refine Ex.ret ?_
    refine' (Pu.tup ?pu ?hz).1 ?hq
    rotate_left
    (case pu => (repeat' (with_reducible first | exact Pu.str | exact Pu.int | exact Pu.bool | refine' PuL.cons ?_ ?_ | exact PuL.nil | refine' Pu.tup ?_ ?_)); all_goals rfl)
    (case hz => rfl)
    repeat' k_extra "w9a"
    exact h
  exact ⟨rfl, by decide +kernel, Nat.le_of_ble_eq_true rfl⟩
end
end

section
section
variable {g : Gd Mine.hp.heap_1}
theorem getA_put_ne {K : Type} [DecidableEq K] {k k' : K} {v : AV} (n : k ≠ k') : ∀ (xs : List (K × AV)), getA (putA xs k v) k' = getA xs k' := by
  intro xs
  unfold putA
  split
  · induction xs with
    | nil => rfl
    | cons p xs ih =>
      unfold getA at ih ⊢
      by_cases q : p.1 = k
      · simp only [List.map_cons, q, if_true, List.find?_cons, decide_eq_false n]
        rename_i h
        by_cases h' : (xs.any fun kv => decide (kv.1 = k)) = true
        · have := ih h'
          exact this
        · have e : xs.map (fun kv => if kv.1 = k then (kv.1, v) else kv) = xs := by
            conv => rhs; rw [← List.map_id xs]
            refine List.map_congr_left fun y hy => if_neg fun e => h' (List.any_eq_true.mpr ⟨y, hy, decide_eq_true e⟩)
          rw [e]
      · rename_i h
        simp only [List.any_cons, q, decide_false, Bool.false_or] at h
        have := ih h
        simp only [List.map_cons, q, if_false, List.find?_cons]
        split
        · rfl
        · exact this
  · unfold getA
    rw [List.find?_append]
    simp [n]
theorem posA_ne {l : List Str} {i : Nat} {u c : Str} (h : l[i]? = some c) (n : u ≠ c) : posA l u ≠ i := fun e => by
  unfold posA at e
  have hlt := (List.getElem?_eq_some_iff.mp h).1
  have := List.getElem_idxOf (x := u) (xs := l) (by lia)
  obtain ⟨_, h2⟩ := List.getElem?_eq_some_iff.mp h
  subst e
  exact n (this.symm.trans h2)
noncomputable def KeepB (a b : Addr) (H H' : AH) : Prop := ∀ y o, y ≠ a → y ≠ b → H y = some o → H' y = some o
theorem KeepB.putT {H0 H : AH} {tx an : Addr} {ts : List Str} (y : KeepB tx an H0 H) : KeepB tx an H0 (Mine.putT H tx an ts) := fun b o n1 n2 e => (upd_ne n2).trans ((upd_ne n1).trans (y b o n1 n2 e))
theorem KeepB.upd {H0 H : AH} {tx an a : Addr} {o : AObj} (y : KeepB tx an H0 H) (h : H0 a = none) : KeepB tx an H0 (Mine.upd H a o) := fun b o n1 n2 e => (upd_ne (ne_fresh h e)).trans (y b o n1 n2 e)
theorem addA_pre {ts0 ts : List Str} (h : ts0 <+: ts) (u : Str) : ts0 <+: addA ts u := by
  unfold addA
  split
  · exact h
  · exact h.trans (List.prefix_append _ _)
theorem pre_get {ts0 ts : List Str} (h : ts0 <+: ts) {i : Nat} {u : Str} (e : ts0[i]? = some u) : ts[i]? = some u := by
  obtain ⟨w, rfl⟩ := h
  rw [List.getElem?_append_left (List.getElem?_eq_some_iff.mp e).1]; exact e
structure OpI (ts0 : List Str) (H0 H : AH) (S dS tx an fn fnn O d pr inf po : Addr) (ts : List Str) (fs : List (List Int)) (xp xi : List (Int × AV)) : Prop where
  y : Sy H S dS tx an fn fnn ts fs
  o : H O = some (opO d S pr inf po)
  p : H pr = some (.dictI xp)
  i : H inf = some (.dictI xi)
  q : H po = some (.dictI [])
  k : KeepB tx an H0 H
  c : ts[7]? = some (Str.ofString ",")
  e : getA xi 7 = some (.tup [.int 1000, .str (Str.ofString "xfy")])
  np : pr ≠ inf
  nq : pr ≠ po
  nr : inf ≠ po
  pp : ts0 <+: ts
  w : ∀ u ∈ plainA, ∀ i : Nat, ts0[i]? = some u → getA xp i = none ∧ getA xi i = none
section
variable {H0 H : AH} {S dS tx an fn fnn O d pr inf po : Addr} {ts0 ts : List Str} {fs : List (List Int)} {xp xi : List (Int × AV)}
theorem OpI.putT (I : OpI ts0 H0 H S dS tx an fn fnn O d pr inf po ts fs xp xi) (u : Str) : OpI ts0 H0 (Mine.putT H tx an (addA ts u)) S dS tx an fn fnn O d pr inf po (addA ts u) fs xp xi := by
  obtain ⟨y, h1, h2, h3, h4, h5, h6, h7, h8, h9, h10, h11, h12⟩ := I
  have a1 : O ≠ tx := ne_kind h1 y.t rfl
  have a2 : O ≠ an := ne_kind h1 y.a rfl
  have a3 : pr ≠ tx := ne_kind h2 y.t rfl
  have a4 : pr ≠ an := ne_kind h2 y.a rfl
  have a5 : inf ≠ tx := ne_kind h3 y.t rfl
  have a6 : inf ≠ an := ne_kind h3 y.a rfl
  have a7 : po ≠ tx := ne_kind h4 y.t rfl
  have a8 : po ≠ an := ne_kind h4 y.a rfl
  exact ⟨y.putT _, by k_extra "thing", by k_extra "thing", by k_extra "thing", by k_extra "thing", h5.putT, addA_get h6, h7, h8, h9, h10, addA_pre h11 _, h12⟩
theorem OpI.putP (I : OpI ts0 H0 H S dS tx an fn fnn O d pr inf po ts fs xp xi) (f : H0 pr = none) {a : Int} {v : AV} (hp : ∀ u ∈ plainA, ∀ i : Nat, ts0[i]? = some u → a ≠ i) : OpI ts0 H0 (Mine.upd H pr (.dictI (putA xp a v))) S dS tx an fn fnn O d pr inf po ts fs (putA xp a v) xi := by
  obtain ⟨⟨y1, y2, y3, y4, y5, y6⟩, h1, h2, h3, h4, h5, h6, h7, h8, h9, h10, h11, h12⟩ := I
  exact ⟨⟨by k_extra "thing", by k_extra "thing", by k_extra "thing", by k_extra "thing", by k_extra "thing", y6⟩, by k_extra "thing", by k_extra "thing", by k_extra "thing", by k_extra "thing", h5.upd f, h6, h7, h8, h9, h10, h11, fun u hu i e => ⟨(getA_put_ne (hp u hu i e) _).trans (h12 u hu i e).1, (h12 u hu i e).2⟩⟩
theorem OpI.putI (I : OpI ts0 H0 H S dS tx an fn fnn O d pr inf po ts fs xp xi) (f : H0 inf = none) {a : Int} {v : AV} (ha : a ≠ 7) (hp : ∀ u ∈ plainA, ∀ i : Nat, ts0[i]? = some u → a ≠ i) : OpI ts0 H0 (Mine.upd H inf (.dictI (putA xi a v))) S dS tx an fn fnn O d pr inf po ts fs xp (putA xi a v) := by
  obtain ⟨⟨y1, y2, y3, y4, y5, y6⟩, h1, h2, h3, h4, h5, h6, h7, h8, h9, h10, h11, h12⟩ := I
  exact ⟨⟨by k_extra "thing", by k_extra "thing", by k_extra "thing", by k_extra "thing", by k_extra "thing", y6⟩, by k_extra "thing", by k_extra "thing", by k_extra "thing", by k_extra "thing", h5.upd f, h6, (getA_put_ne ha _).trans h7, h8, h9, h10, h11, fun u hu i e => ⟨(h12 u hu i e).1, (getA_put_ne (hp u hu i e) _).trans (h12 u hu i e).2⟩⟩
end
theorem OperatorTable_spec {H : AH} {S dS tx an fn fnn : Addr} {ts : List Str} {fs : List (List Int)} {k x : AV → AH → Prop} (y : Sy H S dS tx an fn fnn ts fs) (h7 : ts[7]? = some (Str.ofString ",")) (hz : ts.length ≤ 3100)
    (h : ∀ O d pr inf po ts' xp xi H', H O = none → H pr = none → H inf = none → H po = none → OpI ts H H' S dS tx an fn fnn O d pr inf po ts' fs xp xi → ts'.length ≤ 20000 → k (.ref O) H') : Cal g 5 true 509 [.ref S] H k x := by
  refine Cal.make (fI := 457) ⟨by k_extra "part", by k_extra "part", by k_extra "part"⟩ ?_
  intro O d hO hd hne
  obtain ⟨av, hav, eav, hrow, lav⟩ := standard_rows_ex
  refine' Cal.enter (as' := [.ref O, .ref S, .bool true]) ["self", "symbols", "standard"] ?F ?B ?N ?_
  (case F => exact ⟨⟨_, _, _, by k_extra "part"⟩, by k_extra "part"⟩)
  (case B =>
    intro s vs hv K
    obtain ⟨v, w, rfl, h1, h2⟩ := hv.inv2
    exact ⟨[v, w, .bool true], .cons h1 (.cons h2 (VRs.cons (.bool _) .nil)), binds_K K rfl (by k_extra "part") rfl rfl rfl⟩)
  (case N => k_extra "eq")
  intro A L ok
  dsimp only [locOf]
  have hS := y.o
  have nS := ne_fresh hO hS
  have nS' := ne_fresh hd hS
  repeat' k_extra "step"
  refine Ev.dictI (fun pr hpr => ?_)
  repeat' k_extra "step"
  refine Ev.dictI (fun inf hinf => ?_)
  repeat' k_extra "step"
  refine Ev.dictI (fun po hpo => ?_)
  repeat' k_extra "step"
  have p1 := uD hpr
  have p2 := uD (uN (uN hpr))
  have p3 := uN (uN (uN hpr))
  have i1 := uD hinf
  have i2 := uD (uN hinf)
  have i3 := uD (uN (uN (uN (uN hinf))))
  have i4 := uN (uN (uN (uN (uN hinf))))
  have q1 := uD hpo
  have q2 := uD (uN hpo)
  have q3 := uD (uN (uN (uN hpo)))
  have q4 := uD (uN (uN (uN (uN (uN (uN hpo))))))
  have q5 := uN (uN (uN (uN (uN (uN (uN hpo))))))
  refine Cal.at (add_inf (xs := []) (by k_extra "thing") (by k_extra "thing") (Nat.zero_le _) (by decide) (by simp) ?_) (Ok.leB (by assumption) rfl)
  repeat' k_extra "step"
  refine EvIt.val ?_
  repeat' k_extra "step"
  refine Cal.at (hav ?_) (Ok.leB (by assumption) rfl)
  repeat' k_extra "step"
  rw [eav]
  rw [← List.length_map (f := rowOf)] at lav
  generalize av.map rowOf = rows at hrow lav ⊢
  refine (?key : ∀ (rs : List (Int × Str × List Str)) (ts' : List Str) (xp xi : List (Int × AV)) (H' : AH) (ρ : Loc), OpI ts H H' S dS tx an fn fnn O d pr inf po ts' fs xp xi → (∀ r ∈ rs, RowOk r) → ts'.length + 100 * rs.length ≤ 20000 → xp.length + 100 * rs.length ≤ 20000 → xi.length + 100 * rs.length ≤ 20000 → ρ (Str.ofString "self") = some (.ref O) → ρ (Str.ofString "symbols") = some (.ref S) → ForL g _ _ _ _ _ (rs.map rowAV) ρ H') rows ts [] (putA [] 7 (.tup [.int 1000, .str (Str.ofString "xfy")])) _ _ ?I0 hrow (by lia) (by simp; lia) (by have := putA_len ([] : List (Int × AV)) 7 (.tup [.int 1000, .str (Str.ofString "xfy")]); simp at this; lia) (by k_extra "name") (by k_extra "name")
  case I0 =>
    obtain ⟨y1, y2, y3, y4, y5, y6⟩ := y
    refine ⟨⟨by k_extra "thing", by k_extra "thing", by k_extra "thing", by k_extra "thing", by k_extra "thing", y6⟩, by k_extra "thing", by k_extra "thing", by k_extra "thing", by k_extra "thing", fun b o n1 n2 e => by k_extra "thing", h7, rfl, Ne.symm i2, Ne.symm q3, Ne.symm q2, List.prefix_refl _, fun u hu i e => ⟨rfl, getA_put_ne (fun q => ?_) []⟩⟩
    have q : i = 7 := by lia
    subst q
    rw [h7] at e
    injection e with e
    subst e
    exact absurd hu (by decide)
  intro rs
  induction rs with
  | nil =>
    intro ts' xp xi H' ρ I _ l1 l2 l3 hs hs'
    refine ForL.nil ?_
    repeat' k_extra "step"
    exact ⟨rfl, h O d pr inf po ts' xp xi H' hO p3 i4 q5 I (by simp at l1; lia)⟩
  | cons r rs ih =>
    intro ts' xp xi H' ρ I hr l1 l2 l3 hs hs'
    obtain ⟨r1, r2, r3, r4⟩ := hr r (.head _)
    rw [List.length_cons] at l1 l2 l3
    rw [List.map_cons]
    refine ForL.cons ?_
    show As g _ _ (AV.tup [.int r.1, .str r.2.1, .tup (r.2.2.map .str)]) _ _ _
    repeat' k_extra "step"
    refine EvIt.val ?_
    repeat' k_extra "step"
    refine (?key2 : ∀ (us : List Str) (ts' : List Str) (xp xi : List (Int × AV)) (H' : AH) (ρ : Loc), OpI ts H H' S dS tx an fn fnn O d pr inf po ts' fs xp xi → (∀ u ∈ us, u ≠ Str.ofString "," ∧ u ∉ plainA) → ts'.length + us.length + 100 * rs.length ≤ 20000 → xp.length + us.length + 100 * rs.length ≤ 20000 → xi.length + us.length + 100 * rs.length ≤ 20000 → ρ (Str.ofString "self") = some (.ref O) → ρ (Str.ofString "symbols") = some (.ref S) → ρ (Str.ofString "priority") = some (.int r.1) → ρ (Str.ofString "type_text") = some (.str r.2.1) → ForL g _ _ _ _ _ (us.map AV.str) ρ H') r.2.2 ts' xp xi _ _ I r3 (by lia) (by lia) (by lia) (by k_extra "name") (by k_extra "name") (by k_extra "name") (by k_extra "name")
    intro us
    induction us with
    | nil =>
      intro ts' xp xi H' ρ I _ l1 l2 l3 hs hs' hs2 hs3
      refine ForL.nil ?_
      repeat' k_extra "step"
      exact turnF_next trivial (ih ts' xp xi H' ρ I (fun q hq => hr q (.tail _ hq)) (by simp at l1; lia) (by simp at l2; lia) (by simp at l3; lia) hs hs')
    | cons u us ih2 =>
      intro ts' xp xi H' ρ I hu l1 l2 l3 hs hs' hs2 hs3
      rw [List.length_cons] at l1 l2 l3
      have iO := I.o
      have iS := I.y.o
      have yy := I.y
      have g1 := addA_len ts' u
      have I2 := I.putT u
      have iO2 := I2.o
      have iP2 := I2.p
      have iI2 := I2.i
      have n7 := posA_ne I.c (hu u (.head _)).1
      have hpl : ∀ v ∈ plainA, ∀ i : Nat, ts[i]? = some v → ((posA ts' u : Nat) : Int) ≠ i := fun v hv i e q => posA_ne (u := u) (pre_get I.pp e) (fun q' => (hu u (.head _)).2 (by rw [q']; exact hv)) (Int.natCast_inj.mp q)
      rw [List.map_cons]
      repeat' k_extra "step"
      refine Cal.at (atom_spec I.y (by lia) ?_) (Ok.leB (by assumption) rfl)
      repeat' k_extra "step"
      have r2' : (r.2.1 = Str.ofString "fx" ∨ r.2.1 = Str.ofString "fy") ∨ (r.2.1 = Str.ofString "xfx" ∨ r.2.1 = Str.ofString "xfy" ∨ r.2.1 = Str.ofString "yfx") := by
        rcases r2 with q | q | q | q | q
        · exact .inl (.inl q)
        · exact .inl (.inr q)
        · exact .inr (.inl q)
        · exact .inr (.inr (.inl q))
        · exact .inr (.inr (.inr q))
      clear r2
      rcases r2' with r2 | r2
      · refine Cal.at (add_pre iO2 iP2 (by lia) r1 r2 ?_) (Ok.leB (by assumption) rfl)
        repeat' k_extra "step"
        have g2 := putA_len xp (posA ts' u : Int) (.tup [.int r.1, .str r.2.1])
        exact turnF_next trivial (ih2 _ _ _ _ _ (I2.putP p3 hpl) (fun q hq => hu q (.tail _ hq)) (by lia) (by lia) (by lia) (by k_extra "name") (by k_extra "name") (by k_extra "name") (by k_extra "name"))
      · refine Cal.at (add_inf iO2 iI2 (by lia) r1 r2 ?_) (Ok.leB (by assumption) rfl)
        repeat' k_extra "step"
        have g2 := putA_len xi (posA ts' u : Int) (.tup [.int r.1, .str r.2.1])
        exact turnF_next trivial (ih2 _ _ _ _ _ (I2.putI i4 (by lia) hpl) (fun q hq => hu q (.tail _ hq)) (by lia) (by lia) (by lia) (by k_extra "name") (by k_extra "name") (by k_extra "name") (by k_extra "name"))
end
end

section
section
variable {g : Gd Mine.hp.heap_1}
theorem clsFlags : ClsF (Mine.hp.heap_1 g.w.params) 565 := ⟨by k_extra "part", by k_extra "part", by k_extra "part", by k_extra "part", by k_extra "part"⟩
theorem getA_put_same {K : Type} [DecidableEq K] {k : K} {v : AV} (xs : List (K × AV)) : getA (putA xs k v) k = some v := by
  unfold putA
  split
  · rename_i h
    induction xs with
    | nil => cases h
    | cons p xs ih =>
      unfold getA at ih ⊢
      by_cases q : p.1 = k
      · simp only [List.map_cons, q, if_true, List.find?_cons, decide_true, Option.map_some]
      · simp only [List.any_cons, q, decide_false, Bool.false_or] at h
        simp only [List.map_cons, q, if_false, List.find?_cons, decide_false]
        exact ih h
  · rename_i h
    unfold getA
    rw [List.find?_append]
    have e : xs.find? (fun kv => decide (kv.1 = k)) = none := by
      rw [List.find?_eq_none]
      intro y hy e
      exact h (List.any_eq_true.mpr ⟨y, hy, e⟩)
    rw [e]
    simp
theorem posA_lt {l : List Str} {u : Str} : posA l u < (addA l u).length := by
  unfold addA posA
  split
  · exact List.idxOf_lt_length_iff.mpr (by assumption)
  · rw [List.idxOf_eq_length (by assumption)]; simp
noncomputable abbrev flO (d S va fi fx : Addr) : AObj := .inst 565 d [(Str.ofString "symbols", .ref S), (Str.ofString "values", .ref va), (Str.ofString "fitting", .ref fi), (Str.ofString "fixed", .ref fx)]
structure FlI (ts0 : List Str) (H0 H : AH) (S dS tx an fn fnn F d va fi fx : Addr) (ts : List Str) (fs : List (List Int)) (xv : List (Str × AV)) (yf : List (Str × AV)) (zf : List AV) (seen : List Str) : Prop where
  y : Sy H S dS tx an fn fnn ts fs
  o : H F = some (flO d S va fi fx)
  v : H va = some (.dictS xv)
  f : H fi = some (.dictS yf)
  x : H fx = some (.list zf)
  k : KeepB tx an H0 H
  g : ∀ u ∈ seen, ∃ i : Nat, getA xv u = some (.int i) ∧ i < ts.length
  n1 : va ≠ fi
  n2 : va ≠ an
  n3 : fi ≠ an
  n4 : fx ≠ tx
  n5 : fx ≠ fn
  pp : ts0 <+: ts
section
variable {H0 H : AH} {S dS tx an fn fnn F d va fi fx : Addr} {ts0 ts : List Str} {fs : List (List Int)} {xv yf : List (Str × AV)} {zf : List AV} {seen : List Str}
theorem FlI.turn (I : FlI ts0 H0 H S dS tx an fn fnn F d va fi fx ts fs xv yf zf seen) (h1 : H0 va = none) (h2 : H0 fi = none) (u s : Str) (w : AV) :
    FlI ts0 H0 (upd (upd (putT H tx an (addA ts s)) va (.dictS (putA xv u (.int (posA ts s : Nat))))) fi (.dictS (putA yf u w))) S dS tx an fn fnn F d va fi fx (addA ts s) fs (putA xv u (.int (posA ts s : Nat))) (putA yf u w) zf (u :: seen) := by
  obtain ⟨⟨y1, y2, y3, y4, y5, y6⟩, b1, b2, b3, b4, b5, b6, b7, b8, b9, b10, b11, b12⟩ := I
  have a1 : F ≠ tx := ne_kind b1 y2 rfl
  have a2 : F ≠ an := ne_kind b1 y3 rfl
  have a3 : F ≠ va := ne_kind b1 b2 rfl
  have a4 : F ≠ fi := ne_kind b1 b3 rfl
  have a5 : S ≠ tx := ne_kind y1 y2 rfl
  have a6 : S ≠ an := ne_kind y1 y3 rfl
  have a7 : S ≠ va := ne_kind y1 b2 rfl
  have a8 : S ≠ fi := ne_kind y1 b3 rfl
  have a9 : tx ≠ an := ne_kind y2 y3 rfl
  have a10 : tx ≠ va := ne_kind y2 b2 rfl
  have a11 : tx ≠ fi := ne_kind y2 b3 rfl
  have a12 : fn ≠ an := ne_kind y4 y3 rfl
  have a13 : fn ≠ va := ne_kind y4 b2 rfl
  have a14 : fn ≠ fi := ne_kind y4 b3 rfl
  have a15 : fnn ≠ tx := ne_kind y5 y2 rfl
  have a16 : fnn ≠ an := ne_kind y5 y3 rfl
  have a17 : fnn ≠ va := ne_kind y5 b2 rfl
  have a18 : fnn ≠ fi := ne_kind y5 b3 rfl
  have a19 : fx ≠ an := ne_kind b4 y3 rfl
  have a20 : fx ≠ va := ne_kind b4 b2 rfl
  have a21 : fx ≠ fi := ne_kind b4 b3 rfl
  refine ⟨⟨by k_extra "thing", by k_extra "thing", by k_extra "thing", by k_extra "thing", by k_extra "thing", y6⟩, by k_extra "thing", by k_extra "thing", by k_extra "thing", by k_extra "thing", (b5.putT.upd h1).upd h2, fun z hz => ?_, b7, b8, b9, b10, b11, addA_pre b12 _⟩
  by_cases q : u = z
  · subst q
    exact ⟨_, getA_put_same _, posA_lt⟩
  · rw [getA_put_ne q]
    rcases List.mem_cons.mp hz with e | hz
    · exact absurd e.symm q
    · obtain ⟨i, e1, e2⟩ := b6 z hz
      exact ⟨i, e1, Nat.lt_of_lt_of_le e2 (addA_ge _ _)⟩
theorem FlI.app (I : FlI ts0 H0 H S dS tx an fn fnn F d va fi fx ts fs xv yf zf seen) (h1 : H0 fx = none) (w : AV) :
    FlI ts0 H0 (upd H fx (.list (zf ++ [w]))) S dS tx an fn fnn F d va fi fx ts fs xv yf (zf ++ [w]) seen := by
  obtain ⟨⟨y1, y2, y3, y4, y5, y6⟩, b1, b2, b3, b4, b5, b6, b7, b8, b9, b10, b11, b12⟩ := I
  exact ⟨⟨by k_extra "thing", by k_extra "thing", by k_extra "thing", by k_extra "thing", by k_extra "thing", y6⟩, by k_extra "thing", by k_extra "thing", by k_extra "thing", by k_extra "thing", b5.upd h1, b6, b7, b8, b9, b10, b11, b12⟩
end
theorem Flags_spec {H : AH} {S dS tx an fn fnn : Addr} {ts : List Str} {fs : List (List Int)} {k x : AV → AH → Prop} (y : Sy H S dS tx an fn fnn ts fs) (hz : ts.length ≤ 30000)
    (h : ∀ F d va fi fx ts' xv yf zf seen H', H F = none → H va = none → H fi = none → H fx = none → FlI ts H H' S dS tx an fn fnn F d va fi fx ts' fs xv yf zf seen → ts'.length ≤ 40000 → (Str.ofString "double_quotes") ∈ seen → k (.ref F) H') : Cal g 5 true 565 [.ref S] H k x := by
  refine Cal.make (fI := 527) ⟨by k_extra "part", by k_extra "part", by k_extra "part"⟩ ?_
  intro F d hF hd hne
  obtain ⟨av, hav, eav, hdq, lav⟩ := flag_rows_ex
  refine' Cal.enter (as' := [.ref F, .ref S]) ["self", "symbols"] ?F ?B ?N ?_
  k_extra "enter"
  have hS := y.o
  repeat' k_extra "step"
  refine Ev.dictS (fun va hva => ?_)
  repeat' k_extra "step"
  refine Ev.dictS (fun fi hfi => ?_)
  repeat' k_extra "step"
  intro fx hfx
  repeat' k_extra "step"
  refine EvIt.val ?_
  repeat' k_extra "step"
  refine Cal.at (hav ?_) (Ok.leB (by assumption) rfl)
  repeat' k_extra "step"
  have p1 := uD hva
  have p2 := uD (uN (uN hva))
  have p3 := uN (uN (uN hva))
  have i1 := uD hfi
  have i2 := uD (uN hfi)
  have i3 := uD (uN (uN (uN (uN hfi))))
  have i4 := uN (uN (uN (uN (uN hfi))))
  have q1 := uD hfx
  have q2 := uD (uN hfx)
  have q3 := uD (uN (uN (uN hfx)))
  have q4 := uD (uN (uN (uN (uN (uN (uN hfx))))))
  have q5 := uN (uN (uN (uN (uN (uN (uN hfx))))))
  rw [eav]
  rw [← List.length_map (f := flagOf)] at lav
  generalize av.map flagOf = rows at hdq lav ⊢
  refine (?key : ∀ (rs : List (Str × Str × List Str × Bool)) (ts' : List Str) (xv yf : List (Str × AV)) (zf : List AV) (seen : List Str) (H' : AH) (ρ : Loc), FlI ts H H' S dS tx an fn fnn F d va fi fx ts' fs xv yf zf seen → (Str.ofString "double_quotes" ∈ rs.map (·.1) ∨ Str.ofString "double_quotes" ∈ seen) → ts'.length + rs.length ≤ 40000 → xv.length + rs.length ≤ 40000 → yf.length + rs.length ≤ 40000 → zf.length + rs.length ≤ 40000 → ρ (Str.ofString "self") = some (.ref F) → ρ (Str.ofString "symbols") = some (.ref S) → ForL g _ _ _ _ _ (rs.map flagAV) ρ H') rows ts [] [] [] [] _ _ ?I0 (.inl hdq) (by lia) (by simp; lia) (by simp; lia) (by simp; lia) (by k_extra "name") (by k_extra "name")
  case I0 =>
    obtain ⟨y1, y2, y3, y4, y5, y6⟩ := y
    refine ⟨⟨by k_extra "thing", by k_extra "thing", by k_extra "thing", by k_extra "thing", by k_extra "thing", y6⟩, by k_extra "thing", by k_extra "thing", by k_extra "thing", by k_extra "thing", fun b o n1 n2 e => by k_extra "thing", (fun _ h => nomatch h), Ne.symm i2, Ne.symm (ne_fresh p3 y3), Ne.symm (ne_fresh i4 y3), Ne.symm (ne_fresh q5 y2), Ne.symm (ne_fresh q5 y4), List.prefix_refl _⟩
  intro rs
  induction rs with
  | nil =>
    intro ts' xv yf zf seen H' ρ I hm l1 l2 l3 l4 hs hs'
    refine ForL.nil ?_
    repeat' k_extra "step"
    exact ⟨rfl, h F d va fi fx ts' xv yf zf seen H' hF p3 i4 q5 I (by simp at l1; lia) (by simpa using hm)⟩
  | cons r rs ih =>
    intro ts' xv yf zf seen H' ρ I hm l1 l2 l3 l4 hs hs'
    rw [List.length_cons] at l1 l2 l3 l4
    have iF := I.o
    have iS := I.y.o
    have iv := I.v
    have if' := I.f
    have g1 := addA_len ts' r.2.1
    have I2 := I.turn p3 i4 r.1 r.2.1 (.tup (r.2.2.1.map .str))
    have iF2 := I2.o
    have ix2 := I2.x
    have a1 : F ≠ tx := ne_kind iF I.y.t rfl
    have a2 : F ≠ an := ne_kind iF I.y.a rfl
    have a3 : F ≠ va := ne_kind iF iv rfl
    have a4 : F ≠ fi := ne_kind iF if' rfl
    have a10 : va ≠ tx := ne_kind iv I.y.t rfl
    have a11 : fi ≠ tx := ne_kind if' I.y.t rfl
    have n1 := I.n1
    have n2 := I.n2
    have n3 := I.n3
    have g2 := putA_len xv r.1 (.int (posA ts' r.2.1 : Nat))
    have g3 := putA_len yf r.1 (.tup (r.2.2.1.map .str))
    rw [List.map_cons]
    refine ForL.cons ?_
    show As g _ _ (AV.tup [.str r.1, .str r.2.1, .tup (r.2.2.1.map .str), .bool r.2.2.2]) _ _ _
    repeat' k_extra "step"
    refine Cal.at (atom_spec I.y (by lia) ?_) (Ok.leB (by assumption) rfl)
    repeat' k_extra "step"
    refine OpS.dS (by k_extra "thing") (by lia) ?_
    repeat' k_extra "step"
    refine OpS.dS (by k_extra "thing") (by lia) ?_
    repeat' k_extra "step"
    have hm' : Str.ofString "double_quotes" ∈ rs.map (·.1) ∨ Str.ofString "double_quotes" ∈ r.1 :: seen := by
      rw [List.map_cons, List.mem_cons] at hm
      rcases hm with (e | e) | e
      · exact .inr (e ▸ .head _)
      · exact .inl e
      · exact .inr (.tail _ e)
    generalize r.2.2.2 = free
    cases free with
    | true =>
      rw [if_neg (by decide)]
      repeat' k_extra "step"
      exact turnF_next trivial (ih _ _ _ _ _ _ _ I2 hm' (by lia) (by lia) (by lia) (by lia) (by k_extra "name") (by k_extra "name"))
    | false =>
      rw [if_pos (by decide)]
      revert I2 iF2 ix2
      generalize (upd (upd (putT H' tx an (addA ts' r.2.1)) va (AObj.dictS (putA xv r.1 (AV.int (posA ts' r.2.1 : Nat))))) fi (AObj.dictS (putA yf r.1 (AV.tup (List.map AV.str r.2.2.1))))) = H2
      intro I2 iF2 ix2
      repeat' k_extra "step"
      exact turnF_next trivial (ih _ _ _ _ _ _ _ (I2.app q5 _) hm' (by lia) (by lia) (by lia) (by simp; lia) (by k_extra "name") (by k_extra "name"))
section
variable {H : AH} {n : Int} {k x : AV → AH → Prop}
theorem var_spec (h : k (.tup [.str (Str.ofString "v"), .int n]) H) : Cal g 1 false 382 [.int n] H k x := by
  refine' Cal.enter (as' := [.int n]) ["number"] ?F ?B ?N ?_
  k_extra "enter"
  repeat' k_extra "step"
  exact h
theorem atomT_spec (h : k (.tup [.str (Str.ofString "a"), .int n]) H) : Cal g 1 false 389 [.int n] H k x := by
  refine' Cal.enter (as' := [.int n]) ["number"] ?F ?B ?N ?_
  k_extra "enter"
  repeat' k_extra "step"
  exact h
theorem struct_spec {us : List AV} (h : k (.tup [.str (Str.ofString "s"), .int n, .tup us]) H) : Cal g 1 false 403 [.int n, .tup us] H k x := by
  refine' Cal.enter (as' := [.int n, .tup us]) ["functor", "args"] ?F ?B ?N ?_
  k_extra "enter"
  repeat' k_extra "step"
  refine OpL.tupleT ?_
  repeat' k_extra "step"
  exact h
end
end
end

section
section
variable {g : Gd Mine.hp.heap_1}
noncomputable def KeepL (l : List Addr) (H H' : AH) : Prop := ∀ b o, b ∉ l → H b = some o → H' b = some o
theorem KeepL.refl (l : List Addr) (H : AH) : KeepL l H H := fun _ _ _ e => e
theorem KeepL.trans {l : List Addr} {H H' H'' : AH} (x : KeepL l H H') (y : KeepL l H' H'') : KeepL l H H'' := fun b o n e => y b o n (x b o n e)
theorem KeepL.mono {l l' : List Addr} {H H' : AH} (x : KeepL l H H') (s : ∀ a ∈ l, a ∈ l') : KeepL l' H H' := fun b o n e => x b o (fun h => n (s b h)) e
theorem KeepL.upd {l : List Addr} {H H' : AH} {a : Addr} {o : AObj} (x : KeepL l H H') (h : a ∈ l) : KeepL l H (Mine.upd H' a o) := fun b ob n e => (upd_ne fun q => n (by rw [q]; exact h)).trans (x b ob n e)
theorem KeepL.fresh {l : List Addr} {H H' : AH} {a : Addr} {o : AObj} (x : KeepL l H H') (h : H a = none) : KeepL l H (Mine.upd H' a o) := fun b ob n e => (upd_ne (ne_fresh h e)).trans (x b ob n e)
set_option genInjectivity false in
structure PA where
  P : Addr
  d : Addr
  S : Addr
  dS : Addr
  tx : Addr
  an : Addr
  fn : Addr
  fnn : Addr
  O : Addr
  dO : Addr
  pr : Addr
  inf : Addr
  po : Addr
  tl : Addr
  fr : Addr
  nu : Addr
  nm : Addr
  co : Addr
  mode : AV
noncomputable abbrev parserO (a : PA) (pl lim pri nn : Int) (term : AV) : AObj := .inst 796 a.d [(Str.ofString "symbols", .ref a.S), (Str.ofString "operators", .ref a.O), (Str.ofString "mode", a.mode), (Str.ofString "tokens", .ref a.tl), (Str.ofString "place", .int pl), (Str.ofString "frames", .ref a.fr), (Str.ofString "limit", .int lim), (Str.ofString "term", term), (Str.ofString "priority", .int pri), (Str.ofString "numbers", .ref a.nu), (Str.ofString "names", .ref a.nm), (Str.ofString "counts", .ref a.co), (Str.ofString "next_number", .int nn)]
noncomputable abbrev frameO (d : Addr) (kind : Str) (lim fc name pri : Int) (left : AV) (il : Addr) : AObj := .inst 588 d [(Str.ofString "kind", .str kind), (Str.ofString "limit", .int lim), (Str.ofString "functor", .int fc), (Str.ofString "name", .int name), (Str.ofString "priority", .int pri), (Str.ofString "left", left), (Str.ofString "items", .ref il)]
noncomputable abbrev tk (kind text : Str) (p : Int) : AV := .tup [.str kind, .str text, .int p]
theorem clsFrame : ClsF (Mine.hp.heap_1 g.w.params) 588 := ⟨by k_extra "part", by k_extra "part", by k_extra "part", by k_extra "part", by k_extra "part"⟩
theorem clsParser : ClsF (Mine.hp.heap_1 g.w.params) 796 := ⟨by k_extra "part", by k_extra "part", by k_extra "part", by k_extra "part", by k_extra "part"⟩
theorem Frame_spec {H : AH} {kind : Str} {lim : Int} {k x : AV → AH → Prop} (h : ∀ f d il H', H f = none → H d = none → H il = none → Keep H H' → H' f = some (frameO d kind lim (-1) (-1) 0 .none il) → H' il = some (.list []) → k (.ref f) H') : Cal g 2 false 588 [.str kind, .int lim] H k x := by
  refine Cal.make (fI := 585) ⟨by k_extra "part", by k_extra "part", by k_extra "part"⟩ ?_
  intro f d hf hd hne
  refine' Cal.enter (as' := [.ref f, .str kind, .int lim]) ["self", "kind", "limit"] ?F ?B ?N ?_
  k_extra "enter"
  repeat' k_extra "step"
  intro il hil
  repeat' k_extra "step"
  simp only [upd_none] at hil
  obtain ⟨n1, -, -, -, -, -, -, n2, hil⟩ := hil
  exact ⟨rfl, h f d il _ hf hd hil (fun b o e => by k_extra "thing") (by k_extra "thing") (by k_extra "thing")⟩
section
variable {H : AH} {a : PA} {toks : List AV} {pl lim pri nn : Int} {term tok : AV} {u kd : Str} {p : Int} {frs : List AV} {k x : AV → AH → Prop}
theorem peek_spec (hP : H a.P = some (parserO a pl lim pri nn term)) (hT : H a.tl = some (.list toks)) (h0 : 0 ≤ pl) (hz : pl < 2 ^ 40) (ht : toks[pl.toNat]? = some tok) (h : k tok H) : Cal g 1 false 648 [.ref a.P] H k x := by
  refine' Cal.enter (as' := [.ref a.P]) ["self"] ?F ?B ?N ?_
  k_extra "enter"
  repeat' k_extra "step"
  refine Op2.itemL (by k_extra "thing") h0 (by lia) ht ?_
  repeat' k_extra "step"
  exact h
theorem take_spec (hP : H a.P = some (parserO a pl lim pri nn term)) (hT : H a.tl = some (.list toks)) (h0 : 0 ≤ pl) (hz : pl < 2 ^ 40) (ht : toks[pl.toNat]? = some tok) (h : k tok (upd H a.P (parserO a (pl + 1) lim pri nn term))) : Cal g 1 false 655 [.ref a.P] H k x := by
  refine' Cal.enter (as' := [.ref a.P]) ["self"] ?F ?B ?N ?_
  k_extra "enter"
  repeat' k_extra "step"
  refine Op2.itemL (by k_extra "thing") h0 (by lia) ht ?_
  repeat' k_extra "step"
  exact h
theorem settle_spec {pri' : Int} {term' : AV} (hP : H a.P = some (parserO a pl lim pri nn term)) (h : k (.int 1) (upd H a.P (parserO a pl lim pri' nn term'))) : Cal g 1 false 683 [.ref a.P, term', .int pri'] H k x := by
  refine' Cal.enter (as' := [.ref a.P, term', .int pri']) ["self", "term", "priority"] ?F ?B ?N ?_
  k_extra "enter"
  repeat' k_extra "step"
  rw [upd_upd]
  exact h
theorem enter_spec {kind : Str} {name most : Int} (hP : H a.P = some (parserO a pl lim pri nn term)) (hF : H a.fr = some (.list frs)) (hz : frs.length ≤ 100000)
    (h : ∀ f d il H', H f = none → H il = none → KeepL [a.P, a.fr] H H' → H' a.P = some (parserO a pl most pri nn term) → H' a.fr = some (.list (frs ++ [.ref f])) → H' f = some (frameO d kind lim (-1) name 0 .none il) → H' il = some (.list []) → k (.int 0) H') : Cal g 3 false 690 [.ref a.P, .str kind, .int name, .int most] H k x := by
  refine' Cal.enter (as' := [.ref a.P, .str kind, .int name, .int most]) ["self", "kind", "name", "most"] ?F ?B ?N ?_
  k_extra "enter"
  repeat' k_extra "step"
  refine Cal.at (Frame_spec ?_) (Ok.leB (by assumption) rfl)
  intro f d il H' hf hd hil kp hf' hil'
  have hP' := kp _ _ hP
  have hF' := kp _ _ hF
  have n1 : a.P ≠ f := ne_fresh hf hP
  have n2 : a.fr ≠ f := ne_fresh hf hF
  have n3 : a.P ≠ il := ne_fresh hil hP
  have n4 : a.fr ≠ il := ne_fresh hil hF
  have n5 : a.P ≠ a.fr := ne_kind hP hF rfl
  have n6 : f ≠ il := ne_kind hf' hil' rfl
  repeat' k_extra "step"
  refine h f d il _ hf hil (fun b o nb e => ?_) (by k_extra "thing") (by k_extra "thing") (by k_extra "thing") (by k_extra "thing")
  have m1 : b ≠ a.P := fun q => nb (q ▸ .head _)
  have m2 : b ≠ a.fr := fun q => nb (q ▸ .tail _ (.head _))
  have m3 := ne_fresh hf e
  have m4 := kp _ _ e
  k_extra "thing"
theorem is_punct_spec {v : Str} (h : k (.bool (decide (kd = Str.ofString "punct" ∧ u = v))) H) : Cal g 1 false 613 [tk kd u p, .str v] H k x := by
  refine' Cal.enter (as' := [tk kd u p, .str v]) ["token", "text"] ?F ?B ?N ?_
  k_extra "enter"
  repeat' k_extra "step"
  all_goals k_extra "same"
end
end
end

section
section
variable {g : Gd Mine.hp.heap_1}
section
variable {H : AH} {a : PA} {toks : List AV} {pl lim pri nn : Int} {term tok : AV} {u kd : Str} {p : Int} {frs : List AV} {k x : AV → AH → Prop}
theorem w13a : True := by
  (k_with "w13a" =>
    first
      | (with_reducible show OpL ..
         first
          | k_extra "call"
          | refine Cal.at (is_punct_spec ?_) (Ok.leB (by assumption) rfl)
          | refine Cal.at (var_spec ?_) (Ok.leB (by assumption) rfl)
          | refine Cal.at (peek_spec (by k_extra "thing") (by k_extra "thing") (by lia) (by lia) (by assumption) ?_) (Ok.leB (by assumption) rfl)
          | refine Cal.at (take_spec (by k_extra "thing") (by k_extra "thing") (by lia) (by lia) (by assumption) ?_) (Ok.leB (by assumption) rfl))
      | k_extra "step")
  trivial
theorem operator_name_comma (h : k (.int 7) H) : Cal g 2 false 737 [.ref a.P, tk (Str.ofString "punct") (Str.ofString ",") p] H k x := by
  refine' Cal.enter (as' := [.ref a.P, tk (Str.ofString "punct") (Str.ofString ",") p]) ["self", "token"] ?F ?B ?N ?_
  k_extra "enter"
  repeat' k_extra "w13a"
  exact h
theorem operator_name_other (h1 : kd = Str.ofString "punct" ∨ kd = Str.ofString "end") (h2 : u ≠ Str.ofString ",") (h3 : u ≠ Str.ofString "|") (h : k (.int (-1)) H) : Cal g 2 false 737 [.ref a.P, tk kd u p] H k x := by
  refine' Cal.enter (as' := [.ref a.P, tk kd u p]) ["self", "token"] ?F ?B ?N ?_
  k_extra "enter"
  have e1 : kd ≠ Str.ofString "name" := by rcases h1 with rfl | rfl <;> decide
  have e2 : kd ≠ Str.ofString "qname" := by rcases h1 with rfl | rfl <;> decide
  repeat' k_extra "w13a"
  · rename_i hc; exact absurd hc.2 h2
  · rename_i hc; exact absurd hc.2 h3
  · exact h
theorem variable_old {nums : List (Str × AV)} {counts : List (Int × AV)} {n c : Int} (hP : H a.P = some (parserO a pl lim pri nn term)) (hu : u ≠ Str.ofString "_") (hN : H a.nu = some (.dictS nums)) (hC : H a.co = some (.dictI counts)) (en : getA nums u = some (.int n)) (ec : getA counts n = some (.int c)) (hz : counts.length ≤ 100000)
    (h : k (.tup [.str (Str.ofString "v"), .int n]) (upd H a.co (.dictI (putA counts n (.int (c + 1)))))) : Cal g 2 false 725 [.ref a.P, .str u] H k x := by
  refine' Cal.enter (as' := [.ref a.P, .str u]) ["self", "text"] ?F ?B ?N ?_
  k_extra "enter"
  repeat' k_extra "w13a"
  all_goals try (rename_i hc; exact absurd hc hu)
  all_goals (try rw [en])
  rw [if_pos (show (some (AV.int n)).isSome = true from rfl)]
  repeat' k_extra "w13a"
  refine Op2.itemDS (by k_extra "thing") en ?_
  repeat' k_extra "w13a"
  refine Op2.itemDI (by k_extra "thing") ec ?_
  repeat' k_extra "w13a"
  refine OpS.dI (by k_extra "thing") (by lia) ?_
  repeat' k_extra "w13a"
  exact h
theorem variable_new {nums : List (Str × AV)} {counts : List (Int × AV)} {names : List AV} (hP : H a.P = some (parserO a pl lim pri nn term)) (hu : u ≠ Str.ofString "_") (hN : H a.nu = some (.dictS nums)) (hC : H a.co = some (.dictI counts)) (hM : H a.nm = some (.list names)) (en : getA nums u = none) (hz : counts.length ≤ 100000) (hz2 : nums.length ≤ 100000) (hz3 : names.length ≤ 100000)
    (h : k (.tup [.str (Str.ofString "v"), .int nn]) (upd (upd (upd (upd H a.P (parserO a pl lim pri (nn + 1) term)) a.nu (.dictS (putA nums u (.int nn)))) a.co (.dictI (putA counts nn (.int 1)))) a.nm (.list (names ++ [.tup [.str u, .int nn]])))) : Cal g 2 false 725 [.ref a.P, .str u] H k x := by
  refine' Cal.enter (as' := [.ref a.P, .str u]) ["self", "text"] ?F ?B ?N ?_
  k_extra "enter"
  have n1 : a.P ≠ a.nu := ne_kind hP hN rfl
  have n2 : a.P ≠ a.co := ne_kind hP hC rfl
  have n3 : a.nu ≠ a.co := ne_kind hN hC rfl
  have n4 : a.P ≠ a.nm := ne_kind hP hM rfl
  have n5 : a.nu ≠ a.nm := ne_kind hN hM rfl
  have n6 : a.co ≠ a.nm := ne_kind hC hM rfl
  repeat' k_extra "w13a"
  all_goals try (rename_i hc; exact absurd hc hu)
  all_goals (try rw [en])
  rw [if_neg (show ¬ (none : Option AV).isSome = true from Bool.false_ne_true)]
  repeat' k_extra "w13a"
  refine OpS.dS (by k_extra "thing") (by lia) ?_
  repeat' k_extra "w13a"
  refine OpS.dI (by k_extra "thing") (by lia) ?_
  repeat' k_extra "w13a"
  exact h
theorem variable_none (hP : H a.P = some (parserO a pl lim pri nn term)) 
    (h : k (.tup [.str (Str.ofString "v"), .int nn]) (upd H a.P (parserO a pl lim pri (nn + 1) term))) : Cal g 2 false 725 [.ref a.P, .str (Str.ofString "_")] H k x := by
  refine' Cal.enter (as' := [.ref a.P, .str (Str.ofString "_")]) ["self", "text"] ?F ?B ?N ?_
  k_extra "enter"
  repeat' k_extra "w13a"
  exact h
end
end
end

section
section
variable {g : Gd Mine.hp.heap_1}
inductive VarStep (u : Str) (nn : Int) (nums : List (Str × AV)) (counts : List (Int × AV)) (names : List AV) : Int → Int → List (Str × AV) → List (Int × AV) → List AV → Prop
  | old {n c : Int} : u ≠ Str.ofString "_" → getA nums u = some (.int n) → getA counts n = some (.int c) → VarStep u nn nums counts names n nn nums (putA counts n (.int (c + 1))) names
  | new : u ≠ Str.ofString "_" → getA nums u = none → VarStep u nn nums counts names nn (nn + 1) (putA nums u (.int nn)) (putA counts nn (.int 1)) (names ++ [.tup [.str u, .int nn]])
  | wild : u = Str.ofString "_" → VarStep u nn nums counts names nn (nn + 1) nums counts names
section
variable {H : AH} {a : PA} {toks : List AV} {pl lim pri nn : Int} {term tok : AV} {u kd : Str} {p : Int} {frs : List AV} {k x : AV → AH → Prop}
  {n nn' : Int} {nums nums' : List (Str × AV)} {counts counts' : List (Int × AV)} {names names' : List AV} {xi : List (Int × AV)}
theorem variable_spec (V : VarStep u nn nums counts names n nn' nums' counts' names') (hP : H a.P = some (parserO a pl lim pri nn term)) (hN : H a.nu = some (.dictS nums)) (hC : H a.co = some (.dictI counts)) (hM : H a.nm = some (.list names)) (hz : counts.length ≤ 100000) (hz2 : nums.length ≤ 100000) (hz3 : names.length ≤ 100000)
    (h : ∀ H', KeepL [a.P, a.nu, a.co, a.nm] H H' → H' a.P = some (parserO a pl lim pri nn' term) → H' a.nu = some (.dictS nums') → H' a.co = some (.dictI counts') → H' a.nm = some (.list names') → k (.tup [.str (Str.ofString "v"), .int n]) H') : Cal g 2 false 725 [.ref a.P, .str u] H k x := by
  have n1 : a.P ≠ a.nu := ne_kind hP hN rfl
  have n2 : a.P ≠ a.co := ne_kind hP hC rfl
  have n3 : a.nu ≠ a.co := ne_kind hN hC rfl
  have n4 : a.P ≠ a.nm := ne_kind hP hM rfl
  have n5 : a.nu ≠ a.nm := ne_kind hN hM rfl
  have n6 : a.co ≠ a.nm := ne_kind hC hM rfl
  induction V with
  | old h1 h2 h3 => exact variable_old hP h1 hN hC h2 h3 hz (h _ ((KeepL.refl _ _).upd (by simp)) (by k_extra "thing") (by k_extra "thing") (by k_extra "thing") (by k_extra "thing"))
  | new h1 h2 => exact variable_new hP h1 hN hC hM h2 hz hz2 hz3 (h _ (((((KeepL.refl _ _).upd (by simp)).upd (by simp)).upd (by simp)).upd (by simp)) (by k_extra "thing") (by k_extra "thing") (by k_extra "thing") (by k_extra "thing"))
  | wild h1 => subst h1; exact variable_none hP (h _ ((KeepL.refl _ _).upd (by simp)) (by k_extra "thing") (by k_extra "thing") (by k_extra "thing") (by k_extra "thing"))
theorem w14a : True := by
  (k_with "w14a" =>
    first
      | (with_reducible show OpL ..
         first
          | k_extra "call"
          | refine Cal.at (is_punct_spec ?_) (Ok.leB (by assumption) rfl)
          | refine Cal.at (var_spec ?_) (Ok.leB (by assumption) rfl)
          | refine Cal.at (peek_spec (by k_extra "thing") (by k_extra "thing") (by lia) (by lia) (by assumption) ?_) (Ok.leB (by assumption) rfl)
          | refine Cal.at (take_spec (by k_extra "thing") (by k_extra "thing") (by lia) (by lia) (by assumption) ?_) (Ok.leB (by assumption) rfl))
      | k_extra "step")
  trivial
theorem operand_var (V : VarStep u nn nums counts names n nn' nums' counts' names') (hP : H a.P = some (parserO a pl lim pri nn term)) (hT : H a.tl = some (.list toks)) (h0 : 0 ≤ pl) (hz0 : pl < 2 ^ 39) (ht : toks[pl.toNat]? = some (tk (Str.ofString "var") u p)) (hN : H a.nu = some (.dictS nums)) (hC : H a.co = some (.dictI counts)) (hM : H a.nm = some (.list names)) (hz : counts.length ≤ 100000) (hz2 : nums.length ≤ 100000) (hz3 : names.length ≤ 100000)
    (h : ∀ H', KeepL [a.P, a.nu, a.co, a.nm] H H' → H' a.P = some (parserO a (pl + 1) lim 0 nn' (.tup [.str (Str.ofString "v"), .int n])) → H' a.nu = some (.dictS nums') → H' a.co = some (.dictI counts') → H' a.nm = some (.list names') → k (.int 1) H') : Cal g 3 false 697 [.ref a.P] H k x := by
  refine' Cal.enter (as' := [.ref a.P]) ["self"] ?F ?B ?N ?_
  k_extra "enter"
  have n1 : a.P ≠ a.nu := ne_kind hP hN rfl
  have n2 : a.P ≠ a.co := ne_kind hP hC rfl
  have n4 : a.P ≠ a.nm := ne_kind hP hM rfl
  have n5 : a.P ≠ a.tl := ne_kind hP hT rfl
  repeat' k_extra "w14a"
  refine Cal.at (variable_spec V (by k_extra "thing") (by k_extra "thing") (by k_extra "thing") (by k_extra "thing") hz hz2 hz3 ?_) (Ok.leB (by assumption) rfl)
  intro H' kp hP' hN' hC' hM'
  repeat' k_extra "w14a"
  refine Cal.at (settle_spec hP' ?_) (Ok.leB (by assumption) rfl)
  repeat' k_extra "w14a"
  exact h _ ((((KeepL.refl _ _).upd (by simp)).trans kp).upd (by simp)) (by k_extra "thing") (by k_extra "thing") (by k_extra "thing") (by k_extra "thing")
theorem operand_open (hP : H a.P = some (parserO a pl lim pri nn term)) (hT : H a.tl = some (.list toks)) (hF : H a.fr = some (.list frs)) (hz : frs.length ≤ 100000) (h0 : 0 ≤ pl) (hz0 : pl < 2 ^ 39) (hk : kd = Str.ofString "open" ∨ kd = Str.ofString "open_ct") (ht : toks[pl.toNat]? = some (tk kd u p))
    (h : ∀ f d il H', H f = none → H il = none → KeepL [a.P, a.fr] H H' → H' a.P = some (parserO a (pl + 1) 1200 pri nn term) → H' a.fr = some (.list (frs ++ [.ref f])) → H' f = some (frameO d (Str.ofString "round") lim (-1) (-1) 0 .none il) → H' il = some (.list []) → k (.int 0) H') : Cal g 4 false 697 [.ref a.P] H k x := by
  have n5 : a.P ≠ a.tl := ne_kind hP hT rfl
  have n6 : a.P ≠ a.fr := ne_kind hP hF rfl
  rcases hk with rfl | rfl
  · refine' Cal.enter (as' := [.ref a.P]) ["self"] ?F ?B ?N ?_
    k_extra "enter"
    repeat' k_extra "w14a"
    refine Cal.at (enter_spec (by k_extra "thing") (by k_extra "thing") hz ?_) (Ok.leB (by assumption) rfl)
    intro f d il H' hf hil kp e1 e2 e3 e4
    repeat' k_extra "w14a"
    exact h f d il H' (upd_none.mp hf).2 (upd_none.mp hil).2 (((KeepL.refl _ _).upd (by simp)).trans kp) e1 e2 e3 e4
  · refine' Cal.enter (as' := [.ref a.P]) ["self"] ?F ?B ?N ?_
    k_extra "enter"
    repeat' k_extra "w14a"
    refine Cal.at (enter_spec (by k_extra "thing") (by k_extra "thing") hz ?_) (Ok.leB (by assumption) rfl)
    intro f d il H' hf hil kp e1 e2 e3 e4
    repeat' k_extra "w14a"
    exact h f d il H' (upd_none.mp hf).2 (upd_none.mp hil).2 (((KeepL.refl _ _).upd (by simp)).trans kp) e1 e2 e3 e4
end
end
end

section
section
variable {g : Gd Mine.hp.heap_1}
section
variable {H : AH} {a : PA} {toks : List AV} {pl lim pri nn : Int} {term tok : AV} {u kd : Str} {p : Int} {frs : List AV} {k x : AV → AH → Prop}
  {xi : List (Int × AV)} {ts : List Str} {fs : List (List Int)} {items : List AV} {f d0 il : Addr} {l0 nm0 : Int} {left : AV}
theorem w15a : True := by
  (k_with "w15a" =>
    first
      | (with_reducible show OpL ..
         first
          | k_extra "call"
          | refine Cal.at (is_punct_spec ?_) (Ok.leB (by assumption) rfl)
          | refine Cal.at (peek_spec (by k_extra "thing") (by k_extra "thing") (by lia) (by lia) (by assumption) ?_) (Ok.leB (by assumption) rfl)
          | refine Cal.at (take_spec (by k_extra "thing") (by k_extra "thing") (by lia) (by lia) (by assumption) ?_) (Ok.leB (by assumption) rfl))
      | k_extra "step")
  trivial
theorem Sy.keepL {l : List Addr} {H H' : AH} {S d tx an fn fnn : Addr} (y : Sy H S d tx an fn fnn ts fs) (kp : KeepL l H H') (h1 : S ∉ l) (h2 : tx ∉ l) (h3 : an ∉ l) (h4 : fn ∉ l) (h5 : fnn ∉ l) : Sy H' S d tx an fn fnn ts fs :=
  ⟨kp _ _ h1 y.o, kp _ _ h2 y.t, kp _ _ h3 y.a, kp _ _ h4 y.f, kp _ _ h5 y.n, y.ne⟩
theorem named_spec {u' : Str} {p' i : Int} (hP : H a.P = some (parserO a pl lim pri nn term)) (hT : H a.tl = some (.list toks)) (hF : H a.fr = some (.list frs)) (hz : frs.length ≤ 100000) (h0 : 0 ≤ pl) (hz0 : pl ≤ 2 ^ 39) (ht' : toks[pl.toNat]? = some (tk (Str.ofString "open_ct") u' p'))
    (h : ∀ f d il H', H f = none → H il = none → KeepL [a.P, a.fr] H H' → H' a.P = some (parserO a (pl + 1) 999 pri nn term) → H' a.fr = some (.list (frs ++ [.ref f])) → H' f = some (frameO d (Str.ofString "args") lim (-1) i 0 .none il) → H' il = some (.list []) → k (.int 0) H') : Cal g 4 false 704 [.ref a.P, .int i, tk (Str.ofString "name") u p] H k x := by
  have n5 : a.P ≠ a.tl := ne_kind hP hT rfl
  have n6 : a.P ≠ a.fr := ne_kind hP hF rfl
  refine' Cal.enter (as' := [.ref a.P, .int i, tk (Str.ofString "name") u p]) ["self", "a", "token"] ?F ?B ?N ?_
  k_extra "enter"
  repeat' k_extra "w15a"
  refine Cal.at (enter_spec (by k_extra "thing") (by k_extra "thing") hz ?_) (Ok.leB (by assumption) rfl)
  intro f d il H' hf hil kp e1 e2 e3 e4
  repeat' k_extra "w15a"
  exact h f d il H' (upd_none.mp hf).2 (upd_none.mp hil).2 (((KeepL.refl _ _).upd (by simp)).trans kp) e1 e2 e3 e4
theorem infix_spec {O dO S pr inf po : Addr} {i : Int} {v : AV} (hO : H O = some (opO dO S pr inf po)) (hI : H inf = some (.dictI xi)) (e : (getA xi i).getD .none = v) (h : k v H) : Cal g 1 false 471 [.ref O, .int i] H k x := by
  subst e
  refine' Cal.enter (as' := [.ref O, .int i]) ["self", "a"] ?F ?B ?N ?_
  k_extra "enter"
  repeat' k_extra "w15a"
  refine OpL.getI1 (by k_extra "thing") ?_
  repeat' k_extra "w15a"
  exact h
theorem postfix_spec {O dO S pr inf po : Addr} {i : Int} {v : AV} (hO : H O = some (opO dO S pr inf po)) (hI : H po = some (.dictI xi)) (e : (getA xi i).getD .none = v) (h : k v H) : Cal g 1 false 478 [.ref O, .int i] H k x := by
  subst e
  refine' Cal.enter (as' := [.ref O, .int i]) ["self", "a"] ?F ?B ?N ?_
  k_extra "enter"
  repeat' k_extra "w15a"
  refine OpL.getI1 (by k_extra "thing") ?_
  repeat' k_extra "w15a"
  exact h
theorem admits_none (h : k (.bool false) H) : Cal g 2 false 751 [.ref a.P, .none] H k x := by
  refine' Cal.enter (as' := [.ref a.P, .none]) ["self", "entry"] ?F ?B ?N ?_
  k_extra "enter"
  repeat' k_extra "w15a"
  exact h
theorem admits_high {e : Int} (hP : H a.P = some (parserO a pl lim pri nn term)) (he : lim < e) (h : k (.bool false) H) : Cal g 2 false 751 [.ref a.P, .tup [.int e, .str u]] H k x := by
  refine' Cal.enter (as' := [.ref a.P, .tup [.int e, .str u]]) ["self", "entry"] ?F ?B ?N ?_
  k_extra "enter"
  repeat' k_extra "w15a"
  exact h
theorem shift_no {e i : Int} (hP : H a.P = some (parserO a pl lim pri nn term)) (hO : H a.O = some (opO a.dO a.S a.pr a.inf a.po)) (hI : H a.inf = some (.dictI xi)) (ee : getA xi i = some (.tup [.int e, .str u])) (he : lim < e) (h : k (.bool false) H) : Cal g 3 false 758 [.ref a.P, .int i] H k x := by
  refine' Cal.enter (as' := [.ref a.P, .int i]) ["self", "a"] ?F ?B ?N ?_
  k_extra "enter"
  repeat' k_extra "w15a"
  refine Cal.at (infix_spec hO hI (by rw [ee, Option.getD_some]) ?_) (Ok.leB (by assumption) rfl)
  repeat' k_extra "w15a"
  refine Cal.at (admits_high hP he ?_) (Ok.leB (by assumption) rfl)
  repeat' k_extra "w15a"
  exact h
theorem apply_no {i : Int} (hP : H a.P = some (parserO a pl lim pri nn term)) (hO : H a.O = some (opO a.dO a.S a.pr a.inf a.po)) (hI : H a.po = some (.dictI [])) (h : k (.bool false) H) : Cal g 3 false 765 [.ref a.P, .int i] H k x := by
  refine' Cal.enter (as' := [.ref a.P, .int i]) ["self", "a"] ?F ?B ?N ?_
  k_extra "enter"
  repeat' k_extra "w15a"
  refine Cal.at (postfix_spec hO hI rfl ?_) (Ok.leB (by assumption) rfl)
  repeat' k_extra "w15a"
  refine Cal.at (admits_none ?_) (Ok.leB (by assumption) rfl)
  repeat' k_extra "w15a"
  exact h
theorem closed_spec {term' : AV} {kind : Str} {fc lim' : Int} (hP : H a.P = some (parserO a pl lim pri nn term)) (hT : H a.tl = some (.list toks)) (hF : H a.fr = some (.list (frs ++ [.ref f]))) (hz : frs.length ≤ 100000) (hf : H f = some (frameO d0 kind lim' fc nm0 0 left il)) (h0 : 0 ≤ pl) (hz0 : pl < 2 ^ 39) (ht : toks[pl.toNat]? = some tok)
    (h : ∀ H', KeepL [a.P, a.fr] H H' → H' a.P = some (parserO a (pl + 1) lim' 0 nn term') → H' a.fr = some (.list frs) → k (.int 1) H') : Cal g 2 false 793 [.ref a.P, term'] H k x := by
  have n5 : a.P ≠ a.tl := ne_kind hP hT rfl
  have n6 : a.P ≠ a.fr := ne_kind hP hF rfl
  have n7 : a.P ≠ f := ne_kind hP hf rfl
  have n8 : f ≠ a.fr := ne_kind hf hF rfl
  refine' Cal.enter (as' := [.ref a.P, term']) ["self", "term"] ?F ?B ?N ?_
  k_extra "enter"
  repeat' k_extra "w15a"
  refine OpL.pop (by k_extra "thing") (by lia) ?_
  repeat' k_extra "w15a"
  refine Cal.at (settle_spec (by k_extra "thing") ?_) (Ok.leB (by assumption) rfl)
  repeat' k_extra "w15a"
  exact h _ (((((KeepL.refl _ _).upd (by simp)).upd (by simp)).upd (by simp)).upd (by simp)) (by k_extra "thing") (by k_extra "thing")
theorem separated_spec (hb : notBi term = true) (hP : H a.P = some (parserO a pl lim pri nn term)) (hT : H a.tl = some (.list toks)) (hF : H a.fr = some (.list (frs ++ [.ref f]))) (hz : frs.length ≤ 100000) (hf : H f = some (frameO d0 (Str.ofString "args") l0 (-1) nm0 0 left il)) (hi : H il = some (.list items)) (hzi : items.length ≤ 100000) (m : il ≠ a.fr) (h0 : 0 ≤ pl) (hz0 : pl < 2 ^ 39) (ht : toks[pl.toNat]? = some tok)
    (h : ∀ H', KeepL [a.P, f, il] H H' → H' a.P = some (parserO a (pl + 1) 999 pri nn term) → H' f = some (frameO d0 (Str.ofString "args") l0 (-1) nm0 0 left il) → H' il = some (.list (items ++ [term])) → k (.int 0) H') : Cal g 2 false 786 [.ref a.P, .str (Str.ofString "args")] H k x := by
  have n5 : a.P ≠ a.tl := ne_kind hP hT rfl
  have n6 : a.P ≠ a.fr := ne_kind hP hF rfl
  have n7 : a.P ≠ f := ne_kind hP hf rfl
  have n8 : f ≠ a.fr := ne_kind hf hF rfl
  have n9 : a.P ≠ il := ne_kind hP hi rfl
  have n10 : f ≠ il := ne_kind hf hi rfl
  refine' Cal.enter (as' := [.ref a.P, .str (Str.ofString "args")]) ["self", "kind"] ?F ?B ?N ?_
  k_extra "enter"
  repeat' k_extra "w15a"
  refine h _ ?_ (by k_extra "thing") (by k_extra "thing") (by k_extra "thing")
  repeat' (first | exact KeepL.refl _ _ | refine KeepL.upd ?_ (by simp))
end
end
end

section
section
variable {g : Gd Mine.hp.heap_1}
section
variable {H : AH} {a : PA} {toks : List AV} {pl lim pri nn : Int} {term tok : AV} {u kd : Str} {p : Int} {frs : List AV} {k x : AV → AH → Prop}
  {xi : List (Int × AV)} {ts : List Str} {fs : List (List Int)} {items : List AV} {f d0 il : Addr} {l0 nm0 fc : Int} {left : AV}
theorem w16a : True := by
  (k_with "w16a" =>
    first
      | (with_reducible show OpL ..
         first
          | k_extra "call"
          | refine Cal.at (is_punct_spec ?_) (Ok.leB (by assumption) rfl)
          | refine Cal.at (peek_spec (by k_extra "thing") (by k_extra "thing") (by lia) (by lia) (by assumption) ?_) (Ok.leB (by assumption) rfl)
          | refine Cal.at (take_spec (by k_extra "thing") (by k_extra "thing") (by lia) (by lia) (by assumption) ?_) (Ok.leB (by assumption) rfl))
      | k_extra "step")
  trivial
section
theorem w16b : True := by
  (k_with "w16b" =>
    first
      | (first
          | ((with_reducible show Tri _ _ _ (eval (Expr.IfExp _ _ _ _) _) _ _ _ _); refine Ev.ifexp ?_)
          | ((with_reducible show Tri _ _ _ (eval (Expr.Name (Str.ofString "NIL") _) _) _ _ _ _); refine Ev.global (y := Str.ofString "NIL") (by k_extra "part") (GV.tup (ds := [.str (Str.ofString "a"), .int 0]) (by k_extra "part") (fun h => .cons (.str _ _) (.cons (.int _ _) .nil))) ?_))
      | (with_reducible show OpL ..
         first
          | k_extra "call"
          | refine Cal.at (is_punct_spec ?_) (Ok.leB (by assumption) rfl)
          | refine Cal.at (peek_spec (by k_extra "thing") (by k_extra "thing") (by lia) (by lia) (by assumption) ?_) (Ok.leB (by assumption) rfl)
          | refine Cal.at (take_spec (by k_extra "thing") (by k_extra "thing") (by lia) (by lia) (by assumption) ?_) (Ok.leB (by assumption) rfl))
      | k_extra "step")
  trivial
end
theorem close_round (hb : notBi term = true) (hP : H a.P = some (parserO a pl lim pri nn term)) (hT : H a.tl = some (.list toks)) (hF : H a.fr = some (.list (frs ++ [.ref f]))) (hz : frs.length ≤ 100000) (hf : H f = some (frameO d0 (Str.ofString "round") l0 fc nm0 0 left il)) (h0 : 0 ≤ pl) (hz0 : pl < 2 ^ 39) (ht : toks[pl.toNat]? = some tok)
    (h : ∀ H', KeepL [a.P, a.fr] H H' → H' a.P = some (parserO a (pl + 1) l0 0 nn term) → H' a.fr = some (.list frs) → k (.int 1) H') : Cal g 4 true 779 [.ref a.P, tk (Str.ofString "punct") (Str.ofString ")") p] H k x := by
  refine' Cal.enter (as' := [.ref a.P, tk (Str.ofString "punct") (Str.ofString ")") p]) ["self", "token"] ?F ?B ?N ?_
  k_extra "enter"
  repeat' k_extra "w16b"
  refine Cal.at (closed_spec hP hT hF hz hf h0 hz0 ht ?_) (Ok.leB (by assumption) rfl)
  intro H' kp e1 e2
  repeat' k_extra "w16b"
  exact h H' kp e1 e2
theorem close_comma (hb : notBi term = true) (hP : H a.P = some (parserO a pl lim pri nn term)) (hT : H a.tl = some (.list toks)) (hF : H a.fr = some (.list (frs ++ [.ref f]))) (hz : frs.length ≤ 100000) (hf : H f = some (frameO d0 (Str.ofString "args") l0 (-1) nm0 0 left il)) (hi : H il = some (.list items)) (hzi : items.length ≤ 100000) (m : il ≠ a.fr) (h0 : 0 ≤ pl) (hz0 : pl < 2 ^ 39) (ht : toks[pl.toNat]? = some tok)
    (h : ∀ H', KeepL [a.P, f, il] H H' → H' a.P = some (parserO a (pl + 1) 999 pri nn term) → H' f = some (frameO d0 (Str.ofString "args") l0 (-1) nm0 0 left il) → H' il = some (.list (items ++ [term])) → k (.int 0) H') : Cal g 4 true 779 [.ref a.P, tk (Str.ofString "punct") (Str.ofString ",") p] H k x := by
  refine' Cal.enter (as' := [.ref a.P, tk (Str.ofString "punct") (Str.ofString ",") p]) ["self", "token"] ?F ?B ?N ?_
  k_extra "enter"
  repeat' k_extra "w16b"
  refine Cal.at (separated_spec hb hP hT hF hz hf hi hzi m h0 hz0 ht ?_) (Ok.leB (by assumption) rfl)
  intro H' kp e1 e2 e3
  repeat' k_extra "w16b"
  exact h H' kp e1 e2 e3
end
end
end

section
section
variable {g : Gd Mine.hp.heap_1}
section
variable {H : AH} {a : PA} {toks : List AV} {pl lim pri nn : Int} {term tok : AV} {u kd kind : Str} {p : Int} {frs : List AV} {k x : AV → AH → Prop}
  {xi : List (Int × AV)} {f d0 il : Addr} {l0 nm0 fc fpri : Int} {left : AV}
theorem w17a : True := by
  (k_with "w17a" =>
    first
      | (with_reducible show OpL ..
         first
          | k_extra "call"
          | refine Cal.at (operator_name_comma ?_) (Ok.leB (by assumption) rfl)
          | refine Cal.at (operator_name_other (.inl rfl) (by assumption) (by assumption) ?_) (Ok.leB (by assumption) rfl)
          | refine Cal.at (shift_no (by assumption) (by assumption) (by assumption) (by assumption) (by assumption) ?_) (Ok.leB (by assumption) rfl)
          | refine Cal.at (apply_no (by assumption) (by assumption) (by assumption) ?_) (Ok.leB (by assumption) rfl)
          | refine Cal.at (peek_spec (by k_extra "thing") (by k_extra "thing") (by lia) (by lia) (by assumption) ?_) (Ok.leB (by assumption) rfl))
      | k_extra "step")
  trivial
theorem operator_close (hcl : Cal g 4 true 779 [.ref a.P, tk (Str.ofString "punct") u p] H k (fun _ _ => False)) (hu : u ≠ Str.ofString ",") (hu' : u ≠ Str.ofString "|") (hk : kind ≠ Str.ofString "operator") (hP : H a.P = some (parserO a pl lim pri nn term)) (hT : H a.tl = some (.list toks)) (hF : H a.fr = some (.list (frs ++ [.ref f]))) (hz : frs.length ≤ 100000) (hf : H f = some (frameO d0 kind l0 fc nm0 fpri left il)) (h0 : 0 ≤ pl) (hz0 : pl < 2 ^ 39) (ht : toks[pl.toNat]? = some (tk (Str.ofString "punct") u p)) : Cal g 5 true 744 [.ref a.P] H k x := by
  have hz2 : (frs ++ [AV.ref f]).length < 2 ^ 60 := by simp; lia
  have hem : (frs ++ [AV.ref f]).isEmpty = false := by simp
  refine' Cal.enter (as' := [.ref a.P]) ["self"] ?F ?B ?N ?_
  k_extra "enter"
  repeat' k_extra "w17a"
  rw [hem]
  refine ifF Bool.false_ne_true ?_
  repeat' k_extra "w17a"
  refine Cal.at (Cal.mono hcl (fun d H' hk => ?_) (fun _ _ z => z.elim) (Nat.le_refl _) id) (Ok.leB (by assumption) rfl)
  repeat' k_extra "w17a"
  exact hk
theorem operator_comma {e : Int} (hcl : Cal g 4 true 779 [.ref a.P, tk (Str.ofString "punct") (Str.ofString ",") p] H k (fun _ _ => False)) (hO : H a.O = some (opO a.dO a.S a.pr a.inf a.po)) (hI : H a.inf = some (.dictI xi)) (ee : getA xi 7 = some (.tup [.int e, .str u])) (he : lim < e) (hpo : H a.po = some (.dictI [])) (hk : kind ≠ Str.ofString "operator") (hP : H a.P = some (parserO a pl lim pri nn term)) (hT : H a.tl = some (.list toks)) (hF : H a.fr = some (.list (frs ++ [.ref f]))) (hz : frs.length ≤ 100000) (hf : H f = some (frameO d0 kind l0 fc nm0 fpri left il)) (h0 : 0 ≤ pl) (hz0 : pl < 2 ^ 39) (ht : toks[pl.toNat]? = some (tk (Str.ofString "punct") (Str.ofString ",") p)) : Cal g 5 true 744 [.ref a.P] H k x := by
  have hz2 : (frs ++ [AV.ref f]).length < 2 ^ 60 := by simp; lia
  have hem : (frs ++ [AV.ref f]).isEmpty = false := by simp
  refine' Cal.enter (as' := [.ref a.P]) ["self"] ?F ?B ?N ?_
  k_extra "enter"
  repeat' k_extra "w17a"
  rw [hem]
  refine ifF Bool.false_ne_true ?_
  repeat' k_extra "w17a"
  refine Cal.at (Cal.mono hcl (fun d H' hk => ?_) (fun _ _ z => z.elim) (Nat.le_refl _) id) (Ok.leB (by assumption) rfl)
  repeat' k_extra "w17a"
  exact hk
theorem operator_done (hP : H a.P = some (parserO a pl lim pri nn term)) (hT : H a.tl = some (.list toks)) (hF : H a.fr = some (.list [])) (h0 : 0 ≤ pl) (hz0 : pl < 2 ^ 39) (ht : toks[pl.toNat]? = some (tk (Str.ofString "end") (Str.ofString ".") p)) (h : k (.int 2) H) : Cal g 5 true 744 [.ref a.P] H k x := by
  have hz2 : ([] : List AV).length < 2 ^ 60 := by simp
  refine' Cal.enter (as' := [.ref a.P]) ["self"] ?F ?B ?N ?_
  k_extra "enter"
  repeat' k_extra "w17a"
  refine Cal.at (operator_name_other (.inr rfl) (by decide) (by decide) ?_) (Ok.leB (by assumption) rfl)
  repeat' k_extra "w17a"
  exact h
end
end
end

section
section
variable {g : Gd Mine.hp.heap_1}
section
variable {H H' : AH} {a : PA} {e : PF} {s : PS} {j' : Nat} {lim' pri' nn' : Int} {term' : AV}
end
end
end

section
section
variable {g : Gd Mine.hp.heap_1}
noncomputable abbrev vT (n : Int) : AV := .tup [.str (Str.ofString "v"), .int n]
noncomputable abbrev own (a : PA) : List Addr := [a.P, a.fr, a.nu, a.co, a.nm]
section
variable {H : AH} {a : PA} {e : PF} {j m sh : Nat} {nn n nn' pri : Int} {term : AV} {items names names' : List AV} {nums nums' : List (Str × AV)} {counts counts' : List (Int × AV)} {w : Str} {l rest : List AV} {K : AH → Prop}
end
end
end

section
section
variable {g : Gd Mine.hp.heap_1}
section
variable {a : PA} {e : PF} {K : AH → Prop}
end
end
end

section
section
variable {g : Gd Mine.hp.heap_1}
theorem Parser_spec {H : AH} {S O tl : Addr} {mode : AV} {k x : AV → AH → Prop}
    (h : ∀ P d fr nu nm co H', H P = none → H fr = none → H nu = none → H nm = none → H co = none → fr ≠ nm → Keep H H' →
      H' P = some (.inst 796 d [(Str.ofString "symbols", .ref S), (Str.ofString "operators", .ref O), (Str.ofString "mode", mode), (Str.ofString "tokens", .ref tl), (Str.ofString "place", .int 0), (Str.ofString "frames", .ref fr), (Str.ofString "limit", .int 1200), (Str.ofString "term", .none), (Str.ofString "priority", .int 0), (Str.ofString "numbers", .ref nu), (Str.ofString "names", .ref nm), (Str.ofString "counts", .ref co), (Str.ofString "next_number", .int 0)]) →
      H' fr = some (.list []) → H' nu = some (.dictS []) → H' nm = some (.list []) → H' co = some (.dictI []) → k (.ref P) H') : Cal g 2 false 796 [.ref S, .ref O, mode, .ref tl] H k x := by
  refine Cal.make (fI := 627) ⟨by k_extra "part", by k_extra "part", by k_extra "part"⟩ ?_
  intro P d hP hd hne
  refine' Cal.enter (as' := [.ref P, .ref S, .ref O, mode, .ref tl]) ["self", "symbols", "operators", "mode", "tokens"] ?F ?B ?N ?_
  k_extra "enter"
  repeat' k_extra "step"
  intro fr hfr
  repeat' k_extra "step"
  refine Ev.dictS (fun nu hnu => ?_)
  repeat' k_extra "step"
  intro nm hnm
  repeat' k_extra "step"
  refine Ev.dictI (fun co hco => ?_)
  repeat' k_extra "step"
  have f1 := uD hfr
  have f2 := uD (uN (uN (uN (uN (uN (uN hfr))))))
  have f3 := uN (uN (uN (uN (uN (uN (uN hfr))))))
  have u1 := uD hnu
  have u2 := uD (uN (uN (uN (uN hnu))))
  have u3 := uD (uN (uN (uN (uN (uN (uN (uN (uN (uN (uN (uN hnu)))))))))))
  have u4 := uN (uN (uN (uN (uN (uN (uN (uN (uN (uN (uN (uN hnu)))))))))))
  have v1 := uD hnm
  have v2 := uD (uN hnm)
  have v3 := uD (uN (uN (uN (uN (uN (uN hnm))))))
  have v4 := uD (uN (uN (uN (uN (uN (uN (uN (uN (uN (uN (uN (uN (uN hnm)))))))))))))
  have v5 := uN (uN (uN (uN (uN (uN (uN (uN (uN (uN (uN (uN (uN (uN hnm)))))))))))))
  have w1 := uD hco
  have w2 := uD (uN hco)
  have w3 := uD (uN (uN (uN hco)))
  have w4 := uD (uN (uN (uN (uN (uN (uN (uN (uN hco))))))))
  have w5 := uD (uN (uN (uN (uN (uN (uN (uN (uN (uN (uN (uN (uN (uN (uN (uN hco)))))))))))))))
  have w6 := uN (uN (uN (uN (uN (uN (uN (uN (uN (uN (uN (uN (uN (uN (uN (uN hco)))))))))))))))
  refine ⟨rfl, h P d fr nu nm co _ hP f3 u4 v5 w6 (Ne.symm v3) (fun b o e => ?_) (by k_extra "thing") (by k_extra "thing") (by k_extra "thing") (by k_extra "thing") (by k_extra "thing")⟩
  have e1 := ne_fresh hP e
  have e2 := ne_fresh hd e
  have e3 := ne_fresh f3 e
  have e4 := ne_fresh u4 e
  have e5 := ne_fresh v5 e
  have e6 := ne_fresh w6 e
  repeat (refine upd_other (by assumption) ?_)
  exact e
end
end

section
section
variable {g : Gd Mine.hp.heap_1}

theorem w22a : True := by
  (k_with "w22a" =>
    first
      | (with_reducible show OpL ..
         first
          | k_extra "call"
          | refine Cal.at (peek_spec (by k_extra "thing") (by k_extra "thing") (by lia) (by lia) (by assumption) ?_) (Ok.leB (by assumption) rfl))
      | k_extra "step")
  trivial
noncomputable def nameAV (q : Str × Int) : AV := .tup [.str q.1, .int q.2]
theorem singles_spec {H : AH} {a : PA} {pl lim pri nn : Int} {term : AV} {ns : List (Str × Int)} {counts : List (Int × AV)} {cn : Int → Int} {k x : AV → AH → Prop}
    (hP : H a.P = some (parserO a pl lim pri nn term)) (hM : H a.nm = some (.list (ns.map nameAV))) (hC : H a.co = some (.dictI counts)) (hc : ∀ q ∈ ns, getA counts q.2 = some (.int (cn q.2)) ∧ 0 < q.1.length) (hz : ns.length ≤ 10000)
    (h : ∀ b, H b = none → k (.ref b) (upd H b (.list ((ns.filter fun q => decide (cn q.2 = 1) && !decide (Txt.item q.1 0 = Str.ofString "_")).map nameAV)))) : Cal g 3 true 641 [.ref a.P] H k x := by
  refine' Cal.enter (as' := [.ref a.P]) ["self"] ?F ?B ?N ?_
  k_extra "enter"
  repeat' k_extra "w22a"
  intro b hb
  repeat' k_extra "w22a"
  refine EvIt.val ?_
  repeat' k_extra "w22a"
  have n1 := ne_fresh hb hP
  have n2 := ne_fresh hb hM
  have n3 := ne_fresh hb hC
  refine (?key : ∀ (ms : List (Str × Int)) (us : List (Str × Int)) (ρ : Loc), (∀ q ∈ ms, getA counts q.2 = some (.int (cn q.2)) ∧ 0 < q.1.length) → us.length + ms.length ≤ 10000 → ns.filter (fun q => decide (cn q.2 = 1) && !decide (Txt.item q.1 0 = Str.ofString "_")) = us ++ ms.filter (fun q => decide (cn q.2 = 1) && !decide (Txt.item q.1 0 = Str.ofString "_")) → ρ (Str.ofString "self") = some (.ref a.P) → ρ (Str.ofString "found") = some (.ref b) → ForL g _ _ _ _ _ (ms.map nameAV) ρ (upd H b (.list (us.map nameAV)))) ns [] _ hc (by simpa using hz) rfl (by k_extra "name") (by k_extra "name")
  intro ms
  induction ms with
  | nil =>
    intro us ρ _ hl he hs hf
    refine ForL.nil ?_
    repeat' k_extra "w22a"
    have h' := h b hb
    rw [he, List.filter_nil, List.append_nil] at h'
    exact h'
  | cons q ms ih =>
    intro us ρ hm hl he hs hf
    obtain ⟨c1, c2⟩ := hm q (.head _)
    rw [List.length_cons] at hl
    have hlen : (us.map nameAV).length = us.length := List.length_map ..
    rw [List.map_cons]
    refine ForL.cons ?_
    show As g _ _ (AV.tup [.str q.1, .int q.2]) _ _ _
    repeat' k_extra "w22a"
    refine Op2.itemDI (by k_extra "thing") c1 ?_
    repeat' k_extra "w22a"
    · refine Op2.itemS (by decide) (by lia) (by decide) ?_
      repeat' k_extra "w22a"
      · refine turnF_next (by k_extra "thing") ?_
        rw [upd_upd]
        have e1 : us.map nameAV ++ [AV.tup [.str q.1, .int q.2]] = (us ++ [q]).map nameAV := by rw [List.map_append]; rfl
        rw [e1]
        rename_i hc1 hc2
        exact ih _ _ (fun r hr => hm r (.tail _ hr)) (by simp; lia) (by rw [he, List.filter_cons_of_pos (by simp [*])]; simp) (by k_extra "name") (by k_extra "name")
      · refine turnF_next (by k_extra "thing") ?_
        rename_i hc1 hc2
        exact ih _ _ (fun r hr => hm r (.tail _ hr)) (by lia) (by rw [he, List.filter_cons_of_neg (by simp [*])]) (by k_extra "name") (by k_extra "name")
    · refine turnF_next (by k_extra "thing") ?_
      rename_i hc1
      exact ih _ _ (fun r hr => hm r (.tail _ hr)) (by lia) (by rw [he, List.filter_cons_of_neg (by simp [*])]) (by k_extra "name") (by k_extra "name")
end
end

section
section
variable {g : Gd Mine.hp.heap_1}
theorem clsReader : ClsF (Mine.hp.heap_1 g.w.params) 839 := ⟨by k_extra "part", by k_extra "part", by k_extra "part", by k_extra "part", by k_extra "part"⟩
theorem Tokenizer_spec {H : AH} {cs : Addr} {i : Int} {k x : AV → AH → Prop} (h : ∀ t d H', H t = none → Keep H H' → H' t = some (tokO d cs i i) → k (.ref t) H') : Cal g 2 false 370 [.ref cs, .int i] H k x := by
  refine Cal.make (fI := 248) ⟨by k_extra "part", by k_extra "part", by k_extra "part"⟩ ?_
  intro t d ht hd hne
  refine' Cal.enter (as' := [.ref t, .ref cs, .int i]) ["self", "codes", "at"] ?F ?B ?N ?_
  (case F => exact ⟨⟨_, _, _, by k_extra "part"⟩, by k_extra "part"⟩)
  (case B => intro s vs hv K; exact bB3 (B := fun vs ws => BindsTo s _ ⟨vs, []⟩ (List.zip _ ws)) hv fun _ _ _ => binds_K K rfl (by k_extra "part") rfl rfl rfl)
  (case N => k_extra "eq")
  intro A L ok
  dsimp only [locOf]
  repeat' k_extra "step"
  refine ⟨rfl, h t d _ ht (fun b o e => ?_) (by k_extra "thing")⟩
  have e1 := ne_fresh ht e
  have e2 := ne_fresh hd e
  repeat (refine upd_other (by assumption) ?_)
  exact e
noncomputable abbrev readerO (d S O F t : Addr) (i : Int) : AObj := .inst 839 d [(Str.ofString "symbols", .ref S), (Str.ofString "operators", .ref O), (Str.ofString "flags", .ref F), (Str.ofString "tokenizer", .ref t), (Str.ofString "at", .int i)]
inductive NStep (l : List Nat) (o : Int) : Int → AV → Int → Prop
  | eof {a p : Int} : Gap l a p → (l.length : Int) ≤ p → NStep l o a (tk (Str.ofString "eof") (Str.ofString "") p) p
  | «open» {a p : Int} : Gap l a p → cAt l p = 40 → p > a ∨ p = o → NStep l o a (tk (Str.ofString "open") (Str.ofString "(") p) (p + 1)
  | open_ct {p : Int} : Gap l p p → cAt l p = 40 → p ≠ o → NStep l o p (tk (Str.ofString "open_ct") (Str.ofString "(") p) (p + 1)
  | name {a p q c : Int} : Gap l a p → Word l p q → cAt l p = c → 97 ≤ c ∧ c ≤ 122 → NStep l o a (tk (Str.ofString "name") (txt (runL l p q)) p) q
  | var {a p q c : Int} : Gap l a p → Word l p q → cAt l p = c → 65 ≤ c ∧ c ≤ 90 ∨ c = 95 → NStep l o a (tk (Str.ofString "var") (txt (runL l p q)) p) q
  | «end» {a p v : Int} : Gap l a p → cAt l p = 46 → cAt l (p + 1) = v → v = -1 ∨ v = 37 ∨ layout v → NStep l o a (tk (Str.ofString "end") (Str.ofString ".") p) (p + 1)
  | punct {a p c : Int} : Gap l a p → cAt l p = c → punc c → NStep l o a (tk (Str.ofString "punct") ⟨#[c.toNat]⟩ p) (p + 1)
theorem next_spec {H : AH} {t d cs : Addr} {a b o : Int} {l : List Nat} {tok : AV} {k x : AV → AH → Prop} (N : NStep l o a tok b) (hT : H t = some (tokO d cs a o)) (C : Cds H cs l) (h0 : 0 ≤ a) (ha : a ≤ l.length) (hl : l.length ≤ 1000000) (h : k tok (upd H t (tokO d cs b o))) : Cal g 4 true 276 [.ref t] H k x := by
  induction N with
  | eof G h1 => exact next_eof_spec G h1 hT C h0 ha h
  | «open» G h1 h2 => exact next_open_spec G h1 h2 hT C h0 ha h
  | open_ct G h1 h2 => exact next_open_ct_spec G h1 h2 hT C h0 ha h
  | name G W h1 h2 => exact next_name_spec G W h1 h2 hT C h0 ha hl h
  | var G W h1 h2 => exact next_var_spec G W h1 h2 hT C h0 ha hl h
  | «end» G h1 h2 h3 => exact next_end_spec G h1 h2 h3 hT C h0 ha h
  | punct G h1 h2 => exact next_punct_spec G h1 h2 hT C h0 ha h
theorem NStep.le {l : List Nat} {o a b : Int} {tok : AV} (N : NStep l o a tok b) (h0 : 0 ≤ a) (ha : a ≤ l.length) : 0 ≤ b ∧ b ≤ l.length := by
  induction N with
  | eof G h1 => have := G.le h0 ha; lia
  | «open» G h1 h2 => have := G.le h0 ha; have := cAt_lt (by lia) h1 (by decide); lia
  | open_ct G h1 h2 => have := G.le h0 ha; have := cAt_lt (by lia) h1 (by decide); lia
  | name G W h1 h2 => have := G.le h0 ha; have := W.le (by lia) (by lia); lia
  | var G W h1 h2 => have := G.le h0 ha; have := W.le (by lia) (by lia); lia
  | «end» G h1 h2 h3 => have := G.le h0 ha; have := cAt_lt (by lia) h1 (by decide); lia
  | punct G h1 h2 => have := G.le h0 ha; have := cAt_lt (by lia) h1 (by unfold punc at h2; lia); lia
end
end

section
section
variable {g : Gd Mine.hp.heap_1}
end
end

section
section
variable {g : Gd Mine.hp.heap_1}
section
variable {H : AH} {r d S dS tx an fn fnn O dO pr inf po F dF va fi fx t dt cs : Addr} {i a b c o : Int} {m : Nat} {l : List Nat} {ts : List Str} {fs : List (List Int)} {xv : List (Str × AV)} {v u : Str} {k x : AV → AH → Prop}
theorem value_raw (iF : H F = some (flO dF S va fi fx)) (iv : H va = some (.dictS xv)) (e1 : getA xv u = some (.int m)) (h : k (.tup [.str (Str.ofString "a"), .int m]) H) : Cal g 2 true 534 [.ref F, .str u] H k x := by
  refine' Cal.enter (as' := [.ref F, .str u]) ["self", "name"] ?F ?B ?N ?_
  k_extra "enter"
  repeat' k_extra "step"
  refine Op2.notInDS (by k_extra "thing") ?_
  rw [e1]
  simp only [Option.isSome_some, Bool.not_true]
  repeat' k_extra "step"
  refine Op2.itemDS (by k_extra "thing") e1 ?_
  repeat' k_extra "step"
  refine Cal.at (atomT_spec ?_) (Ok.leB (by assumption) rfl)
  repeat' k_extra "step"
  exact h
theorem string_mode_spec (hR : H r = some (readerO d S O F t i)) (iF : H F = some (flO dF S va fi fx)) (iv : H va = some (.dictS xv)) (e1 : getA xv (Str.ofString "double_quotes") = some (.int m)) (y : Sy H S dS tx an fn fnn ts fs) (em : ts[m]? = some v) (hz : ts.length ≤ 100000) (h : k (.str v) H) : Cal g 3 true 829 [.ref r] H k x := by
  have yo := y.o
  refine' Cal.enter (as' := [.ref r]) ["self"] ?F ?B ?N ?_
  k_extra "enter"
  repeat' k_extra "step"
  refine Cal.at (value_raw iF iv e1 ?_) (Ok.leB (by assumption) rfl)
  repeat' k_extra "step"
  refine Cal.at (text_spec y em hz ?_) (Ok.leB (by assumption) rfl)
  repeat' k_extra "step"
  exact h
end
end
end

section
section
variable {g : Gd Mine.hp.heap_1}
noncomputable def rcStep (p : Int × Int) (c : Nat) : Int × Int := if c = 10 then (p.1 + 1, 1) else (p.1, p.2 + 1)
noncomputable def rc (l : List Nat) : Int × Int := l.foldl rcStep (1, 1)
theorem rc_take {l : List Nat} {j c : Nat} (h : l[j]? = some c) : rc (l.take (j + 1)) = rcStep (rc (l.take j)) c := by
  unfold rc
  rw [List.take_add_one, h, Option.toList_some, List.foldl_append]
  rfl
theorem place_spec {H : AH} {t d cs : Addr} {a o : Int} {i : Nat} {l : List Nat} {k x : AV → AH → Prop} (hT : H t = some (tokO d cs a o)) (C : Cds H cs l) (hi : i ≤ l.length)
    (h : k (.tup [.int (rc (l.take i)).1, .int (rc (l.take i)).2]) H) : Cal g 1 false 262 [.ref t, .int (i : Nat)] H k x := by
  refine' Cal.enter (as' := [.ref t, .int (i : Nat)]) ["self", "at"] ?F ?B ?N ?_
  k_extra "enter"
  have hz := C.z
  have hCs := C.h
  have hll : ((cds l).length : Int) = l.length := by rw [cds_len]
  repeat' k_extra "step"
  refine (?key : ∀ (n j : Nat) (ρ : Loc), n + j = i → ρ (Str.ofString "self") = some (.ref t) → ρ (Str.ofString "at") = some (.int (i : Nat)) → ρ (Str.ofString "row") = some (.int (rc (l.take j)).1) → ρ (Str.ofString "column") = some (.int (rc (l.take j)).2) → ρ (Str.ofString "index") = some (.int (j : Nat)) → Lp g _ _ _ ρ H _ _) i 0 _ rfl (by k_extra "name") (by k_extra "name") (by k_extra "name") (by k_extra "name") (by k_extra "name")
  intro n
  induction n with
  | zero =>
    intro j ρ hj r1 r2 r3 r4 r5
    have hj : j = i := by lia
    subst hj
    refine Lp.step ?_
    repeat' k_extra "step"
    all_goals first
      | exact h
      | lia
  | succ n ih =>
    intro j ρ hj r1 r2 r3 r4 r5
    have hjl : j < l.length := by lia
    have e : l[j]? = some l[j] := List.getElem?_eq_getElem hjl
    have e2 : (cds l)[((j : Nat) : Int).toNat]? = some (.int l[j]) := by rw [Int.toNat_natCast]; unfold cds; rw [List.getElem?_map, e]; rfl
    have e3 := rc_take e
    refine Lp.step ?_
    repeat' k_extra "step"
    refine Op2.itemL (by k_extra "thing") (by lia) (by lia) e2 ?_
    repeat' k_extra "step"
    · rename_i hc
      have e4 : rc (l.take (j + 1)) = ((rc (l.take j)).1 + 1, 1) := by rw [e3]; exact if_pos (by lia)
      exact ih (j + 1) _ (by lia) (by k_extra "name") (by k_extra "name") (by rw [e4]; k_extra "name") (by rw [e4]; k_extra "name") (by k_extra "name")
    · rename_i hc
      have e4 : rc (l.take (j + 1)) = ((rc (l.take j)).1, (rc (l.take j)).2 + 1) := by rw [e3]; exact if_neg (by lia)
      exact ih (j + 1) _ (by lia) (by k_extra "name") (by k_extra "name") (by rw [e4]; k_extra "name") (by rw [e4]; k_extra "name") (by k_extra "name")
end
end

section
section
variable {g : Gd Mine.hp.heap_1}
theorem faultK : ExcK (Mine.hp.heap_1 g.w.params) 51 := by
  refine ⟨⟨by k_extra "part", by k_extra "part", by k_extra "part", by k_extra "part", ⟨_, 31, by k_extra "part", rfl⟩⟩, ⟨_, _, _, _, _, _, _, _, _, _, _, _, _, _, _, by k_is, rfl, rfl, rfl, rfl⟩⟩
theorem faultM : MkE (Mine.hp.heap_1 g.w.params) 51 48 := ⟨faultK, by k_extra "part", by k_extra "part"⟩
noncomputable abbrev faultO (d : Addr) (T ctx : Option Addr) (kd : Str) (at' row col : Int) : AObj := .exc 51 d T ctx [(Str.ofString "kind", .str kd), (Str.ofString "at", .int at'), (Str.ofString "row", .int row), (Str.ofString "column", .int col)]
theorem SyntaxFault_spec {H : AH} {kd : Str} {at' row col : Int} {k x : AV → AH → Prop}
    (h : ∀ a d H', H a = none → H d = none → (∀ b o, H b = some o → H' b = some o) → H' a = some (faultO d none none kd at' row col) → k (.ref a) H') : Cal g 2 false 51 [.str kd, .int at', .int row, .int col] H k x := by
  refine Cal.makeE faultM (Nat.le_of_ble_eq_true rfl) ?_
  intro a ha
  refine' Cal.enter (as' := [.ref a, .str kd, .int at', .int row, .int col]) ["self", "kind", "at", "row", "column"] ?F ?B ?N ?_
  k_extra "enter"
  repeat' k_extra "step"
  refine Op2.setX0 (by k_extra "thing") faultK (by k_extra "part") (fun d hd => ?_)
  repeat' k_extra "step"
  refine Op2.setX (by k_extra "thing") faultK (by k_extra "part") (Nat.le_of_ble_eq_true rfl) ?_
  repeat' k_extra "step"
  refine Op2.setX (by k_extra "thing") faultK (by k_extra "part") (Nat.le_of_ble_eq_true rfl) ?_
  repeat' k_extra "step"
  refine Op2.setX (by k_extra "thing") faultK (by k_extra "part") (Nat.le_of_ble_eq_true rfl) ?_
  repeat' k_extra "step"
  have hd' := uN hd
  refine ⟨rfl, h a d _ ha hd' (fun b o e => ?_) (upd_same _ _ _)⟩
  have n1 := ne_fresh ha e
  have n2 := ne_fresh hd' e
  repeat (refine upd_other (by assumption) ?_)
  exact e
end
end

section
section
variable {g : Gd Mine.hp.heap_1}
noncomputable def InHand (H : AH) (hd : Option Value) : Prop := hd = none ∨ ∃ b C d T fs, hd = some (.ref b) ∧ H b = some (.exc C d T none fs)
theorem tupAny {c : Cx} {ρ : Loc} {H : AH} {elts : List Expr} {x1 : Nat} {pos : Pos} {ds : List AV} {k : Loc → AH → Prop} {hd : Option Value} (hh : InHand H hd) (hA : c.A.handled = hd) (hl : elts.length = ds.length) (h : AsL g c elts ds ρ H k)
    (hm : assignEach elts c.env = elts.map (fun e => (false, assign e c.env)) := by rfl) : As g c (.Tuple elts x1 pos) (.tup ds) ρ H k := by
  rcases hh with e | ⟨b, C, d, T, fs, e, hb⟩
  · exact As.tup (hA.trans e) hl h hm
  · exact As.tupH (hA.trans e) hb hl h hm
theorem fault_spec {H : AH} {t d cs : Addr} {a o : Int} {i : Nat} {l : List Nat} {kd : Str} {k x : AV → AH → Prop} {hd : Option Value} (hh : InHand H hd) (hT : H t = some (tokO d cs a o)) (C : Cds H cs l) (hi : i ≤ l.length)
    (h : ∀ f df H', H f = none → H df = none → (∀ b ob, H b = some ob → H' b = some ob) → H' f = some (faultO df none none kd i (rc (l.take i)).1 (rc (l.take i)).2) → k (.ref f) H') : CalH g 3 hd 269 [.ref t, .str kd, .int (i : Nat)] H k x := by
  refine' CalH.enter (as' := [.ref t, .str kd, .int (i : Nat)]) ["self", "kind", "at"] ?F ?B ?N ?_
  k_extra "enter"
  intro hA
  repeat' k_extra "step"
  refine Cal.at (place_spec hT C hi ?_) (Ok.leB (by assumption) rfl)
  repeat' k_extra "step"
  refine tupAny hh hA rfl ?_
  repeat' k_extra "step"
  refine Cal.at (SyntaxFault_spec ?_) (Ok.leB (by assumption) rfl)
  intro f df H' h1 h2 h3 h4
  repeat' k_extra "step"
  exact h f df H' h1 h2 h3 h4
end
end

section
section
variable {g : Gd Mine.hp.heap_1}

theorem w29a : True := by
  (k_with "w29a" =>
    first
      | (with_reducible show OpL ..
         first
          | k_extra "call"
          | refine Cal.at (code_at_is (by k_extra "thing") (by assumption) (by lia) (by lia) (by assumption) ?_) (Ok.leB (by assumption) rfl)
          | refine Cal.at (is_digit_spec ?_) (Ok.leB (by assumption) rfl)
          | refine Cal.at (is_small_spec ?_) (Ok.leB (by assumption) rfl)
          | refine Cal.at (is_capital_spec ?_) (Ok.leB (by assumption) rfl))
      | k_extra "step")
  trivial
theorem is_quotable_spec {H : AH} {a : Int} {k x : AV → AH → Prop} (ha : 32 ≤ a ∧ a ≤ 126) (h : k (.bool true) H) : Cal g 1 false 207 [.int a] H k x := by
  refine' Cal.enter (as' := [.int a]) ["code"] ?F ?B ?N ?_
  k_extra "enter"
  repeat' k_extra "w29a"
  rw [decide_eq_true (by lia)]
  exact h
theorem digit_q_spec {H : AH} {k x : AV → AH → Prop} (h : k (.int 26) H) : Cal g 2 false 214 [.int 113] H k x := by
  refine' Cal.enter (as' := [.int 113]) ["code"] ?F ?B ?N ?_
  k_extra "enter"
  repeat' k_extra "w29a"
  refine Op2.sub ?_
  repeat' k_extra "w29a"
  exact h
theorem simple_q_spec {H : AH} {k x : AV → AH → Prop} (h : k (.int (-1)) H) : Cal g 1 true 226 [.int 113] H k x := by
  refine' Cal.enter (as' := [.int 113]) ["code"] ?F ?B ?N ?_
  k_extra "enter"
  repeat' k_extra "w29a"
  refine OpL.max2 (Ok.hand (by assumption) rfl) ?_
  rw [show (if (0 : Int) > 113 then (0 : Int) else 113) = 113 from rfl]
  repeat' k_extra "w29a"
  refine OpL.chr (by lia) (by lia) ?_
  repeat' k_extra "w29a"
  refine Op2.inS ?_
  repeat' k_extra "w29a"
  refine ifF (by decide +kernel) ?_
  iterate 5 k_extra "w29a"
  refine Meth.str (id := "str.find") (fun _ _ _ _ _ _ _ h => GM.find h) ?_
  repeat' k_extra "w29a"
  refine OpL.find (i := -1) (by decide +kernel) ?_
  repeat' k_extra "w29a"
  all_goals first
    | exact h
    | lia
end
end

section
section
variable {g : Gd Mine.hp.heap_1}

theorem w30a : True := by
  (k_with "w30a" =>
    first
      | (with_reducible show OpL ..
         first
          | k_extra "call"
          | refine Cal.at (code_at_is (by k_extra "thing") (by assumption) (by lia) (by lia) (by assumption) ?_) (Ok.leB (by assumption) rfl)
          | refine Cal.at (digit_q_spec ?_) (Ok.leB (by assumption) rfl)
          | refine Cal.at (simple_q_spec ?_) (Ok.leB (by assumption) rfl))
      | k_extra "step")
  trivial
theorem escape_q_spec {H : AH} {t d cs : Addr} {p o : Int} {l : List Nat} {k x : AV → AH → Prop} (hT : H t = some (tokO d cs p o)) (C : Cds H cs l) (h0 : 0 ≤ p) (hp : p ≤ l.length) (hc : cAt l (p + 1) = 113)
    (h : k (.int (-1)) H) : Cal g 4 true 360 [.ref t] H k x := by
  refine' Cal.enter (as' := [.ref t]) ["self"] ?F ?B ?N ?_
  k_extra "enter"
  have hz := C.z
  repeat' k_extra "w30a"
  refine Lp.step ?_
  repeat' k_extra "w30a"
  refine Ex.brk ?_
  refine then_brk ?_
  refine then_brk ?_
  refine turn_brk ?_
  repeat' k_extra "w30a"
  all_goals first
    | exact h
    | lia
theorem abandon_q_spec {H : AH} {t d cs : Addr} {p o c3 : Int} {l : List Nat} {k x : AV → AH → Prop} (hT : H t = some (tokO d cs p o)) (C : Cds H cs l) (h0 : 0 ≤ p) (hp : p + 3 ≤ l.length)
    (hc0 : cAt l p = 92) (hc1 : cAt l (p + 1) = 113) (hc2 : cAt l (p + 2) = 39) (hc3 : cAt l (p + 2 + 1) = c3) (hn : c3 ≠ 39)
    (h : k .none (upd H t (tokO d cs (p + 2 + 1) o))) : Cal g 2 false 367 [.ref t, .int 39] H k x := by
  refine' Cal.enter (as' := [.ref t, .int 39]) ["self", "quote"] ?F ?B ?N ?_
  k_extra "enter"
  have hz := C.z
  have C1 : Cds (upd H t (tokO d cs (p + 2) o)) cs l := C.upd (C.ne hT)
  repeat' k_extra "w30a"
  refine Lp.step ?_
  repeat' k_extra "w30a"
  refine Lp.step ?_
  repeat' k_extra "w30a"
  all_goals first
    | (rw [upd_upd]; exact h)
    | lia
end
end

section
section
variable {g : Gd Mine.hp.heap_1}

theorem w31a : True := by
  (k_with "w31a" =>
    first
      | (with_reducible show OpL ..
         first
          | k_extra "call"
          | refine Cal.at (code_at_is (by k_extra "thing") (by assumption) (by lia) (by lia) (by assumption) ?_) (Ok.leB (by assumption) rfl)
          | refine Cal.at (is_quotable_spec (by lia) ?_) (Ok.leB (by assumption) rfl))
      | k_extra "step")
  trivial
theorem quoted_dot_spec {H : AH} {t d cs : Addr} {a p o c3 : Int} {l : List Nat} {k x : AV → AH → Prop} (hT : H t = some (tokO d cs a o)) (C : Cds H cs l) (h0 : 0 ≤ p) (hp : p + 3 ≤ l.length)
    (hc1 : cAt l (p + 1) = 46) (hc2 : cAt l (p + 1 + 1) = 39) (hc3 : cAt l (p + 1 + 1 + 1) = c3) (hn : c3 ≠ 39)
    (h : ∀ q H', H q = none → q ≠ t → (∀ b ob, b ≠ t → H b = some ob → H' b = some ob) → H' t = some (tokO d cs (p + 1 + 1 + 1) o) → H' q = some (.list [.int 46]) → k (.ref q) H') : Cal g 3 false 353 [.ref t, .int p, .int 39] H k x := by
  refine' Cal.enter (as' := [.ref t, .int p, .int 39]) ["self", "begun", "quote"] ?F ?B ?N ?_
  k_extra "enter"
  have hz := C.z
  have n0 := C.ne hT
  repeat' k_extra "w31a"
  intro q hq
  have hq' := uN hq
  have q1 := ne_fresh hq' hT
  have q2 := ne_fresh hq' C.h
  have C1 : Cds (upd H t (tokO d cs (p + 1) o)) cs l := C.upd n0
  have C2 : Cds (upd (upd H t (tokO d cs (p + 1) o)) q (.list [])) cs l := C1.upd q2
  repeat' k_extra "w31a"
  refine Lp.step ?_
  repeat' k_extra "w31a"
  refine OpL.append (by k_extra "thing") (by simp) ?_
  have C3 : Cds (upd (upd (upd H t (tokO d cs (p + 1) o)) q (.list [])) q (.list [.int 46])) cs l := C2.upd q2
  have C4 : Cds (upd (upd (upd (upd H t (tokO d cs (p + 1) o)) q (.list [])) q (.list [.int 46])) t (tokO d cs (p + 1 + 1) o)) cs l := C3.upd n0
  repeat' k_extra "w31a"
  refine Lp.step ?_
  repeat' k_extra "w31a"
  refine h q _ hq' (Ne.symm q1) (fun b ob nb e => ?_) (upd_same _ _ _) ?_
  · have q3 := ne_fresh hq' e
    repeat (refine upd_other (by assumption) ?_)
    exact e
  · have q4 : q ≠ t := Ne.symm q1
    rw [upd_ne q4, upd_ne q4]
    exact upd_same _ _ _
end
end

section
section
variable {g : Gd Mine.hp.heap_1}

theorem w32a : True := by
  (k_with "w32a" =>
    first
      | (with_reducible show OpL ..
         first
          | k_extra "call"
          | refine Cal.at (code_at_is (by k_extra "thing") (by assumption) (by lia) (by lia) (by assumption) ?_) (Ok.leB (by assumption) rfl)
          | refine Cal.at (is_quotable_spec (by lia) ?_) (Ok.leB (by assumption) rfl))
      | k_extra "step")
  trivial
theorem quoted_bad_spec {H : AH} {t d cs : Addr} {a o c3 : Int} {p : Nat} {l : List Nat} {k x : AV → AH → Prop} (hT : H t = some (tokO d cs a o)) (C : Cds H cs l) (hp : p + 5 ≤ l.length)
    (hc1 : cAt l ((p : Int) + 1) = 97) (hc2 : cAt l ((p : Int) + 1 + 1) = 92) (hc3 : cAt l ((p : Int) + 1 + 1 + 1) = 113) (hc4 : cAt l ((p : Int) + 1 + 1 + 2) = 39) (hc5 : cAt l ((p : Int) + 1 + 1 + 2 + 1) = c3) (hn : c3 ≠ 39)
    (h : ∀ f H', Fl 51 (fun ctx fs H₀ => ctx = none ∧ fs = [(Str.ofString "kind", .str (Str.ofString "bad_escape")), (Str.ofString "at", .int ((p + 2 : Nat) : Int)), (Str.ofString "row", .int (rc (l.take (p + 2))).1), (Str.ofString "column", .int (rc (l.take (p + 2))).2)] ∧
      H₀ t = some (tokO d cs ((p : Int) + 1 + 1 + 2 + 1) o) ∧ ∀ b ob, b ≠ t → H b = some ob → H₀ b = some ob) (.ref f) H' → x (.ref f) H') : Cal g 5 true 353 [.ref t, .int (p : Nat), .int 39] H k x := by
  refine' Cal.enterY (as' := [.ref t, .int (p : Nat), .int 39]) ["self", "begun", "quote"] ?F ?B ?N ?_
  k_extra "enter"
  have hz := C.z
  have n0 := C.ne hT
  repeat' k_extra "w32a"
  intro q hq
  have hq' := uN hq
  have q1 := ne_fresh hq' hT
  have q2 := ne_fresh hq' C.h
  have C1 : Cds (upd H t (tokO d cs ((p : Int) + 1) o)) cs l := C.upd n0
  have C2 : Cds (upd (upd H t (tokO d cs ((p : Int) + 1) o)) q (.list [])) cs l := C1.upd q2
  repeat' (first | with_reducible refine Ex.whilX ?_ | k_extra "w32a")
  refine LpX.step rfl ?_
  repeat' k_extra "w32a"
  refine OpL.append (by k_extra "thing") (by simp) ?_
  have C3 : Cds (upd (upd (upd H t (tokO d cs ((p : Int) + 1) o)) q (.list [])) q (.list [.int 97])) cs l := C2.upd q2
  have C4 : Cds (upd (upd (upd (upd H t (tokO d cs ((p : Int) + 1) o)) q (.list [])) q (.list [.int 97])) t (tokO d cs ((p : Int) + 1 + 1) o)) cs l := C3.upd n0
  repeat' k_extra "w32a"
  show LpX g _ _ _ _ _ _ _
  refine LpX.step rfl ?_
  repeat' k_extra "w32a"
  refine Cal.at (escape_q_spec (by k_extra "thing") C4 (by lia) (by lia) hc3 ?_) (Ok.leB (by assumption) rfl)
  repeat' k_extra "w32a"
  refine Cal.at (abandon_q_spec (by k_extra "thing") C4 (by lia) (by lia) hc2 hc3 hc4 hc5 hn ?_) (Ok.leB (by assumption) rfl)
  repeat' k_extra "w32a"
  refine Ex.raise faultK ?_
  repeat' k_extra "w32a"
  have C5 := C4.upd (o := tokO d cs ((p : Int) + 1 + 1 + 2 + 1) o) n0
  refine CalH.at (hd := none) (fault_spec (i := p + 2) (.inl rfl) (upd_same _ _ _) C5 (by lia) ?_) (Ok.leB (by assumption) rfl) (Ok.hand (by assumption) rfl)
  intro f df H' h1 h2 h3 h4
  have FL : Fl 51 (fun ctx fs H₀ => ctx = none ∧ fs = [(Str.ofString "kind", .str (Str.ofString "bad_escape")), (Str.ofString "at", .int ((p + 2 : Nat) : Int)), (Str.ofString "row", .int (rc (l.take (p + 2))).1), (Str.ofString "column", .int (rc (l.take (p + 2))).2)] ∧
      H₀ t = some (tokO d cs ((p : Int) + 1 + 1 + 2 + 1) o) ∧ ∀ b ob, b ≠ t → H b = some ob → H₀ b = some ob) (.ref f) H' := by
    refine ⟨f, df, none, none, _, _, rfl, h4, trivial, h1, h3, rfl, rfl, upd_same _ _ _, fun b ob nb e => ?_⟩
    have q3 := ne_fresh hq' e
    repeat (refine upd_other (by assumption) ?_)
    exact e
  exact ⟨⟨_, FL⟩, RaiseNew.plain (Ok.hand (by assumption) rfl) ⟨51, _, FL, fun H'' w => ⟨51, _, w, fun H3 w3 => h _ _ w3⟩⟩⟩
end
end

section
section
variable {g : Gd Mine.hp.heap_1}

theorem w33a : True := by
  (k_with "w33a" =>
    first
      | (with_reducible show OpL ..
         first
          | k_extra "call"
          | refine Cal.at (code_at_is (by k_extra "thing") (by first | assumption | exact Cds.upd (by assumption) (by assumption)) (by lia) (by lia) (by assumption) ?_) (Ok.leB (by assumption) rfl)
          | refine Cal.at (skip_layout_spec (by assumption) (by k_extra "thing") (by assumption) (by lia) (by lia) ?_) (Ok.leB (by assumption) rfl)
          | refine Cal.at (word_spec (by assumption) (by k_extra "thing") (by first | assumption | exact Cds.upd (by assumption) (by assumption)) (by lia) (by lia) (by lia) ?_) (Ok.leB (by assumption) rfl)
          | refine Cal.at (symbol_end_spec (by k_extra "thing") (by first | assumption | exact Cds.upd (by assumption) (by assumption)) (by lia) (by lia) (by assumption) (by assumption) (by assumption) ?_) (Ok.leB (by assumption) rfl)
          | refine Cal.at (is_layout_spec ?_) (Ok.leB (by assumption) rfl)
          | refine Cal.at (is_symbol_spec ?_) (Ok.leB (by assumption) rfl)
          | refine Cal.at (is_digit_spec ?_) (Ok.leB (by assumption) rfl)
          | refine Cal.at (is_small_spec ?_) (Ok.leB (by assumption) rfl)
          | refine Cal.at (is_capital_spec ?_) (Ok.leB (by assumption) rfl)
          | refine Cal.at (is_alnum_spec ?_) (Ok.leB (by assumption) rfl))
      | k_extra "step")
  trivial
section
variable {H : AH} {t d cs : Addr} {a p q o v c : Int} {l : List Nat} {k x : AV → AH → Prop}
theorem next_qdot_spec (G : Gap l a p) (hc : cAt l p = 39) (hc1 : cAt l (p + 1) = 46) (hc2 : cAt l (p + 1 + 1) = 39) (hc3 : cAt l (p + 1 + 1 + 1) = c) (hn3 : c ≠ 39) (hT : H t = some (tokO d cs a o)) (C : Cds H cs l) (h0 : 0 ≤ a) (ha : a ≤ l.length) (hl : p + 3 ≤ l.length)
    (h : ∀ H', (∀ b ob, b ≠ t → H b = some ob → H' b = some ob) → H' t = some (tokO d cs (p + 1 + 1 + 1) o) → k (.tup [.str (Str.ofString "qname"), .str (Str.ofString "."), .int p]) H') : Cal g 5 true 276 [.ref t] H k x := by
  refine' Cal.enter (as' := [.ref t]) ["self"] ?F ?B ?N ?_
  k_extra "enter"
  have hz := C.z
  have hCs := C.h
  have hn := C.ne hT
  have hll : ((cds l).length : Int) = l.length := by rw [cds_len]
  have hr := G.le h0 ha
  have C1 : Cds (upd H t (tokO d cs p o)) cs l := C.upd hn
  repeat' k_extra "w33a"
  refine Cal.at (quoted_dot_spec (upd_same _ _ _) C1 (by lia) hl hc1 hc2 hc3 hn3 ?_) (Ok.leB (by assumption) rfl)
  intro q H' f1 f2 f3 f4 f5
  repeat' k_extra "w33a"
  refine Cal.at (codes_text_spec (l := [46]) f5 (by intro n hn; cases hn with | head => decide | tail _ h => cases h) (by decide) ?_) (Ok.leB (by assumption) rfl)
  repeat' k_extra "w33a"
  exact h H' (fun b ob nb e => f3 b ob nb ((upd_ne nb).trans e)) f4
theorem FlT.mono {T : Option Addr → Prop} {C : Addr} {kx kx' : Option Addr → List (Str × AV) → AH → Prop} {v : AV} {H : AH} (z : FlT T C kx v H) (m : ∀ ctx fs H₀, kx ctx fs H₀ → kx' ctx fs H₀) : FlT T C kx' v H := by
  obtain ⟨a, d, t, ctx, fs, H₀, z1, z2, z3, z4, z5, z6⟩ := z
  exact ⟨a, d, t, ctx, fs, H₀, z1, z2, z3, z4, z5, m _ _ _ z6⟩
noncomputable def KxT (H : AH) (t d cs : Addr) (o : Int) (l : List Nat) (kd : Str) (i : Nat) (e : Int) (ctx : Option Addr) (fs : List (Str × AV)) (H₀ : AH) : Prop :=
  ctx = none ∧ fs = [(Str.ofString "kind", .str kd), (Str.ofString "at", .int (i : Int)), (Str.ofString "row", .int (rc (l.take i)).1), (Str.ofString "column", .int (rc (l.take i)).2)] ∧ H₀ t = some (tokO d cs e o) ∧ ∀ b ob, b ≠ t → H b = some ob → H₀ b = some ob
theorem next_bad_spec {m : Nat} (G : Gap l a m) (hc : cAt l (m : Int) = 39) (hc1 : cAt l ((m : Int) + 1) = 97) (hc2 : cAt l ((m : Int) + 1 + 1) = 92) (hc3 : cAt l ((m : Int) + 1 + 1 + 1) = 113) (hc4 : cAt l ((m : Int) + 1 + 1 + 2) = 39) (hc5 : cAt l ((m : Int) + 1 + 1 + 2 + 1) = c) (hn5 : c ≠ 39)
    (hT : H t = some (tokO d cs a o)) (C : Cds H cs l) (h0 : 0 ≤ a) (ha : a ≤ l.length) (hl : m + 5 ≤ l.length)
    (h : ∀ f H', Fl 51 (KxT H t d cs o l (Str.ofString "bad_escape") (m + 2) ((m : Int) + 1 + 1 + 2 + 1)) (.ref f) H' → x (.ref f) H') : Cal g 7 true 276 [.ref t] H k x := by
  refine' Cal.enterY (as' := [.ref t]) ["self"] ?F ?B ?N ?_
  k_extra "enter"
  have hz := C.z
  have hCs := C.h
  have hn := C.ne hT
  have hll : ((cds l).length : Int) = l.length := by rw [cds_len]
  have hr := G.le h0 ha
  have C1 : Cds (upd H t (tokO d cs (m : Int) o)) cs l := C.upd hn
  repeat' k_extra "w33a"
  refine Cal.at (quoted_bad_spec (upd_same _ _ _) C1 hl hc1 hc2 hc3 hc4 hc5 hn5 ?_) (Ok.leB (by assumption) rfl)
  intro f H' w
  have w' : Fl 51 (KxT H t d cs o l (Str.ofString "bad_escape") (m + 2) ((m : Int) + 1 + 1 + 2 + 1)) (.ref f) H' := w.mono fun ctx fs H₀ z => ⟨z.1, z.2.1, z.2.2.1, fun b ob nb e => z.2.2.2 b ob nb ((upd_ne nb).trans e)⟩
  exact ⟨51, _, w', fun H3 w3 => h _ _ w3⟩
end
end
end

section
section
variable {g : Gd Mine.hp.heap_1}
theorem pfault_spec {H : AH} {P : Addr} {kd u0 u : Str} {p : Int} {k x : AV → AH → Prop}
    (h : ∀ f df H', H f = none → H df = none → (∀ b ob, H b = some ob → H' b = some ob) → H' f = some (faultO df none none kd p 0 0) → k (.ref f) H') : Cal g 3 false 662 [.ref P, .str kd, tk u0 u p] H k x := by
  refine' Cal.enter (as' := [.ref P, .str kd, tk u0 u p]) ["self", "kind", "token"] ?F ?B ?N ?_
  k_extra "enter"
  repeat' k_extra "step"
  refine Cal.at (SyntaxFault_spec ?_) (Ok.leB (by assumption) rfl)
  intro f df H' h1 h2 h3 h4
  repeat' k_extra "step"
  exact h f df H' h1 h2 h3 h4
end
end

section
section
end
end

section
section
variable {g : Gd Mine.hp.heap_1}
theorem skip_clause_spec {H : AH} {t d cs : Addr} {a p o v : Int} {l : List Nat} {k x : AV → AH → Prop} (G : Gap l a p) (hc : cAt l p = 46) (hv' : cAt l (p + 1) = v) (he : v = -1 ∨ v = 37 ∨ layout v) (hT : H t = some (tokO d cs a o)) (C : Cds H cs l) (h0 : 0 ≤ a) (ha : a ≤ l.length)
    (h : k .none (upd H t (tokO d cs (p + 1) o))) : Cal g 5 false 283 [.ref t] H k x := by
  refine' Cal.enter (as' := [.ref t]) ["self"] ?F ?B ?N ?_
  k_extra "enter"
  repeat' k_extra "step"
  refine Lp.step ?_
  repeat' k_extra "step"
  refine Cal.at (next_endF_spec G hc hv' he hT C h0 ha ?_) (Ok.leB (by assumption) rfl)
  repeat' k_extra "step"
  exact h
end
end

section
section
variable {g : Gd Mine.hp.heap_1}
inductive NStepQ (l : List Nat) (o : Int) : Int → AV → Int → Prop
  | old {a b : Int} {tok : AV} : NStep l o a tok b → NStepQ l o a tok b
  | qdot {a p c : Int} : Gap l a p → cAt l p = 39 → cAt l (p + 1) = 46 → cAt l (p + 1 + 1) = 39 → cAt l (p + 1 + 1 + 1) = c → c ≠ 39 → p + 3 ≤ l.length → NStepQ l o a (tk (Str.ofString "qname") (Str.ofString ".") p) (p + 1 + 1 + 1)
theorem nextQ_spec {H : AH} {t d cs : Addr} {a b o : Int} {l : List Nat} {tok : AV} {k x : AV → AH → Prop} (N : NStepQ l o a tok b) (hT : H t = some (tokO d cs a o)) (C : Cds H cs l) (h0 : 0 ≤ a) (ha : a ≤ l.length) (hl : l.length ≤ 1000000)
    (h : ∀ H', KeepL [t] H H' → H' t = some (tokO d cs b o) → k tok H') : Cal g 5 true 276 [.ref t] H k x := by
  induction N with
  | old N => exact Cal.mono (next_spec (k := k) (x := x) N hT C h0 ha hl (h _ ((KeepL.refl _ _).upd (by simp)) (upd_same _ _ _))) (fun _ _ z => z) (fun _ _ z => z) (by decide) id
  | qdot G h1 h2 h3 h4 h5 h6 => exact next_qdot_spec G h1 h2 h3 h4 h5 hT C h0 ha h6 fun H' kp e => h H' (fun b ob nb eb => kp b ob (fun q => nb (q ▸ .head _)) eb) e
theorem NStepQ.le {l : List Nat} {o a b : Int} {tok : AV} (N : NStepQ l o a tok b) (h0 : 0 ≤ a) (ha : a ≤ l.length) : 0 ≤ b ∧ b ≤ l.length := by
  induction N with
  | old N => exact N.le h0 ha
  | qdot G h1 h2 h3 h4 h5 h6 => have := G.le h0 ha; lia
inductive GCurQ (l : List Nat) (o : Int) : AV → Int → List AV → AV → Int → Prop
  | stop {kd u : Str} {p b : Int} : kd = Str.ofString "end" ∨ kd = Str.ofString "eof" → GCurQ l o (tk kd u p) b [] (tk kd u p) b
  | more {kd u : Str} {p b b' c : Int} {tok' last : AV} {ts : List AV} : kd ≠ Str.ofString "end" → kd ≠ Str.ofString "eof" → NStepQ l o b tok' b' → GCurQ l o tok' b' ts last c → GCurQ l o (tk kd u p) b (tk kd u p :: ts) last c
theorem gatherQ_spec {H : AH} {r d S O F t dt cs : Addr} {i a b c o : Int} {l : List Nat} {tok last : AV} {ts out : List AV} {k x : AV → AH → Prop} (hR : H r = some (readerO d S O F t i)) (hT : H t = some (tokO dt cs a o)) (C : Cds H cs l) (h0 : 0 ≤ a) (ha : a ≤ l.length) (hl : l.length ≤ 1000000) (N : NStepQ l o a tok b) (G : GCurQ l o tok b ts last c) (hz : ts.length ≤ 100000)
    (ho : (∃ u p, last = tk (Str.ofString "end") u p ∧ out = ts ++ [last]) ∨ ((∃ u p, last = tk (Str.ofString "eof") u p) ∧ ts = [] ∧ out = []))
    (h : ∀ q H', H q = none → KeepL [t, r] H H' → H' t = some (tokO dt cs c o) → H' r = some (readerO d S O F t c) → H' q = some (.list out) → k (.ref q) H') : Cal g 7 true 836 [.ref r] H k x := by
  have hn := C.ne hT
  have hCs := C.h
  have nrt : r ≠ t := ne_kind hR hT rfl
  refine' Cal.enter (as' := [.ref r]) ["self"] ?F ?B ?N ?_
  k_extra "enter"
  repeat' k_extra "step"
  intro q hq
  have q1 := ne_fresh hq hR
  have q2 := ne_fresh hq hT
  have q3 := ne_fresh hq hCs
  have C1 : Cds (upd H q (.list [])) cs l := C.upd q3
  repeat' k_extra "step"
  refine Cal.at (nextQ_spec N (by k_extra "thing") C1 h0 ha hl ?_) (Ok.leB (by assumption) rfl)
  intro H1 kp1 e1
  have hb := N.le h0 ha
  have e2 := kp1 q _ (by k_extra "nes") (upd_same _ _ _)
  repeat' k_extra "step"
  have kp0 : KeepL [t, q] H (upd H q (.list [])) := (KeepL.refl _ _).upd (by simp)
  refine (?key : ∀ (tok : AV) (b : Int) (ts' : List AV) (us : List AV) (H' : AH) (ρ : Loc), GCurQ l o tok b ts' last c → us ++ ts' = ts → 0 ≤ b → b ≤ l.length → KeepL [t, q] H H' → H' t = some (tokO dt cs b o) → H' q = some (.list us) → ρ (Str.ofString "self") = some (.ref r) → ρ (Str.ofString "tokens") = some (.ref q) → ρ (Str.ofString "token") = some tok → Lp g _ _ _ ρ H' _ _) tok b ts [] H1 _ G rfl hb.1 hb.2 (kp0.trans (kp1.mono (by k_extra "subs"))) e1 e2 (by k_extra "name") (by k_extra "name") (by k_extra "name")
  intro tok b ts' us H' ρ G
  induction G generalizing us H' ρ with
  | stop hk =>
    intro he hb0 hb1 kp e1 e2 s1 s2 s3
    have e3 := kp _ _ (by simp; exact ⟨nrt, q1⟩) hR
    rw [List.append_nil] at he
    subst he
    rcases ho with ⟨u', p', e4, rfl⟩ | ⟨⟨u', p', e4⟩, rfl, rfl⟩
    · cases e4
      refine Lp.step ?_
      repeat' k_extra "step"
      refine h q _ hq (fun y oy ny ey => ?_) (by k_extra "thing") (by k_extra "thing") (by k_extra "thing")
      simp only [List.mem_cons, List.not_mem_nil, or_false, not_or] at ny
      have f1 := ne_fresh hq ey
      exact (upd_ne f1).trans ((upd_ne ny.2).trans (kp y oy (by simp; exact ⟨ny.1, f1⟩) ey))
    · cases e4
      refine Lp.step ?_
      repeat' k_extra "step"
      refine ifF (show ¬ false = true from Bool.false_ne_true) ?_
      repeat' k_extra "step"
      refine h q _ hq (fun y oy ny ey => ?_) (by k_extra "thing") (by k_extra "thing") (by k_extra "thing")
      simp only [List.mem_cons, List.not_mem_nil, or_false, not_or] at ny
      have f1 := ne_fresh hq ey
      exact (upd_ne ny.2).trans (kp y oy (by simp; exact ⟨ny.1, f1⟩) ey)
  | more h1 h2 N' G' ih =>
    intro he hb0 hb1 kp e1 e2 s1 s2 s3
    have e3 := kp _ _ (by simp; exact ⟨nrt, q1⟩) hR
    have e4 := kp _ _ (by simp; exact ⟨hn, q3⟩) hCs
    have C2 : Cds H' cs l := ⟨e4, C.b, C.z⟩
    have hlen : us.length ≤ 100000 := by rw [← he] at hz; simp at hz; lia
    refine Lp.step ?_
    repeat' k_extra "step"
    refine Cal.at (nextQ_spec N' (by k_extra "thing") (C2.upd q3) hb0 hb1 hl ?_) (Ok.leB (by assumption) rfl)
    intro H2 kp2 f1
    have hb' := N'.le hb0 hb1
    have f2 := kp2 q _ (by k_extra "nes") (upd_same _ _ _)
    repeat' k_extra "step"
    refine ih ?_ ?_ ?_ (us ++ [_]) _ _ (by simpa using he) hb'.1 hb'.2 ((kp.upd (by simp)).trans (kp2.mono (by k_extra "subs"))) f1 f2 (by k_extra "name") (by k_extra "name") (by k_extra "name") <;> assumption
end
end

section
section
variable {g : Gd Mine.hp.heap_1}
theorem Keep.updB {H H' : AH} {a : Addr} {o : AObj} (x : Keep H H') : Keep (Mine.upd H a o) (Mine.upd H' a o) := fun b ob e => by
  by_cases q : b = a
  · subst q; rw [upd_same] at e ⊢; exact e
  · rw [upd_ne q] at e ⊢; exact x b ob e
noncomputable def KxR (H : AH) (r t : Addr) (R T : AObj) (kd : Str) (i : Nat) (l : List Nat) (ctx : Option Addr → Prop) (cx : Option Addr) (fs : List (Str × AV)) (H₀ : AH) : Prop :=
  ctx cx ∧ fs = [(Str.ofString "kind", .str kd), (Str.ofString "at", .int (i : Int)), (Str.ofString "row", .int (rc (l.take i)).1), (Str.ofString "column", .int (rc (l.take i)).2)] ∧ H₀ t = some T ∧ H₀ r = some R ∧ KeepL [t, r] H H₀
theorem gather_bad_spec {H : AH} {r d S O F t dt cs : Addr} {i a o v c : Int} {m : Nat} {p : Int} {l : List Nat} {k x : AV → AH → Prop} (hR : H r = some (readerO d S O F t i)) (hT : H t = some (tokO dt cs a o)) (C : Cds H cs l) (h0 : 0 ≤ a) (ha : a ≤ l.length) 
    (G : Gap l a m) (hc : cAt l (m : Int) = 39) (hc1 : cAt l ((m : Int) + 1) = 97) (hc2 : cAt l ((m : Int) + 1 + 1) = 92) (hc3 : cAt l ((m : Int) + 1 + 1 + 1) = 113) (hc4 : cAt l ((m : Int) + 1 + 1 + 2) = 39) (hc5 : cAt l ((m : Int) + 1 + 1 + 2 + 1) = c) (hn5 : c ≠ 39) (hl : m + 5 ≤ l.length)
    (G2 : Gap l ((m : Int) + 1 + 1 + 2 + 1) p) (hcp : cAt l p = 46) (hv' : cAt l (p + 1) = v) (he : v = -1 ∨ v = 37 ∨ layout v)
    (h : ∀ f H', Fl 51 (KxR H r t (readerO d S O F t (p + 1)) (tokO dt cs (p + 1) o) (Str.ofString "bad_escape") (m + 2) l (fun c => c = none)) (.ref f) H' → x (.ref f) H') : Cal g 9 true 836 [.ref r] H k x := by
  have hn := C.ne hT
  have hCs := C.h
  have nrt : r ≠ t := ne_kind hR hT rfl
  refine' Cal.enterY (as' := [.ref r]) ["self"] ?F ?B ?N ?_
  k_extra "enter"
  rename_i A L ok
  have okm : ∀ f, Ok 8 false (A.mark (some (Value.ref f))) := fun f => ok.mark
  repeat' k_extra "step"
  intro q hq
  have q1 := ne_fresh hq hR
  have q2 := ne_fresh hq hT
  have q3 := ne_fresh hq hCs
  have C1 : Cds (upd H q (.list [])) cs l := C.upd q3
  repeat' (first | with_reducible refine Ex.tryAs faultK rfl (by k_extra "eq") (by k_extra "eq") (by k_extra "eq") ?ht ?bd | k_extra "step")
  case ht =>
    intro A' ρ' H' k' x' hk
    repeat' k_extra "step"
    exact hk
  refine Cal.at (next_bad_spec G hc hc1 hc2 hc3 hc4 hc5 hn5 (by k_extra "thing") C1 h0 ha hl ?_) (Ok.leB (by assumption) rfl)
  intro f H1 w
  refine ⟨_, w, fun H2 w2 => ⟨f, rfl, ?_⟩⟩
  obtain ⟨f', df, T, ctx, fs, H₀, e0, e1, -, e2, kp, e3, e4, e5, e6⟩ := w2
  cases e0
  have e7 : H₀ r = some (readerO d S O F t i) := e6 _ _ nrt (upd_fresh hq hR)
  have e8 : H₀ cs = some (.list (cds l)) := e6 _ _ hn (upd_fresh hq hCs)
  have t2 := kp _ _ e5
  have r2 := kp _ _ e7
  have C2 : Cds H2 cs l := ⟨kp _ _ e8, C.b, C.z⟩
  have okf := okm f
  have G0 := G2.le
  repeat' k_extra "step"
  refine Cal.at (skip_clause_spec G2 hcp hv' he t2 C2 (by lia) (by lia) ?_) (Ok.leB okf rfl)
  repeat' k_extra "step"
  refine Ex.raise faultK ?_
  repeat' k_extra "step"
  have nf1 : f ≠ t := ne_kind e1 t2 rfl
  have nf2 : f ≠ r := ne_kind e1 r2 rfl
  have FL : Fl 51 (KxR H r t (readerO d S O F t (p + 1)) (tokO dt cs (p + 1) o) (Str.ofString "bad_escape") (m + 2) l (fun c => c = none)) (.ref f) (upd (upd H2 t (tokO dt cs (p + 1) o)) r (readerO d S O F t (p + 1))) := by
    refine ⟨f, df, T, ctx, fs, upd (upd H₀ t (tokO dt cs (p + 1) o)) r (readerO d S O F t (p + 1)), rfl, (upd_ne nf2).trans ((upd_ne nf1).trans e1), trivial, upd_none.mpr ⟨nf2, upd_none.mpr ⟨nf1, e2⟩⟩, kp.updB.updB, e3, e4, (upd_ne (Ne.symm nrt)).trans (upd_same _ _ _), upd_same _ _ _, fun b ob nb eb => ?_⟩
    simp only [List.mem_cons, List.not_mem_nil, or_false, not_or] at nb
    exact (upd_ne nb.2).trans ((upd_ne nb.1).trans (e6 b ob nb.1 (upd_fresh hq eb)))
  exact ⟨⟨_, FL⟩, RaiseNew.same rfl ⟨51, _, FL, fun H'' w => ⟨51, _, w, fun H3 w3 => h _ _ w3⟩⟩⟩
end
end

section
section
variable {g : Gd Mine.hp.heap_1}
noncomputable abbrev aT (i : Int) : AV := .tup [.str (Str.ofString "a"), .int i]
section
variable {H : AH} {S d tx an fn fnn : Addr} {ts : List Str} {fs : List (List Int)} {u : Str} {k x : AV → AH → Prop}
theorem atom_old (y : Sy H S d tx an fn fnn ts fs) (hu : u ∈ ts) (hz : ts.length ≤ 100000) (h : k (.int (posA ts u : Nat)) H) : Cal g 1 false 88 [.ref S, .str u] H k x := by
  refine atom_spec y hz ?_
  rw [addA_old hu, putT, upd_self y.t, upd_self y.a]
  exact h
theorem functor_old {a r : Int} (y : Sy H S d tx an fn fnn ts fs) (hu : [a, r] ∈ fs) (hz : fs.length ≤ 100000) (h : k (.int (posA fs [a, r] : Nat)) H) : Cal g 1 false 102 [.ref S, .int a, .int r] H k x := by
  refine functor_spec y hz ?_
  rw [addA_old hu, putFn, upd_self y.f, upd_self y.n]
  exact h
end
section
variable {H : AH} {a : PA} {toks : List AV} {pl lim pri nn : Int} {term tok : AV} {u kd u' kd' : Str} {p p' i : Int} {frs : List AV} {k x : AV → AH → Prop}
  {xi xp : List (Int × AV)} {ts : List Str} {fs : List (List Int)}
theorem Op2.inDIn {KF : Params → Frag} {g : Gd KF} {c : Cx} {ρ : Loc} {H : AH} {k x : AV → Loc → AH → Prop} {a : Addr} {xs : List (Int × AV)} {u : Int} (hH : H a = some (.dictI xs)) (e : getA xs u = none) (h : k (.bool false) ρ H) : Op2 g c VR (compareOp .In) (.int u) (.ref a) ρ H k x := Op2.inDI hH (by rw [e]; exact h)
theorem is_operator_no (hO : H a.O = some (opO a.dO a.S a.pr a.inf a.po)) (hP : H a.pr = some (.dictI xp)) (hI : H a.inf = some (.dictI xi)) (hq : H a.po = some (.dictI [])) (e1 : getA xp i = none) (e2 : getA xi i = none) (h : k (.bool false) H) : Cal g 1 false 485 [.ref a.O, .int i] H k x := by
  refine' Cal.enter (as' := [.ref a.O, .int i]) ["self", "a"] ?F ?B ?N ?_
  k_extra "enter"
  repeat' (first | refine Op2.inDIn (by k_extra "thing") (by first | assumption | rfl) ?_ | k_extra "step")
  exact h
theorem w39a : True := by
  (k_with "w39a" =>
    first
      | (with_reducible show OpL ..
         first
          | k_extra "call"
          | refine Cal.at (is_punct_spec ?_) (Ok.leB (by assumption) rfl)
          | refine Cal.at (atomT_spec ?_) (Ok.leB (by assumption) rfl)
          | refine Cal.at (is_operator_no (by assumption) (by assumption) (by assumption) (by assumption) (by assumption) (by assumption) ?_) (Ok.leB (by assumption) rfl)
          | refine Cal.at (peek_spec (by k_extra "thing") (by k_extra "thing") (by lia) (by lia) (by assumption) ?_) (Ok.leB (by assumption) rfl)
          | refine Cal.at (take_spec (by k_extra "thing") (by k_extra "thing") (by lia) (by lia) (by assumption) ?_) (Ok.leB (by assumption) rfl))
      | k_extra "step")
  trivial
theorem named_plain (hP : H a.P = some (parserO a pl lim pri nn term)) (hT : H a.tl = some (.list toks)) (h0 : 0 ≤ pl) (hz0 : pl ≤ 2 ^ 39) (ht' : toks[pl.toNat]? = some (tk kd' u' p')) (hk : kd' ≠ Str.ofString "open_ct") (hu : u ≠ Str.ofString "-")
    (hO : H a.O = some (opO a.dO a.S a.pr a.inf a.po)) (hpp : H a.pr = some (.dictI xp)) (hI : H a.inf = some (.dictI xi)) (hq : H a.po = some (.dictI [])) (e1 : getA xp i = none) (e2 : getA xi i = none)
    (h : k (.int 1) (upd H a.P (parserO a pl lim 0 nn (aT i)))) : Cal g 3 false 704 [.ref a.P, .int i, tk kd u p] H k x := by
  refine' Cal.enter (as' := [.ref a.P, .int i, tk kd u p]) ["self", "a", "token"] ?F ?B ?N ?_
  k_extra "enter"
  repeat' k_extra "w39a"
  all_goals try (rename_i hc; exact absurd hc (by assumption))
  all_goals
    refine Cal.at (settle_spec hP ?_) (Ok.leB (by assumption) rfl)
    repeat' k_extra "w39a"
    exact h
theorem operand_plain (hP : H a.P = some (parserO a pl lim pri nn term)) (hT : H a.tl = some (.list toks)) (h0 : 0 ≤ pl) (hz0 : pl < 2 ^ 39) (hkd : kd = Str.ofString "name" ∨ kd = Str.ofString "qname") (ht : toks[pl.toNat]? = some (tk kd u p)) (ht' : toks[(pl + 1).toNat]? = some (tk kd' u' p')) (hk : kd' ≠ Str.ofString "open_ct") (hu : u ≠ Str.ofString "-")
    (y : Sy H a.S a.dS a.tx a.an a.fn a.fnn ts fs) (hzt : ts.length ≤ 100000) (hm : u ∈ ts)
    (hO : H a.O = some (opO a.dO a.S a.pr a.inf a.po)) (hpp : H a.pr = some (.dictI xp)) (hI : H a.inf = some (.dictI xi)) (hq : H a.po = some (.dictI [])) (e1 : getA xp (posA ts u : Nat) = none) (e2 : getA xi (posA ts u : Nat) = none)
    (h : k (.int 1) (upd H a.P (parserO a (pl + 1) lim 0 nn (aT (posA ts u : Nat))))) : Cal g 4 false 697 [.ref a.P] H k x := by
  have yo := y.o
  have n5 : a.P ≠ a.tl := ne_kind hP hT rfl
  have n7 : a.P ≠ a.S := ne_kind hP yo rfl
  have n8 : a.P ≠ a.O := ne_kind hP hO rfl
  have n9 : a.P ≠ a.pr := ne_kind hP hpp rfl
  have n10 : a.P ≠ a.inf := ne_kind hP hI rfl
  have n11 : a.P ≠ a.po := ne_kind hP hq rfl
  have y1 : Sy (upd H a.P (parserO a (pl + 1) lim pri nn term)) a.S a.dS a.tx a.an a.fn a.fnn ts fs := y.keepL ((KeepL.refl [a.P] _).upd (by simp)) (by simp; exact Ne.symm n7) (by simp; exact ne_kind y.t hP rfl) (by simp; exact ne_kind y.a hP rfl) (by simp; exact ne_kind y.f hP rfl) (by simp; exact ne_kind y.n hP rfl)
  rw [← upd_upd H a.P (parserO a (pl + 1) lim pri nn term)] at h
  rcases hkd with rfl | rfl
  all_goals
    refine' Cal.enter (as' := [.ref a.P]) ["self"] ?F ?B ?N ?_
    k_extra "enter"
    repeat' k_extra "w39a"
    refine Cal.at (atom_old y1 hm hzt ?_) (Ok.leB (by assumption) rfl)
    repeat' k_extra "w39a"
    refine Cal.at (named_plain (pl := pl + 1) (by k_extra "thing") (by k_extra "thing") (by lia) (by lia) ht' hk hu (by k_extra "thing") (by k_extra "thing") (by k_extra "thing") (by k_extra "thing") e1 e2 ?_) (Ok.leB (by assumption) rfl)
    repeat' k_extra "w39a"
    exact h
theorem operator_name_name (y : Sy H a.S a.dS a.tx a.an a.fn a.fnn ts fs) (hm : u ∈ ts) (hzt : ts.length ≤ 100000) (hP : H a.P = some (parserO a pl lim pri nn term)) (h : k (.int (posA ts u : Nat)) H) : Cal g 2 false 737 [.ref a.P, tk (Str.ofString "name") u p] H k x := by
  have yo := y.o
  refine' Cal.enter (as' := [.ref a.P, tk (Str.ofString "name") u p]) ["self", "token"] ?F ?B ?N ?_
  k_extra "enter"
  repeat' k_extra "w39a"
  refine Cal.at (atom_old y hm hzt ?_) (Ok.leB (by assumption) rfl)
  repeat' k_extra "w39a"
  exact h
theorem shift_none (hP : H a.P = some (parserO a pl lim pri nn term)) (hO : H a.O = some (opO a.dO a.S a.pr a.inf a.po)) (hI : H a.inf = some (.dictI xi)) (e : getA xi i = none) (h : k (.bool false) H) : Cal g 3 false 758 [.ref a.P, .int i] H k x := by
  refine' Cal.enter (as' := [.ref a.P, .int i]) ["self", "a"] ?F ?B ?N ?_
  k_extra "enter"
  repeat' k_extra "w39a"
  refine Cal.at (infix_spec hO hI (by rw [e, Option.getD_none]) ?_) (Ok.leB (by assumption) rfl)
  repeat' k_extra "w39a"
  refine Cal.at (admits_none ?_) (Ok.leB (by assumption) rfl)
  repeat' k_extra "w39a"
  exact h
theorem operator_ab (hP : H a.P = some (parserO a pl lim pri nn term)) (hT : H a.tl = some (.list toks)) (hF : H a.fr = some (.list [])) (h0 : 0 ≤ pl) (hz0 : pl < 2 ^ 39) (ht : toks[pl.toNat]? = some (tk (Str.ofString "name") u p)) (y : Sy H a.S a.dS a.tx a.an a.fn a.fnn ts fs) (hzt : ts.length ≤ 100000) (hm : u ∈ ts)
    (hO : H a.O = some (opO a.dO a.S a.pr a.inf a.po)) (hI : H a.inf = some (.dictI xi)) (hq : H a.po = some (.dictI [])) (e2 : getA xi (posA ts u : Nat) = none) (h : k (.int 2) H) : Cal g 5 false 744 [.ref a.P] H k x := by
  have hz2 : ([] : List AV).length < 2 ^ 60 := by simp
  refine' Cal.enter (as' := [.ref a.P]) ["self"] ?F ?B ?N ?_
  k_extra "enter"
  repeat' k_extra "w39a"
  refine Cal.at (operator_name_name y hm hzt hP ?_) (Ok.leB (by assumption) rfl)
  repeat' k_extra "w39a"
  refine Cal.at (shift_none hP hO hI e2 ?_) (Ok.leB (by assumption) rfl)
  repeat' k_extra "w39a"
  refine Cal.at (apply_no hP hO hq ?_) (Ok.leB (by assumption) rfl)
  repeat' k_extra "w39a"
  exact h
end
end
end

section
section
variable {g : Gd Mine.hp.heap_1}
section
variable {H : AH} {a : PA} {toks : List AV} {pl lim pri nn : Int} {term tok : AV} {u kd u' kd' : Str} {p p' i : Int} {frs : List AV} {k x : AV → AH → Prop}
  {xi xp : List (Int × AV)} {ts : List Str} {fs : List (List Int)} {f d0 il : Addr} {l0 nm0 fc : Int} {left : AV}
noncomputable def KxP (H : AH) (a : PA) (kd : Str) (p : Int) (ctx : Option Addr) (fs : List (Str × AV)) (H₀ : AH) : Prop :=
  ctx = none ∧ fs = [(Str.ofString "kind", .str kd), (Str.ofString "at", .int p), (Str.ofString "row", .int 0), (Str.ofString "column", .int 0)] ∧ KeepL (own a) H H₀
theorem KxP.fl {H H1 H' : AH} {f df : Addr} (kp : KeepL (own a) H H1) (h1 : H1 f = none) (h3 : ∀ b ob, H1 b = some ob → H' b = some ob) (h4 : H' f = some (faultO df none none kd p 0 0)) : Fl 51 (KxP H a kd p) (.ref f) H' :=
  ⟨f, df, none, none, _, H1, rfl, h4, trivial, h1, h3, rfl, rfl, kp⟩
theorem closes_no (h1 : kd ≠ Str.ofString "end") (h2 : kd ≠ Str.ofString "punct") (h : k (.bool false) H) : Cal g 1 false 606 [tk kd u p] H k x := by
  refine' Cal.enter (as' := [tk kd u p]) ["token"] ?F ?B ?N ?_
  k_extra "enter"
  repeat' k_extra "step"
  all_goals k_extra "same"
theorem closes_sq (h : k (.bool true) H) : Cal g 1 false 606 [tk (Str.ofString "punct") (Str.ofString "]") p] H k x := by
  refine' Cal.enter (as' := [tk (Str.ofString "punct") (Str.ofString "]") p]) ["token"] ?F ?B ?N ?_
  k_extra "enter"
  repeat' k_extra "step"
  refine Op2.inK (ss := [Str.ofString ")", Str.ofString "]", Str.ofString "}"]) (by k_extra "part") (fun h => .cons (.str _ _) (.cons (.str _ _) (.cons (.str _ _) .nil))) ?_
  repeat' k_extra "step"
  exact h
theorem misplaced_ab (hP : H a.P = some (parserO a pl lim pri nn term)) (y : Sy H a.S a.dS a.tx a.an a.fn a.fnn ts fs) (hzt : ts.length ≤ 100000) (hm : u ∈ ts)
    (hO : H a.O = some (opO a.dO a.S a.pr a.inf a.po)) (hI : H a.inf = some (.dictI xi)) (hq : H a.po = some (.dictI [])) (e2 : getA xi (posA ts u : Nat) = none)
    (h : ∀ f df H', H f = none → H df = none → (∀ b ob, H b = some ob → H' b = some ob) → H' f = some (faultO df none none kd p 0 0) → k (.ref f) H') : Cal g 4 false 669 [.ref a.P, tk (Str.ofString "name") u p, .str kd] H k x := by
  refine' Cal.enter (as' := [.ref a.P, tk (Str.ofString "name") u p, .str kd]) ["self", "token", "otherwise"] ?F ?B ?N ?_
  k_extra "enter"
  repeat' k_extra "step"
  refine Cal.at (closes_no (by decide) (by decide) ?_) (Ok.leB (by assumption) rfl)
  repeat' k_extra "step"
  refine Cal.at (operator_name_name y hm hzt hP ?_) (Ok.leB (by assumption) rfl)
  repeat' k_extra "step"
  refine Cal.at (infix_spec hO hI (by rw [e2, Option.getD_none]) ?_) (Ok.leB (by assumption) rfl)
  repeat' (first | with_reducible refine Op2.isNotN ?_ | k_extra "step")
  refine Cal.at (postfix_spec hO hq rfl ?_) (Ok.leB (by assumption) rfl)
  repeat' (first | with_reducible refine Op2.isNotN ?_ | k_extra "step")
  refine Cal.at (pfault_spec ?_) (Ok.leB (by assumption) rfl)
  intro f df H' h1 h2 h3 h4
  repeat' k_extra "step"
  exact h f df H' h1 h2 h3 h4
theorem misplaced_sq (hP : H a.P = some (parserO a pl lim pri nn term))
    (h : ∀ f df H', H f = none → H df = none → (∀ b ob, H b = some ob → H' b = some ob) → H' f = some (faultO df none none (Str.ofString "unbalanced") p 0 0) → k (.ref f) H') : Cal g 4 false 669 [.ref a.P, tk (Str.ofString "punct") (Str.ofString "]") p, .str kd] H k x := by
  refine' Cal.enter (as' := [.ref a.P, tk (Str.ofString "punct") (Str.ofString "]") p, .str kd]) ["self", "token", "otherwise"] ?F ?B ?N ?_
  k_extra "enter"
  repeat' k_extra "step"
  refine Cal.at (closes_sq ?_) (Ok.leB (by assumption) rfl)
  repeat' k_extra "step"
  refine Cal.at (pfault_spec ?_) (Ok.leB (by assumption) rfl)
  intro f df H' h1 h2 h3 h4
  repeat' k_extra "step"
  exact h f df H' h1 h2 h3 h4
theorem w40a : True := by
  (k_with "w40a" =>
    first
      | (with_reducible show OpL ..
         first
          | k_extra "call"
          | refine Cal.at (is_punct_spec ?_) (Ok.leB (by assumption) rfl)
          | refine Cal.at (operator_name_other (.inl rfl) (by decide) (by decide) ?_) (Ok.leB (by assumption) rfl)
          | refine Cal.at (peek_spec (by k_extra "thing") (by k_extra "thing") (by lia) (by lia) (by assumption) ?_) (Ok.leB (by assumption) rfl)
          | refine Cal.at (take_spec (by k_extra "thing") (by k_extra "thing") (by lia) (by lia) (by assumption) ?_) (Ok.leB (by assumption) rfl))
      | k_extra "step")
  trivial
theorem close_bad (hP : H a.P = some (parserO a pl lim pri nn term)) (hF : H a.fr = some (.list (frs ++ [.ref f]))) (hz : frs.length ≤ 100000) (hf : H f = some (frameO d0 (Str.ofString "args") l0 fc nm0 0 left il))
    (h : ∀ f df H', H f = none → (∀ b ob, H b = some ob → H' b = some ob) → H' f = some (faultO df none none (Str.ofString "unbalanced") p 0 0) → ClC 51 (x (.ref f)) (.ref f) H') : Cal g 5 true 779 [.ref a.P, tk (Str.ofString "punct") (Str.ofString "]") p] H k x := by
  refine' Cal.enterY (as' := [.ref a.P, tk (Str.ofString "punct") (Str.ofString "]") p]) ["self", "token"] ?F ?B ?N ?_
  k_extra "enter"
  repeat' k_extra "w40a"
  refine Ex.raise faultK ?_
  repeat' k_extra "w40a"
  refine Cal.at (misplaced_sq hP ?_) (Ok.leB (by assumption) rfl)
  intro f df H' h1 h2 h3 h4
  have w := h f df H' h1 h3 h4
  obtain ⟨kx, w1, w2⟩ := w
  exact ⟨⟨kx, w1⟩, RaiseNew.plain (Ok.hand (by assumption) rfl) ⟨51, kx, w1, w2⟩⟩
theorem operator_bad (hP : H a.P = some (parserO a pl lim pri nn term)) (hT : H a.tl = some (.list toks)) (hF : H a.fr = some (.list (frs ++ [.ref f]))) (hz : frs.length ≤ 100000) (hf : H f = some (frameO d0 (Str.ofString "args") l0 fc nm0 0 left il)) (h0 : 0 ≤ pl) (hz0 : pl < 2 ^ 39) (ht : toks[pl.toNat]? = some (tk (Str.ofString "punct") (Str.ofString "]") p))
    (h : ∀ f df H', H f = none → (∀ b ob, H b = some ob → H' b = some ob) → H' f = some (faultO df none none (Str.ofString "unbalanced") p 0 0) → ClC 51 (x (.ref f)) (.ref f) H') : Cal g 6 true 744 [.ref a.P] H k x := by
  have hz2 : (frs ++ [AV.ref f]).length < 2 ^ 60 := by simp; lia
  have hem : (frs ++ [AV.ref f]).isEmpty = false := by simp
  refine' Cal.enterY (as' := [.ref a.P]) ["self"] ?F ?B ?N ?_
  k_extra "enter"
  repeat' k_extra "w40a"
  rw [hem]
  refine ifF Bool.false_ne_true ?_
  repeat' k_extra "w40a"
  refine Cal.at (close_bad hP hF hz hf ?_) (Ok.leB (by assumption) rfl)
  intro f df H' h1 h3 h4
  obtain ⟨kx, w1, w2⟩ := h f df H' h1 h3 h4
  exact ⟨kx, w1, fun H'' w => ⟨51, kx, w, w2⟩⟩
theorem operand_bad (hP : H a.P = some (parserO a pl lim pri nn term)) (hT : H a.tl = some (.list toks)) (h0 : 0 ≤ pl) (hz0 : pl < 2 ^ 39) (ht : toks[pl.toNat]? = some (tk (Str.ofString "punct") (Str.ofString ")") p))
    (h : ∀ f df H', H f = none → (∀ b ob, upd H a.P (parserO a (pl + 1) lim pri nn term) b = some ob → H' b = some ob) → H' f = some (faultO df none none (Str.ofString "unexpected_token") p 0 0) → ClC 51 (x (.ref f)) (.ref f) H') : Cal g 6 true 697 [.ref a.P] H k x := by
  have n5 : a.P ≠ a.tl := ne_kind hP hT rfl
  refine' Cal.enterY (as' := [.ref a.P]) ["self"] ?F ?B ?N ?_
  k_extra "enter"
  repeat' k_extra "w40a"
  refine Ex.raise faultK ?_
  repeat' k_extra "w40a"
  refine Cal.at (pfault_spec ?_) (Ok.leB (by assumption) rfl)
  intro f df H' h1 h2 h3 h4
  have w := h f df H' (upd_none.mp h1).2 h3 h4
  obtain ⟨kx, w1, w2⟩ := w
  exact ⟨⟨kx, w1⟩, RaiseNew.plain (Ok.hand (by assumption) rfl) ⟨51, kx, w1, w2⟩⟩
end
end
end

section
section
variable {g : Gd Mine.hp.heap_1}
theorem ClC.cl2 {C : Addr} {P : AH → Prop} {v : AV} {H : AH} (z : ClC C P v H) : Cl (Cl P v) v H := let ⟨kx, h1, h2⟩ := z; ⟨C, kx, h1, fun H' w => ⟨C, kx, w, h2⟩⟩
section
variable {H : AH} {a : PA} {toks : List AV} {pl lim pri nn : Int} {term tok : AV} {u kd u' kd' : Str} {p p' i : Int} {frs : List AV} {k x : AV → AH → Prop}
noncomputable def RunX {KF : Params → Frag} (g : Gd KF) (a : PA) (K : AH → Prop) (xx : AV → AH → Prop) : Nat → Int → AH → Prop
  | 0, _, _ => False
  | n + 1, st, H => (∃ pl lim pri nn term, H a.P = some (parserO a pl lim pri nn term)) ∧ ((st = 2 ∧ K H) ∨ (st = 0 ∧ Cal g 6 true 697 [.ref a.P] H (fun v H' => ∃ i, v = .int i ∧ RunX g a K xx n i H') xx) ∨ (st = 1 ∧ Cal g 6 true 744 [.ref a.P] H (fun v H' => ∃ i, v = .int i ∧ RunX g a K xx n i H') xx))
theorem RunX.mono {K K' : AH → Prop} {xx xx' : AV → AH → Prop} (hK : ∀ H, K H → K' H) (hx : ∀ v H, xx v H → xx' v H) : ∀ {n : Nat} {st : Int} {H : AH}, RunX g a K xx n st H → RunX g a K' xx' n st H
  | 0, _, _, h => h.elim
  | n + 1, st, H, h => by
    obtain ⟨hP, h⟩ := h
    refine ⟨hP, ?_⟩
    rcases h with ⟨e, h⟩ | ⟨h1, h2⟩ | ⟨h1, h2⟩
    · exact .inl ⟨e, hK _ h⟩
    · exact .inr (.inl ⟨h1, h2.mono (fun v H' ⟨i, e, r⟩ => ⟨i, e, RunX.mono hK hx r⟩) hx (Nat.le_refl _) id⟩)
    · exact .inr (.inr ⟨h1, h2.mono (fun v H' ⟨i, e, r⟩ => ⟨i, e, RunX.mono hK hx r⟩) hx (Nat.le_refl _) id⟩)
theorem ClC.up {C : Addr} {P : AH → Prop} {v : AV} {H : AH} (z : ClC C P v H) : ClC C (Cl P v) v H := let ⟨kx, h1, h2⟩ := z; ⟨kx, h1, fun H' w => ⟨C, kx, w, h2⟩⟩
theorem parseX_spec {n : Nat} {most : Int} (hP : H a.P = some (parserO a pl lim pri nn term)) (R : RunX g a (fun H => ∃ pl lim pri nn term, notBi term = true ∧ H a.P = some (parserO a pl lim pri nn term) ∧ k (.tup [term, .int pri]) H) (fun v H' => ClC 51 (x v) v H') n 0 (upd H a.P (parserO a pl most pri nn term))) : Cal g 7 true 676 [.ref a.P, .int most] H k x := by
  refine' Cal.enterY (as' := [.ref a.P, .int most]) ["self", "most"] ?F ?B ?N ?_
  k_extra "enter"
  repeat' (first | with_reducible refine Ex.whilX ?_ | k_extra "step")
  refine (?key : ∀ (n : Nat) (st : Int) (H : AH) (ρ : Loc), RunX g a (fun H => ∃ pl lim pri nn term, notBi term = true ∧ H a.P = some (parserO a pl lim pri nn term) ∧ k (.tup [term, .int pri]) H) (fun v H' => ClC 51 (x v) v H') n st H → ρ (Str.ofString "self") = some (.ref a.P) → ρ (Str.ofString "state") = some (.int st) → LpX g _ _ _ ρ H _ _) n 0 _ _ R (by k_extra "name") (by k_extra "name")
  intro n
  induction n with
  | zero => intro st H ρ h; exact h.elim
  | succ n ih =>
    intro st H ρ h hs ht
    obtain ⟨⟨_, _, _, _, _, hP'⟩, h⟩ := h
    rcases h with ⟨rfl, pl, lim, pri, nn, term, hb, e1, e2⟩ | ⟨rfl, h2⟩ | ⟨rfl, h2⟩
    · refine LpX.step rfl ?_
      repeat' k_extra "step"
      exact e2
    · refine LpX.step rfl ?_
      repeat' k_extra "step"
      refine Cal.at (Cal.mono h2 (fun d H' hk => ?_) (fun v H' z => ?_) (Nat.le_refl _) id) (Ok.leB (by assumption) rfl)
      · obtain ⟨i, rfl, hk⟩ := hk
        repeat' k_extra "step"
        exact ih i H' _ hk (by k_extra "name") (by k_extra "name")
      · exact z.cl2
    · refine LpX.step rfl ?_
      repeat' k_extra "step"
      refine Cal.at (Cal.mono h2 (fun d H' hk => ?_) (fun v H' z => ?_) (Nat.le_refl _) id) (Ok.leB (by assumption) rfl)
      · obtain ⟨i, rfl, hk⟩ := hk
        repeat' k_extra "step"
        exact ih i H' _ hk (by k_extra "name") (by k_extra "name")
      · exact z.cl2
theorem w41a : True := by
  (k_with "w41a" =>
    first
      | (with_reducible show OpL ..
         first
          | k_extra "call"
          | refine Cal.at (peek_spec (by k_extra "thing") (by k_extra "thing") (by lia) (by lia) (by assumption) ?_) (Ok.leB (by assumption) rfl))
      | k_extra "step")
  trivial
theorem clauseX_spec {n : Nat} (hP : H a.P = some (parserO a pl 1200 pri nn term))
    (R : RunX g a (fun H => ∃ pl lim pri nn term toks p, notBi term = true ∧ H a.P = some (parserO a pl lim pri nn term) ∧ H a.tl = some (.list toks) ∧ 0 ≤ pl ∧ pl < 2 ^ 39 ∧ toks[pl.toNat]? = some (tk (Str.ofString "end") (Str.ofString ".") p) ∧ k term H) (fun v H' => ClC 51 (x v) v H') n 0 H) : Cal g 8 true 634 [.ref a.P] H k x := by
  refine' Cal.enterY (as' := [.ref a.P]) ["self"] ?F ?B ?N ?_
  k_extra "enter"
  repeat' k_extra "w41a"
  refine Cal.at (parseX_spec (n := n) hP ?_) (Ok.leB (by assumption) rfl)
  rw [upd_self hP]
  refine RunX.mono (fun H' z => ?_) (fun v H' z => z.up) R
  obtain ⟨pl, lim, pri, nn, term, toks, p, hb, e1, e2, e3, e4, e5, e6⟩ := z
  refine ⟨pl, lim, pri, nn, term, hb, e1, ?_⟩
  repeat' k_extra "w41a"
  exact e6
theorem clause_ab {n : Nat} {ts : List Str} {fs : List (List Int)} {xi : List (Int × AV)} (hP : H a.P = some (parserO a pl 1200 pri nn term)) (hm : u ∈ ts) (hzt : ts.length ≤ 100000) (e2 : getA xi (posA ts u : Nat) = none)
    (R : RunX g a (fun H => ∃ pl lim pri nn term toks, notBi term = true ∧ H a.P = some (parserO a pl lim pri nn term) ∧ H a.tl = some (.list toks) ∧ 0 ≤ pl ∧ pl < 2 ^ 39 ∧ toks[pl.toNat]? = some (tk (Str.ofString "name") u p) ∧ Sy H a.S a.dS a.tx a.an a.fn a.fnn ts fs ∧ H a.O = some (opO a.dO a.S a.pr a.inf a.po) ∧ H a.inf = some (.dictI xi) ∧ H a.po = some (.dictI []) ∧
      ∀ f df H', H f = none → (∀ b ob, H b = some ob → H' b = some ob) → H' f = some (faultO df none none (Str.ofString "end_expected") p 0 0) → ClC 51 (x (.ref f)) (.ref f) H') (fun v H' => ClC 51 (x v) v H') n 0 H) : Cal g 8 true 634 [.ref a.P] H k x := by
  refine' Cal.enterY (as' := [.ref a.P]) ["self"] ?F ?B ?N ?_
  k_extra "enter"
  repeat' k_extra "w41a"
  refine Cal.at (parseX_spec (n := n) hP ?_) (Ok.leB (by assumption) rfl)
  rw [upd_self hP]
  refine RunX.mono (fun H' z => ?_) (fun v H' z => z.up) R
  obtain ⟨pl, lim, pri, nn, term, toks, hb, e1, e2', e3, e4, e5, y, hO, hI, hq, fin⟩ := z
  refine ⟨pl, lim, pri, nn, term, hb, e1, ?_⟩
  repeat' k_extra "w41a"
  refine Ex.raise faultK ?_
  repeat' k_extra "w41a"
  refine Cal.at (misplaced_ab e1 y hzt hm hO hI hq e2 ?_) (Ok.leB (by assumption) rfl)
  intro f df H'' h1 h2 h3 h4
  obtain ⟨kx, w1, w2⟩ := fin f df H'' h1 h3 h4
  exact ⟨⟨kx, w1⟩, RaiseNew.plain (Ok.hand (by assumption) rfl) ⟨51, kx, w1, w2⟩⟩
end
end
end

section
section
variable {g : Gd Mine.hp.heap_1}
structure PT (H : AH) (a : PA) (ts : List Str) (fs : List (List Int)) (xp xi : List (Int × AV)) (toks : List AV) : Prop where
  t : H a.tl = some (.list toks)
  y : Sy H a.S a.dS a.tx a.an a.fn a.fnn ts fs
  op : H a.O = some (opO a.dO a.S a.pr a.inf a.po)
  hp : H a.pr = some (.dictI xp)
  hi : H a.inf = some (.dictI xi)
  hq : H a.po = some (.dictI [])
structure PM (a : PA) : Prop where
  n1 : a.fr ≠ a.tl
  n2 : a.fr ≠ a.nm
  n3 : a.fr ≠ a.tx
  n4 : a.fr ≠ a.fn
  n5 : a.nm ≠ a.tl
  n6 : a.nm ≠ a.tx
  n7 : a.nm ≠ a.fn
  n10 : a.nu ≠ a.an
  n11 : a.co ≠ a.inf
  n12 : a.co ≠ a.po
  n13 : a.co ≠ a.pr
structure PO (H : AH) (a : PA) (pl lim pri nn : Int) (term : AV) (frs : List AV) (nums : List (Str × AV)) (counts : List (Int × AV)) (names : List AV) : Prop where
  o : H a.P = some (parserO a pl lim pri nn term)
  f : H a.fr = some (.list frs)
  nu : H a.nu = some (.dictS nums)
  co : H a.co = some (.dictI counts)
  nm : H a.nm = some (.list names)
section
variable {H H' H0 : AH} {a : PA} {toks frs frs' : List AV} {pl lim pri nn pl' lim' pri' nn' : Int} {term term' : AV} {xi xp : List (Int × AV)} {ts : List Str} {fs : List (List Int)} {nums nums' : List (Str × AV)} {counts counts' : List (Int × AV)} {names names' : List AV}
theorem PT.keep (T : PT H a ts fs xp xi toks) (M : PM a) (O : PO H a pl lim pri nn term frs nums counts names) (kp : KeepL (own a) H H') : PT H' a ts fs xp xi toks := by
  obtain ⟨t1, ⟨y1, y2, y3, y4, y5, y6⟩, t3, t4, t5, t6⟩ := T
  obtain ⟨n1, n2, n3, n4, n5, n6, n7, n10, n11, n12, n13⟩ := M
  obtain ⟨o1, o2, o3, o4, o5⟩ := O
  exact ⟨kp _ _ (by k_extra "nes") t1, ⟨kp _ _ (by k_extra "nes") y1, kp _ _ (by k_extra "nes") y2, kp _ _ (by k_extra "nes") y3, kp _ _ (by k_extra "nes") y4, kp _ _ (by k_extra "nes") y5, y6⟩, kp _ _ (by k_extra "nes") t3, kp _ _ (by k_extra "nes") t4, kp _ _ (by k_extra "nes") t5, kp _ _ (by k_extra "nes") t6⟩
theorem PO.stepP (O : PO H a pl lim pri nn term frs nums counts names) : PO (upd H a.P (parserO a pl' lim' pri' nn' term')) a pl' lim' pri' nn' term' frs nums counts names := by
  obtain ⟨o1, o2, o3, o4, o5⟩ := O
  exact ⟨upd_same _ _ _, by k_extra "thing", by k_extra "thing", by k_extra "thing", by k_extra "thing"⟩
theorem PO.stepF (O : PO H a pl lim pri nn term frs nums counts names) (M : PM a) (kp : KeepL [a.P, a.fr] H H') (e1 : H' a.P = some (parserO a pl' lim' pri' nn' term')) (e2 : H' a.fr = some (.list frs')) : PO H' a pl' lim' pri' nn' term' frs' nums counts names := by
  obtain ⟨o1, o2, o3, o4, o5⟩ := O
  have n2 := M.n2
  exact ⟨e1, e2, kp _ _ (by k_extra "nes") o3, kp _ _ (by k_extra "nes") o4, kp _ _ (by k_extra "nes") o5⟩
theorem PO.stepV (O : PO H a pl lim pri nn term frs nums counts names) (M : PM a) (kp : KeepL [a.P, a.nu, a.co, a.nm] H H') (e1 : H' a.P = some (parserO a pl' lim' pri' nn' term')) (e2 : H' a.nu = some (.dictS nums')) (e3 : H' a.co = some (.dictI counts')) (e4 : H' a.nm = some (.list names')) : PO H' a pl' lim' pri' nn' term' frs nums' counts' names' := by
  obtain ⟨o1, o2, o3, o4, o5⟩ := O
  have n2 := M.n2
  exact ⟨e1, kp _ _ (by k_extra "nes") o2, e2, e3, e4⟩
theorem KeepL.ownP {o : AObj} : KeepL (own a) H (Mine.upd H a.P o) := (KeepL.refl _ _).upd (.head _)
theorem KeepL.thru {l : List Addr} (x : KeepL (own a) H0 H) (y : KeepL l H H') (h : ∀ b ∈ l, b ∈ own a ∨ H0 b = none) : KeepL (own a) H0 H' := fun b o nb e => y b o (fun hb => (h b hb).elim nb fun z => by rw [z] at e; cases e) (x b o nb e)
structure PEnd (H H' : AH) (a : PA) (term : AV) : Prop where
  kp : KeepL (own a) H H'
  e : ∃ (pl lim pri nn : Int) (ns : List (Str × Int)) (counts : List (Int × AV)) (cn : Int → Int), H' a.P = some (parserO a pl lim pri nn term) ∧ H' a.nm = some (.list (ns.map nameAV)) ∧ H' a.co = some (.dictI counts) ∧ (∀ q ∈ ns, getA counts q.2 = some (.int (cn q.2)) ∧ 0 < q.1.length) ∧ ns.length ≤ 10000
end
end
end

section
section
variable {g : Gd Mine.hp.heap_1}
section
variable {H : AH} {a : PA} {toks : List AV} {pl lim pri nn : Int} {term tok : AV} {u kd : Str} {p : Int} {frs : List AV} {k x : AV → AH → Prop}
  {xi xp : List (Int × AV)} {ts : List Str} {fs : List (List Int)} {items : List AV} {f d0 il : Addr} {l0 nm0 fc : Int} {left : AV}
section
variable {K : AH → Prop} {xx : AV → AH → Prop} {n m : Nat} {b : Bool}
theorem RunX.opd (hP : H a.P = some (parserO a pl lim pri nn term)) (hm : m ≤ 6) (h : Cal g m b 697 [.ref a.P] H (fun v H' => ∃ i, v = .int i ∧ RunX g a K xx n i H') xx) : RunX g a K xx (n + 1) 0 H :=
  ⟨⟨_, _, _, _, _, hP⟩, .inr (.inl ⟨rfl, h.mono (fun _ _ z => z) (fun _ _ z => z) hm (fun _ => rfl)⟩)⟩
theorem RunX.opr (hP : H a.P = some (parserO a pl lim pri nn term)) (hm : m ≤ 6) (h : Cal g m b 744 [.ref a.P] H (fun v H' => ∃ i, v = .int i ∧ RunX g a K xx n i H') xx) : RunX g a K xx (n + 1) 1 H :=
  ⟨⟨_, _, _, _, _, hP⟩, .inr (.inr ⟨rfl, h.mono (fun _ _ z => z) (fun _ _ z => z) hm (fun _ => rfl)⟩)⟩
theorem RunX.fin (hP : H a.P = some (parserO a pl lim pri nn term)) (h : K H) : RunX g a K xx (n + 1) 2 H := ⟨⟨_, _, _, _, _, hP⟩, .inl ⟨rfl, h⟩⟩
end
theorem w43a : True := by
  (k_with "w43a" =>
    first
      | (with_reducible show OpL ..
         first
          | k_extra "call"
          | refine Cal.at (is_punct_spec ?_) (Ok.leB (by assumption) rfl)
          | refine Cal.at (peek_spec (by k_extra "thing") (by k_extra "thing") (by lia) (by lia) (by assumption) ?_) (Ok.leB (by assumption) rfl)
          | refine Cal.at (take_spec (by k_extra "thing") (by k_extra "thing") (by lia) (by lia) (by assumption) ?_) (Ok.leB (by assumption) rfl))
      | k_extra "step")
  trivial
theorem operand_nameQ {u' : Str} {p' : Int} (hP : H a.P = some (parserO a pl lim pri nn term)) (hT : H a.tl = some (.list toks)) (hF : H a.fr = some (.list frs)) (hz : frs.length ≤ 100000) (y : Sy H a.S a.dS a.tx a.an a.fn a.fnn ts fs) (hzt : ts.length ≤ 100000) (hm : u ∈ ts) (h0 : 0 ≤ pl) (hz0 : pl < 2 ^ 39) (ht : toks[pl.toNat]? = some (tk (Str.ofString "name") u p)) (ht' : toks[(pl + 1).toNat]? = some (tk (Str.ofString "open_ct") u' p'))
    (h : ∀ f d il H', H f = none → H il = none → KeepL [a.P, a.fr] H H' → H' a.P = some (parserO a (pl + 1 + 1) 999 pri nn term) → H' a.fr = some (.list (frs ++ [.ref f])) → H' f = some (frameO d (Str.ofString "args") lim (-1) (posA ts u : Nat) 0 .none il) → H' il = some (.list []) → k (.int 0) H') : Cal g 5 false 697 [.ref a.P] H k x := by
  have yo := y.o
  have n5 : a.P ≠ a.tl := ne_kind hP hT rfl
  have n6 : a.P ≠ a.fr := ne_kind hP hF rfl
  have n7 : a.P ≠ a.S := ne_kind hP yo rfl
  have y1 : Sy (upd H a.P (parserO a (pl + 1) lim pri nn term)) a.S a.dS a.tx a.an a.fn a.fnn ts fs := y.keepL ((KeepL.refl [a.P] _).upd (by simp)) (by simp; exact Ne.symm n7) (by simp; exact ne_kind y.t hP rfl) (by simp; exact ne_kind y.a hP rfl) (by simp; exact ne_kind y.f hP rfl) (by simp; exact ne_kind y.n hP rfl)
  refine' Cal.enter (as' := [.ref a.P]) ["self"] ?F ?B ?N ?_
  k_extra "enter"
  repeat' k_extra "w43a"
  refine Cal.at (atom_old y1 hm hzt ?_) (Ok.leB (by assumption) rfl)
  repeat' k_extra "w43a"
  refine Cal.at (named_spec (pl := pl + 1) (by k_extra "thing") (by k_extra "thing") (by k_extra "thing") hz (by lia) (by lia) ht' ?_) (Ok.leB (by assumption) rfl)
  intro f d il H' hf hil kp e1 e2 e3 e4
  repeat' k_extra "w43a"
  exact h f d il H' (upd_none.mp hf).2 (upd_none.mp hil).2 (((KeepL.refl _ _).upd (by simp)).trans kp) e1 e2 e3 e4
theorem close_argsQ (hb : notBi term = true) (hP : H a.P = some (parserO a pl lim pri nn term)) (hT : H a.tl = some (.list toks)) (hF : H a.fr = some (.list (frs ++ [.ref f]))) (hz : frs.length ≤ 100000) (hf : H f = some (frameO d0 (Str.ofString "args") l0 fc nm0 0 left il)) (hi : H il = some (.list items)) (hzi : items.length ≤ 100000) (y : Sy H a.S a.dS a.tx a.an a.fn a.fnn ts fs) (hzf : fs.length ≤ 100000) (hm : [nm0, ((items.length + 1 : Nat) : Int)] ∈ fs) (h0 : 0 ≤ pl) (hz0 : pl < 2 ^ 39) (ht : toks[pl.toNat]? = some tok)
    (h : ∀ H', KeepL [a.P, a.fr] H H' → H' a.P = some (parserO a (pl + 1) l0 0 nn (.tup [.str (Str.ofString "s"), .int (posA fs [nm0, ((items.length + 1 : Nat) : Int)] : Nat), .tup (items ++ [term])])) → H' a.fr = some (.list frs) → k (.int 1) H') : Cal g 4 true 779 [.ref a.P, tk (Str.ofString "punct") (Str.ofString ")") p] H k x := by
  refine' Cal.enter (as' := [.ref a.P, tk (Str.ofString "punct") (Str.ofString ")") p]) ["self", "token"] ?F ?B ?N ?_
  k_extra "enter"
  repeat' k_extra "w43a"
  intro l1 hl1
  refine Op2.addL (us := items) (ws := [term]) (by k_extra "thing") (by k_extra "thing") (by simp; lia) ?_
  intro l2 hl2
  have q2 := (upd_none.mp hl2).2
  have kp0 : ∀ l, KeepL l H (upd (upd H l1 (.list [term])) l2 (.list (items ++ [term]))) := fun l => ((KeepL.refl l H).fresh hl1).fresh q2
  have y' := y.keepL (kp0 []) (by simp) (by simp) (by simp) (by simp) (by simp)
  have hP' := kp0 [] _ _ (by simp) hP
  have hT' := kp0 [] _ _ (by simp) hT
  have hF' := kp0 [] _ _ (by simp) hF
  have hf' := kp0 [] _ _ (by simp) hf
  have hl' : upd (upd H l1 (.list [term])) l2 (.list (items ++ [term])) l2 = some (.list (items ++ [term])) := upd_same _ _ _
  have kp0 := kp0 [a.P, a.fr]
  revert y' hP' hT' hF' hf' hl' kp0
  generalize upd (upd H l1 (.list [term])) l2 (.list (items ++ [term])) = H1
  intro y' hP' hT' hF' hf' hl' kp0
  have yo := y'.o
  have hll : (items ++ [term]).length = items.length + 1 := by simp
  repeat' k_extra "w43a"
  rw [hll]
  refine Cal.at (functor_old y' hm hzf ?_) (Ok.leB (by assumption) rfl)
  repeat' k_extra "w43a"
  refine Cal.at (struct_spec ?_) (Ok.leB (by assumption) rfl)
  repeat' k_extra "w43a"
  refine Cal.at (closed_spec (f := f) (by k_extra "thing") (by k_extra "thing") (by k_extra "thing") hz (by k_extra "thing") h0 hz0 ht ?_) (Ok.leB (by assumption) rfl)
  intro H' kp e1 e2
  repeat' k_extra "w43a"
  exact h H' (kp0.trans kp) e1 e2
end
end
end

section
section
variable {g : Gd Mine.hp.heap_1}
section
variable {H : AH} {a : PA} {u v kd : Str} {p0 p1 p2 p3 p4 p5 p6 : Int} {k x : AV → AH → Prop} {xi xp : List (Int × AV)} {ts : List Str} {fs : List (List Int)} {u' v' : Str}
structure PlainA (ts : List Str) (xp xi : List (Int × AV)) (u : Str) : Prop where
  m : u ∈ ts
  h : u ≠ Str.ofString "-"
  p : getA xp (posA ts u : Nat) = none
  i : getA xi (posA ts u : Nat) = none
theorem row_plain (hkd : kd = Str.ofString "name" ∨ kd = Str.ofString "qname") (U : PlainA ts xp xi u) (hz : ts.length ≤ 100000) (M : PM a) (T : PT H a ts fs xp xi [tk kd u p0, tk (Str.ofString "end") (Str.ofString ".") p1]) (O : PO H a 0 1200 0 0 .none [] [] [] [])
    (h : ∀ H', PEnd H H' a (aT (posA ts u : Nat)) → k (aT (posA ts u : Nat)) H') : Cal g 8 true 634 [.ref a.P] H k x := by
  have O1 := O.stepP (pl' := 0 + 1) (lim' := 1200) (pri' := 0) (nn' := 0) (term' := aT (posA ts u : Nat))
  have k1 : KeepL (own a) H (upd H a.P (parserO a (0 + 1) 1200 0 0 (aT (posA ts u : Nat)))) := KeepL.ownP
  have T1 := T.keep M O k1
  refine clauseX_spec (n := 3) O.o (RunX.opd O.o (by decide) (operand_plain O.o T.t (by decide) (by decide) hkd rfl rfl (by decide) U.h T.y hz U.m T.op T.hp T.hi T.hq U.p U.i ⟨1, rfl, ?_⟩))
  refine RunX.opr O1.o (by decide) (operator_done O1.o T1.t O1.f (by decide) (by decide) rfl ⟨2, rfl, RunX.fin O1.o ?_⟩)
  exact ⟨_, _, _, _, _, _, _, rfl, O1.o, T1.t, by decide, by decide, rfl, h _ ⟨k1, _, _, _, _, [], [], fun _ => 0, O1.o, O1.nm, O1.co, by simp, by simp⟩⟩
theorem row_round (hkd : kd = Str.ofString "open" ∨ kd = Str.ofString "open_ct") (U : PlainA ts xp xi u) (hz : ts.length ≤ 100000) (M : PM a) (T : PT H a ts fs xp xi [tk kd v p0, tk (Str.ofString "name") u p1, tk (Str.ofString "punct") (Str.ofString ")") p2, tk (Str.ofString "end") (Str.ofString ".") p3]) (O : PO H a 0 1200 0 0 .none [] [] [] [])
    (h : ∀ H', PEnd H H' a (aT (posA ts u : Nat)) → k (aT (posA ts u : Nat)) H') : Cal g 8 true 634 [.ref a.P] H k x := by
  refine clauseX_spec (n := 5) O.o (RunX.opd O.o (by decide) (operand_open O.o T.t O.f (by simp) (by decide) (by decide) hkd rfl ?_))
  intro f d il H1 hf hil kp e1 e2 e3 e4
  have k1 : KeepL (own a) H H1 := kp.mono (by k_extra "subs")
  have O1 := O.stepF M kp e1 e2
  have T1 := T.keep M O k1
  refine ⟨0, rfl, RunX.opd O1.o (by decide) (operand_plain O1.o T1.t (by decide) (by decide) (.inl rfl) rfl rfl (by decide) U.h T1.y hz U.m T1.op T1.hp T1.hi T1.hq U.p U.i ⟨1, rfl, ?_⟩)⟩
  have O2 := O1.stepP (pl' := 0 + 1 + 1) (lim' := 1200) (pri' := 0) (nn' := 0) (term' := aT (posA ts u : Nat))
  have k2 : KeepL (own a) H (upd H1 a.P (parserO a (0 + 1 + 1) 1200 0 0 (aT (posA ts u : Nat)))) := k1.trans KeepL.ownP
  have T2 := T.keep M O k2
  have f2 : upd H1 a.P (parserO a (0 + 1 + 1) 1200 0 0 (aT (posA ts u : Nat))) f = some (frameO d (Str.ofString "round") 1200 (-1) (-1) 0 .none il) := (upd_ne (ne_kind e3 e1 rfl)).trans e3
  refine RunX.opr O2.o (by decide) (operator_close (f := f) (frs := []) (close_round rfl O2.o T2.t O2.f (by simp) f2 (by decide) (by decide) rfl ?_) (by decide) (by decide) (by decide) O2.o T2.t O2.f (by simp) f2 (by decide) (by decide) rfl)
  intro H3 kp3 c1 c2
  have O3 := O2.stepF M kp3 c1 c2
  have k3 : KeepL (own a) H H3 := k2.trans (kp3.mono (by k_extra "subs"))
  have T3 := T.keep M O k3
  refine ⟨1, rfl, RunX.opr O3.o (by decide) (operator_done O3.o T3.t O3.f (by decide) (by decide) rfl ⟨2, rfl, RunX.fin O3.o ?_⟩)⟩
  exact ⟨_, _, _, _, _, _, _, rfl, O3.o, T3.t, by decide, by decide, rfl, h _ ⟨k3, _, _, _, _, [], [], fun _ => 0, O3.o, O3.nm, O3.co, by simp, by simp⟩⟩
theorem row_ab (U : PlainA ts xp xi u) (V : PlainA ts xp xi v) (hz : ts.length ≤ 100000) (M : PM a) (T : PT H a ts fs xp xi [tk (Str.ofString "name") u p0, tk (Str.ofString "name") v p1, tk (Str.ofString "end") (Str.ofString ".") p2]) (O : PO H a 0 1200 0 0 .none [] [] [] [])
    (h : ∀ f H', Fl 51 (KxP H a (Str.ofString "end_expected") p1) (.ref f) H' → x (.ref f) H') : Cal g 8 true 634 [.ref a.P] H k x := by
  have O1 := O.stepP (pl' := 0 + 1) (lim' := 1200) (pri' := 0) (nn' := 0) (term' := aT (posA ts u : Nat))
  have k1 : KeepL (own a) H (upd H a.P (parserO a (0 + 1) 1200 0 0 (aT (posA ts u : Nat)))) := KeepL.ownP
  have T1 := T.keep M O k1
  refine clause_ab (n := 3) (fs := fs) (u := v) (p := p1) O.o V.m hz V.i (RunX.opd O.o (by decide) (operand_plain O.o T.t (by decide) (by decide) (.inl rfl) rfl rfl (by decide) U.h T.y hz U.m T.op T.hp T.hi T.hq U.p U.i ⟨1, rfl, ?_⟩))
  refine RunX.opr O1.o (by decide) (operator_ab O1.o T1.t O1.f (by decide) (by decide) rfl T1.y hz V.m T1.op T1.hi T1.hq V.i ⟨2, rfl, RunX.fin O1.o ?_⟩)
  refine ⟨_, _, _, _, _, _, rfl, O1.o, T1.t, by decide, by decide, rfl, T1.y, T1.op, T1.hi, T1.hq, fun f df H' h1 h3 h4 => ?_⟩
  exact ⟨_, KxP.fl k1 h1 h3 h4, fun H'' w => h f H'' w⟩
theorem row_sq (hf' : u' ∈ ts) (U : PlainA ts xp xi u) (hz : ts.length ≤ 100000) (M : PM a) (T : PT H a ts fs xp xi [tk (Str.ofString "name") u' p0, tk (Str.ofString "open_ct") v p1, tk (Str.ofString "name") u p2, tk (Str.ofString "punct") (Str.ofString "]") p3, tk (Str.ofString "end") (Str.ofString ".") p4]) (O : PO H a 0 1200 0 0 .none [] [] [] [])
    (h : ∀ f H', Fl 51 (KxP H a (Str.ofString "unbalanced") p3) (.ref f) H' → x (.ref f) H') : Cal g 8 true 634 [.ref a.P] H k x := by
  refine clauseX_spec (n := 3) O.o (RunX.opd O.o (by decide) (operand_nameQ O.o T.t O.f (by simp) T.y hz hf' (by decide) (by decide) rfl rfl ?_))
  intro f d il H1 hf hil kp e1 e2 e3 e4
  have k1 : KeepL (own a) H H1 := kp.mono (by k_extra "subs")
  have O1 := O.stepF M kp e1 e2
  have T1 := T.keep M O k1
  refine ⟨0, rfl, RunX.opd O1.o (by decide) (operand_plain O1.o T1.t (by decide) (by decide) (.inl rfl) rfl rfl (by decide) U.h T1.y hz U.m T1.op T1.hp T1.hi T1.hq U.p U.i ⟨1, rfl, ?_⟩)⟩
  have O2 := O1.stepP (pl' := 0 + 1 + 1 + 1) (lim' := 999) (pri' := 0) (nn' := 0) (term' := aT (posA ts u : Nat))
  have k2 : KeepL (own a) H (upd H1 a.P (parserO a (0 + 1 + 1 + 1) 999 0 0 (aT (posA ts u : Nat)))) := k1.trans KeepL.ownP
  have T2 := T.keep M O k2
  have f2 : upd H1 a.P (parserO a (0 + 1 + 1 + 1) 999 0 0 (aT (posA ts u : Nat))) f = some (frameO d (Str.ofString "args") 1200 (-1) (posA ts u' : Nat) 0 .none il) := (upd_ne (ne_kind e3 e1 rfl)).trans e3
  refine RunX.opr O2.o (by decide) (operator_bad (f := f) (frs := []) O2.o T2.t O2.f (by simp) f2 (by decide) (by decide) rfl fun f df H' h1 h3 h4 => ?_)
  exact ⟨_, KxP.fl k2 h1 h3 h4, fun H'' w => ⟨_, w, fun H3 w3 => h f H3 w3⟩⟩
theorem row_tok (hf' : u' ∈ ts) (U : PlainA ts xp xi u) (hz : ts.length ≤ 100000) (ee : getA xi 7 = some (.tup [.int 1000, .str (Str.ofString "xfy")])) (M : PM a) (T : PT H a ts fs xp xi [tk (Str.ofString "name") u' p0, tk (Str.ofString "open_ct") v p1, tk (Str.ofString "name") u p2, tk (Str.ofString "punct") (Str.ofString ",") p3, tk (Str.ofString "punct") (Str.ofString ")") p4, tk (Str.ofString "end") (Str.ofString ".") p5]) (O : PO H a 0 1200 0 0 .none [] [] [] [])
    (h : ∀ f H', Fl 51 (KxP H a (Str.ofString "unexpected_token") p4) (.ref f) H' → x (.ref f) H') : Cal g 8 true 634 [.ref a.P] H k x := by
  refine clauseX_spec (n := 4) O.o (RunX.opd O.o (by decide) (operand_nameQ O.o T.t O.f (by simp) T.y hz hf' (by decide) (by decide) rfl rfl ?_))
  intro f d il H1 hf hil kp e1 e2 e3 e4
  have k1 : KeepL (own a) H H1 := kp.mono (by k_extra "subs")
  have O1 := O.stepF M kp e1 e2
  have T1 := T.keep M O k1
  refine ⟨0, rfl, RunX.opd O1.o (by decide) (operand_plain O1.o T1.t (by decide) (by decide) (.inl rfl) rfl rfl (by decide) U.h T1.y hz U.m T1.op T1.hp T1.hi T1.hq U.p U.i ⟨1, rfl, ?_⟩)⟩
  have O2 := O1.stepP (pl' := 0 + 1 + 1 + 1) (lim' := 999) (pri' := 0) (nn' := 0) (term' := aT (posA ts u : Nat))
  have k2 : KeepL (own a) H (upd H1 a.P (parserO a (0 + 1 + 1 + 1) 999 0 0 (aT (posA ts u : Nat)))) := k1.trans KeepL.ownP
  have T2 := T.keep M O k2
  have nf := ne_kind e3 e1 rfl
  have ni := ne_kind e4 e1 rfl
  have f2 : upd H1 a.P (parserO a (0 + 1 + 1 + 1) 999 0 0 (aT (posA ts u : Nat))) f = some (frameO d (Str.ofString "args") 1200 (-1) (posA ts u' : Nat) 0 .none il) := (upd_ne nf).trans e3
  have i2 : upd H1 a.P (parserO a (0 + 1 + 1 + 1) 999 0 0 (aT (posA ts u : Nat))) il = some (.list []) := (upd_ne ni).trans e4
  refine RunX.opr O2.o (by decide) (operator_comma (f := f) (frs := []) (close_comma (frs := []) rfl O2.o T2.t O2.f (by simp) f2 i2 (by simp) (Ne.symm (ne_fresh hil O.f)) (by decide) (by decide) rfl ?_) T2.op T2.hi ee (show (999 : Int) < 1000 by decide) T2.hq (by decide) O2.o T2.t O2.f (by simp) f2 (by decide) (by decide) rfl)
  intro H3 kp3 c1 c2 c3
  have k3 : KeepL (own a) H H3 := k2.thru kp3 (by
    intro b hb
    simp only [List.mem_cons, List.not_mem_nil, or_false] at hb
    rcases hb with rfl | rfl | rfl
    · exact .inl (.head _)
    · exact .inr hf
    · exact .inr hil)
  have T3 := T.keep M O k3
  refine ⟨0, rfl, RunX.opd c1 (by decide) (operand_bad c1 T3.t (by decide) (by decide) rfl fun f df H' h1 h3 h4 => ?_)⟩
  exact ⟨_, KxP.fl (k3.trans KeepL.ownP) (upd_none.mpr ⟨Ne.symm (ne_fresh h1 c1), h1⟩) h3 h4, fun H'' w => ⟨_, w, fun H3 w3 => h f H3 w3⟩⟩
theorem row_args (hf' : u' ∈ ts) (U : PlainA ts xp xi u) (hz : ts.length ≤ 100000) (hzf : fs.length ≤ 100000) (hv0 : 0 < v'.length) (hv' : v' ≠ Str.ofString "_") (hfu : [((posA ts u' : Nat) : Int), 2] ∈ fs) (ee : getA xi 7 = some (.tup [.int 1000, .str (Str.ofString "xfy")])) (M : PM a) (T : PT H a ts fs xp xi [tk (Str.ofString "name") u' p0, tk (Str.ofString "open_ct") v p1, tk (Str.ofString "var") v' p2, tk (Str.ofString "punct") (Str.ofString ",") p3, tk (Str.ofString "name") u p4, tk (Str.ofString "punct") (Str.ofString ")") p5, tk (Str.ofString "end") (Str.ofString ".") p6]) (O : PO H a 0 1200 0 0 .none [] [] [] [])
    (h : ∀ H', PEnd H H' a (.tup [.str (Str.ofString "s"), .int (posA fs [((posA ts u' : Nat) : Int), 2] : Nat), .tup [vT 0, aT (posA ts u : Nat)]]) → k (.tup [.str (Str.ofString "s"), .int (posA fs [((posA ts u' : Nat) : Int), 2] : Nat), .tup [vT 0, aT (posA ts u : Nat)]]) H') : Cal g 8 true 634 [.ref a.P] H k x := by
  refine clauseX_spec (n := 7) O.o (RunX.opd O.o (by decide) (operand_nameQ O.o T.t O.f (by simp) T.y hz hf' (by decide) (by decide) rfl rfl ?_))
  intro f d il H1 hf hil kp e1 e2 e3 e4
  have k1 : KeepL (own a) H H1 := kp.mono (by k_extra "subs")
  have O1 := O.stepF M kp e1 e2
  have T1 := T.keep M O k1
  refine ⟨0, rfl, RunX.opd O1.o (by decide) (operand_var (.new hv' rfl) O1.o T1.t (by decide) (by decide) rfl O1.nu O1.co O1.nm (by simp) (by simp) (by simp) ?_)⟩
  intro H2 kp2 b1 b2 b3 b4
  have k2 : KeepL (own a) H H2 := k1.trans (kp2.mono (by k_extra "subs"))
  have O2 := O1.stepV M kp2 b1 b2 b3 b4
  have T2 := T.keep M O k2
  have o1 := O1.nu
  have o2 := O1.co
  have o3 := O1.nm
  have o4 := O.nm
  have m1 := ne_fresh hil o4
  have f2 := kp2 _ _ (by k_extra "nes") e3
  have i2 := kp2 _ _ (by k_extra "nes") e4
  refine ⟨1, rfl, RunX.opr O2.o (by decide) (operator_comma (f := f) (frs := []) (close_comma (frs := []) rfl O2.o T2.t O2.f (by simp) f2 i2 (by simp) (Ne.symm (ne_fresh hil O.f)) (by decide) (by decide) rfl ?_) T2.op T2.hi ee (show (999 : Int) < 1000 by decide) T2.hq (by decide) O2.o T2.t O2.f (by simp) f2 (by decide) (by decide) rfl)⟩
  intro H3 kp3 c1 c2 c3
  have mem3 : ∀ b ∈ [a.P, f, il], b ∈ own a ∨ H b = none := by
    intro b hb
    simp only [List.mem_cons, List.not_mem_nil, or_false] at hb
    rcases hb with rfl | rfl | rfl
    · exact .inl (.head _)
    · exact .inr hf
    · exact .inr hil
  have k3 : KeepL (own a) H H3 := k2.thru kp3 mem3
  have T3 := T.keep M O k3
  have O3 : PO H3 a (0 + 1 + 1 + 1 + 1) 999 0 (0 + 1) (vT 0) ([] ++ [.ref f]) (putA [] v' (.int 0)) (putA [] 0 (.int 1)) ([] ++ [.tup [.str v', .int 0]]) := by
    have x1 := O2.f
    have x2 := O2.nu
    have x3 := O2.co
    have x4 := O2.nm
    have x5 := O2.o
    have m2 := ne_fresh hil O.f
    exact ⟨c1, kp3 _ _ (by k_extra "nes") x1, kp3 _ _ (by k_extra "nes") x2, kp3 _ _ (by k_extra "nes") x3, kp3 _ _ (by k_extra "nes") x4⟩
  refine ⟨0, rfl, RunX.opd O3.o (by decide) (operand_plain O3.o T3.t (by decide) (by decide) (.inl rfl) rfl rfl (by decide) U.h T3.y hz U.m T3.op T3.hp T3.hi T3.hq U.p U.i ⟨1, rfl, ?_⟩)⟩
  have O4 := O3.stepP (pl' := 0 + 1 + 1 + 1 + 1 + 1) (lim' := 999) (pri' := 0) (nn' := 0 + 1) (term' := aT (posA ts u : Nat))
  have k4 : KeepL (own a) H (upd H3 a.P (parserO a (0 + 1 + 1 + 1 + 1 + 1) 999 0 (0 + 1) (aT (posA ts u : Nat)))) := k3.trans KeepL.ownP
  have T4 := T.keep M O k4
  have f4 : upd H3 a.P (parserO a (0 + 1 + 1 + 1 + 1 + 1) 999 0 (0 + 1) (aT (posA ts u : Nat))) f = some (frameO d (Str.ofString "args") 1200 (-1) (posA ts u' : Nat) 0 .none il) := (upd_ne (ne_kind c2 c1 rfl)).trans c2
  have i4 : upd H3 a.P (parserO a (0 + 1 + 1 + 1 + 1 + 1) 999 0 (0 + 1) (aT (posA ts u : Nat))) il = some (.list [vT 0]) := (upd_ne (ne_kind c3 c1 rfl)).trans c3
  refine RunX.opr O4.o (by decide) (operator_close (f := f) (frs := []) (close_argsQ (frs := []) rfl O4.o T4.t O4.f (by simp) f4 i4 (by simp) T4.y hzf hfu (by decide) (by decide) rfl ?_) (by decide) (by decide) (by decide) O4.o T4.t O4.f (by simp) f4 (by decide) (by decide) rfl)
  intro H5 kp5 g1 g2
  have O5 := O4.stepF M kp5 g1 g2
  have k5 : KeepL (own a) H H5 := k4.trans (kp5.mono (by k_extra "subs"))
  have T5 := T.keep M O k5
  refine ⟨1, rfl, RunX.opr O5.o (by decide) (operator_done O5.o T5.t O5.f (by decide) (by decide) rfl ⟨2, rfl, RunX.fin O5.o ?_⟩)⟩
  exact ⟨_, _, _, _, _, _, _, rfl, O5.o, T5.t, by decide, by decide, rfl, h _ ⟨k5, _, _, _, _, [(v', 0)], putA [] 0 (.int 1), fun _ => 1, O5.o, O5.nm, O5.co, by simp [getA_put_same, hv0], by simp⟩⟩
end
end
end

section
section
variable {g : Gd Mine.hp.heap_1}
theorem bB6 {h : Heap} {vs : List Value} {a b c d e f : AV} {B : List Value → List Value → Prop} (z : VRs h vs [a, b, c, d, e, f]) (q : ∀ v w u t y x, B [v, w, u, t, y, x] [v, w, u, t, y, x]) : ∃ ws, VRs h ws [a, b, c, d, e, f] ∧ B vs ws := by
  obtain ⟨v, vs', rfl, r⟩ := z.ls
  obtain ⟨w, u, t, y, x, rfl⟩ := r.l5
  exact ⟨_, z, q v w u t y x⟩
theorem ReaderAt_spec {H : AH} {S O F cs : Addr} {i : Int} {k x : AV → AH → Prop} (h : ∀ r d t dt H', H r = none → H t = none → Keep H H' → H' r = some (readerO d S O F t i) → H' t = some (tokO dt cs i i) → k (.ref r) H') : Cal g 4 false 839 [.ref S, .ref O, .ref F, .ref cs, .int i] H k x := by
  refine Cal.make (fI := 815) ⟨by k_extra "part", by k_extra "part", by k_extra "part"⟩ ?_
  intro r d hr hd hne
  refine' Cal.enter (as' := [.ref r, .ref S, .ref O, .ref F, .ref cs, .int i]) ["self", "symbols", "operators", "flags", "codes", "at"] ?F ?B ?N ?_
  (case F => exact ⟨⟨_, _, _, by k_extra "part"⟩, by k_extra "part"⟩)
  (case B => intro s vs hv K; exact bB6 (B := fun vs ws => BindsTo s _ ⟨vs, []⟩ (List.zip _ ws)) hv fun _ _ _ _ _ _ => binds_K K rfl (by k_extra "part") rfl rfl rfl)
  (case N => k_extra "eq")
  intro A L ok
  dsimp only [locOf]
  repeat' k_extra "step"
  refine Cal.at (Tokenizer_spec ?_) (Ok.leB (by assumption) rfl)
  intro t dt H' ht kp e1
  have hr' : H' r = some (.inst 839 d [(Str.ofString "symbols", .ref S), (Str.ofString "operators", .ref O), (Str.ofString "flags", .ref F)]) := kp _ _ (upd_same _ _ _)
  have n1 : t ≠ r := ne_kind e1 hr' rfl
  repeat' k_extra "step"
  simp only [upd_none] at ht
  refine ⟨rfl, h r d t dt _ hr ht.2.2.2.2.2 (fun b o e => ?_) (by k_extra "thing") (by k_extra "thing")⟩
  have f1 := ne_fresh hr e
  have f2 := ne_fresh hd e
  have e' := kp b o (by repeat (first | exact e | refine upd_other (by assumption) ?_))
  k_extra "thing"
end
end

section
section
variable {g : Gd Mine.hp.heap_1}
set_option genInjectivity false in
structure RA where
  r : Addr
  d : Addr
  S : Addr
  dS : Addr
  tx : Addr
  an : Addr
  fn : Addr
  fnn : Addr
  O : Addr
  dO : Addr
  pr : Addr
  inf : Addr
  po : Addr
  F : Addr
  dF : Addr
  va : Addr
  fi : Addr
  fx : Addr
  t : Addr
  dt : Addr
  cs : Addr
structure RH (H : AH) (A : RA) (l : List Nat) (ts : List Str) (fs : List (List Int)) (xp xi : List (Int × AV)) (xv : List (Str × AV)) : Prop where
  f : H A.F = some (flO A.dF A.S A.va A.fi A.fx)
  v : H A.va = some (.dictS xv)
  y : Sy H A.S A.dS A.tx A.an A.fn A.fnn ts fs
  o : H A.O = some (opO A.dO A.S A.pr A.inf A.po)
  p : H A.pr = some (.dictI xp)
  i : H A.inf = some (.dictI xi)
  q : H A.po = some (.dictI [])
  c : Cds H A.cs l
structure RS (H : AH) (A : RA) (i a o : Int) : Prop where
  r : H A.r = some (readerO A.d A.S A.O A.F A.t i)
  t : H A.t = some (tokO A.dt A.cs a o)
structure RM (l : List Nat) (ts : List Str) (fs : List (List Int)) (xv : List (Str × AV)) : Prop where
  e : ∃ (m : Nat) (v : Str), getA xv (Str.ofString "double_quotes") = some (.int m) ∧ ts[m]? = some v
  z1 : ts.length ≤ 90000
  z2 : fs.length ≤ 90000
  z3 : l.length ≤ 1000000
section
variable {H H' : AH} {A : RA} {l : List Nat} {ts : List Str} {fs : List (List Int)} {xp xi : List (Int × AV)} {xv : List (Str × AV)} {i a o : Int}
theorem RH.keep (Z : RH H A l ts fs xp xi xv) (W : RS H A i a o) (kp : KeepL [A.t, A.r] H H') : RH H' A l ts fs xp xi xv := by
  obtain ⟨h1, h2, ⟨y1, y2, y3, y4, y5, y6⟩, h4, h5, h6, h7, ⟨h8, h9, h10⟩⟩ := Z
  obtain ⟨w1, w2⟩ := W
  exact ⟨kp _ _ (by k_extra "nes") h1, kp _ _ (by k_extra "nes") h2, ⟨kp _ _ (by k_extra "nes") y1, kp _ _ (by k_extra "nes") y2, kp _ _ (by k_extra "nes") y3, kp _ _ (by k_extra "nes") y4, kp _ _ (by k_extra "nes") y5, y6⟩, kp _ _ (by k_extra "nes") h4, kp _ _ (by k_extra "nes") h5, kp _ _ (by k_extra "nes") h6, kp _ _ (by k_extra "nes") h7, ⟨kp _ _ (by k_extra "nes") h8, h9, h10⟩⟩
theorem RH.keep0 (Z : RH H A l ts fs xp xi xv) (kp : Keep H H') : RH H' A l ts fs xp xi xv := by
  obtain ⟨h1, h2, ⟨y1, y2, y3, y4, y5, y6⟩, h4, h5, h6, h7, ⟨h8, h9, h10⟩⟩ := Z
  exact ⟨kp _ _ h1, kp _ _ h2, ⟨kp _ _ y1, kp _ _ y2, kp _ _ y3, kp _ _ y4, kp _ _ y5, y6⟩, kp _ _ h4, kp _ _ h5, kp _ _ h6, kp _ _ h7, ⟨kp _ _ h8, h9, h10⟩⟩
theorem RS.keep0 (W : RS H A i a o) (kp : Keep H H') : RS H' A i a o := ⟨kp _ _ W.r, kp _ _ W.t⟩
end
section
variable {H : AH} {A : RA} {l : List Nat} {ts : List Str} {fs : List (List Int)} {xp xi : List (Int × AV)} {xv : List (Str × AV)} {i a b c o : Int} {k x : AV → AH → Prop}
theorem readQ_eof {p : Int} {u : Str} (Z : RH H A l ts fs xp xi xv) (W : RS H A i a o) (Y : RM l ts fs xv) (h0 : 0 ≤ a) (ha : a ≤ l.length) (N : NStepQ l o a (tk (Str.ofString "eof") u p) b)
    (h : ∀ H', KeepL [A.t, A.r] H H' → RS H' A b b o → k .none H') : Cal g 11 true 822 [.ref A.r] H k x := by
  have hR := W.r
  have hT := W.t
  refine' Cal.enter (as' := [.ref A.r]) ["self"] ?F ?B ?N ?_
  k_extra "enter"
  repeat' k_extra "step"
  refine Cal.at (gatherQ_spec hR hT Z.c h0 ha Y.z3 N (.stop (.inr rfl)) (by simp) (.inr ⟨⟨_, _, rfl⟩, rfl, rfl⟩) ?_) (Ok.leB (by assumption) rfl)
  intro q H' hq kp e1 e2 e3
  have hz2 : ([] : List AV).length < 2 ^ 60 := by simp
  repeat' k_extra "step"
  exact h H' kp ⟨e2, e1⟩
theorem read_clauseQ {tok last term : AV} {tts toks : List AV} {ul : Str} {pl : Int} (Z : RH H A l ts fs xp xi xv) (W : RS H A i a o) (Y : RM l ts fs xv) (h0 : 0 ≤ a) (ha : a ≤ l.length) (N : NStepQ l o a tok b) (G : GCurQ l o tok b tts last c) (hz : tts.length ≤ 100) (hlast : last = tk (Str.ofString "end") ul pl) (etok : tts ++ [last] = toks)
    (hcl : ∀ (a : PA) (H3 : AH) {k x : AV → AH → Prop}, PM a → PT H3 a ts fs xp xi toks → PO H3 a 0 1200 0 0 .none [] [] [] [] → (∀ H', PEnd H3 H' a term → k term H') → Cal g 8 true 634 [.ref a.P] H3 k x)
    (h : ∀ nm sg H', KeepL [A.t, A.r] H H' → RS H' A c c o → k (.tup [term, .ref nm, .ref sg]) H') : Cal g 11 true 822 [.ref A.r] H k x := by
  have hR := W.r
  have hT := W.t
  have zc := Z.c.h
  obtain ⟨m, v, e1, em⟩ := Y.e
  have z1 := Y.z1
  refine' Cal.enter (as' := [.ref A.r]) ["self"] ?F ?B ?N ?_
  k_extra "enter"
  repeat' k_extra "step"
  refine Cal.at (gatherQ_spec hR hT Z.c h0 ha Y.z3 N G (by lia) (.inl ⟨_, _, hlast, etok.symm⟩) ?_) (Ok.leB (by assumption) rfl)
  intro q H1 hq1 kp1 b1 b2 b3
  have hlen : toks.length < 2 ^ 60 := by rw [← etok]; simp; lia
  have hem : toks.isEmpty = false := by rw [← etok]; simp
  have Z1 := Z.keep W kp1
  repeat' k_extra "step"
  rw [hem]
  refine ifF (show ¬ false = true from Bool.false_ne_true) ?_
  repeat' k_extra "step"
  refine Cal.at (string_mode_spec b2 Z1.f Z1.v e1 Z1.y em (by lia) ?_) (Ok.leB (by assumption) rfl)
  repeat' k_extra "step"
  refine Cal.at (Parser_spec ?_) (Ok.leB (by assumption) rfl)
  intro P dP fr nu nm co H2 f1 f2 f3 f4 f5 n0 kp2 g1 g2 g3 g4 g5
  have Z2 := Z1.keep0 kp2
  have g6 := kp2 _ _ b3
  have y1 := Z1.y.o
  have y2 := Z1.y.t
  have y3 := Z1.y.a
  have y4 := Z1.y.f
  have y5 := Z1.y.n
  have y6 := Z1.p
  have y7 := Z1.i
  have y8 := Z1.q
  repeat' k_extra "step"
  refine Cal.at (hcl ⟨P, dP, A.S, A.dS, A.tx, A.an, A.fn, A.fnn, A.O, A.dO, A.pr, A.inf, A.po, q, fr, nu, nm, co, .str v⟩ H2 ⟨by k_extra "ne", n0, by k_extra "ne", by k_extra "ne", by k_extra "ne", by k_extra "ne", by k_extra "ne", by k_extra "ne", by k_extra "ne", by k_extra "ne", by k_extra "ne"⟩ ⟨g6, Z2.y, Z2.o, Z2.p, Z2.i, Z2.q⟩ ⟨g1, g2, g3, g5, g4⟩ ?_) (Ok.leB (by assumption) rfl)
  intro H3 E
  obtain ⟨kp3, pl3, lim3, pri3, nn3, ns, counts, cn, d1, d2, d3, d4, d5⟩ := E
  dsimp only at kp3 d1 d2 d3
  repeat' k_extra "step"
  refine Cal.at (singles_spec (a := ⟨P, dP, A.S, A.dS, A.tx, A.an, A.fn, A.fnn, A.O, A.dO, A.pr, A.inf, A.po, q, fr, nu, nm, co, .str v⟩) (cn := cn) d1 d2 d3 d4 d5 ?_) (Ok.leB (by assumption) rfl)
  intro sg hsg
  repeat' k_extra "step"
  have r2 := kp2 _ _ b2
  have t2 := kp2 _ _ b1
  have r3 := kp3 _ _ (by k_extra "nes") r2
  have t3 := kp3 _ _ (by k_extra "nes") t2
  refine h nm sg _ (fun y oy ny e => ?_) ⟨upd_fresh hsg r3, upd_fresh hsg t3⟩
  have e' := kp1 y oy ny e
  exact upd_fresh hsg (kp3 y oy (by k_extra "nes") (kp2 y oy e'))
end
end
end

section
section
variable {g : Gd Mine.hp.heap_1}
section
variable {H : AH} {A : RA} {l : List Nat} {ts : List Str} {fs : List (List Int)} {xp xi : List (Int × AV)} {xv : List (Str × AV)} {i a b c o : Int} {k x : AV → AH → Prop}
noncomputable abbrev KxA (H : AH) (A : RA) (c o : Int) (kd : Str) (j : Nat) (l : List Nat) : Option Addr → List (Str × AV) → AH → Prop := KxR H A.r A.t (readerO A.d A.S A.O A.F A.t c) (tokO A.dt A.cs c o) kd j l (fun _ => True)
theorem read_bad {v c5 p : Int} {m : Nat} (Z : RH H A l ts fs xp xi xv) (W : RS H A i a o) (Y : RM l ts fs xv) (h0 : 0 ≤ a) (ha : a ≤ l.length) 
    (G : Gap l a m) (hc : cAt l (m : Int) = 39) (hc1 : cAt l ((m : Int) + 1) = 97) (hc2 : cAt l ((m : Int) + 1 + 1) = 92) (hc3 : cAt l ((m : Int) + 1 + 1 + 1) = 113) (hc4 : cAt l ((m : Int) + 1 + 1 + 2) = 39) (hc5 : cAt l ((m : Int) + 1 + 1 + 2 + 1) = c5) (hn5 : c5 ≠ 39) (hl : m + 5 ≤ l.length)
    (G2 : Gap l ((m : Int) + 1 + 1 + 2 + 1) p) (hcp : cAt l p = 46) (hv' : cAt l (p + 1) = v) (he : v = -1 ∨ v = 37 ∨ layout v)
    (h : ∀ f H', Fl 51 (KxA H A (p + 1) o (Str.ofString "bad_escape") (m + 2) l) (.ref f) H' → x (.ref f) H') : Cal g 11 true 822 [.ref A.r] H k x := by
  have hR := W.r
  have hT := W.t
  refine' Cal.enterY (as' := [.ref A.r]) ["self"] ?F ?B ?N ?_
  k_extra "enter"
  repeat' k_extra "step"
  refine Cal.at (gather_bad_spec hR hT Z.c h0 ha G hc hc1 hc2 hc3 hc4 hc5 hn5 hl G2 hcp hv' he ?_) (Ok.leB (by assumption) rfl)
  intro f H' w
  have w' : Fl 51 (KxA H A (p + 1) o (Str.ofString "bad_escape") (m + 2) l) (.ref f) H' := w.mono fun ctx fs H₀ z => ⟨trivial, z.2⟩
  exact ⟨51, _, w', fun H3 w3 => h _ _ w3⟩
theorem read_clauseX {tok last : AV} {tts toks : List AV} {ul kd : Str} {pl : Int} {j : Nat} (Z : RH H A l ts fs xp xi xv) (W : RS H A i a o) (Y : RM l ts fs xv) (h0 : 0 ≤ a) (ha : a ≤ l.length) (N : NStepQ l o a tok b) (G : GCurQ l o tok b tts last c) (hz : tts.length ≤ 100) (hlast : last = tk (Str.ofString "end") ul pl) (etok : tts ++ [last] = toks) (hj : j ≤ l.length)
    (hcl : ∀ (a : PA) (H3 : AH) {k x : AV → AH → Prop}, PM a → PT H3 a ts fs xp xi toks → PO H3 a 0 1200 0 0 .none [] [] [] [] → (∀ f H', Fl 51 (KxP H3 a kd j) (.ref f) H' → x (.ref f) H') → Cal g 8 true 634 [.ref a.P] H3 k x)
    (h : ∀ f H', Fl 51 (KxA H A c o kd j l) (.ref f) H' → x (.ref f) H') : Cal g 11 true 822 [.ref A.r] H k x := by
  have hR := W.r
  have hT := W.t
  have zc := Z.c.h
  obtain ⟨m, v, e1, em⟩ := Y.e
  have z1 := Y.z1
  refine' Cal.enterY (as' := [.ref A.r]) ["self"] ?F ?B ?N ?_
  k_extra "enter"
  rename_i Ar L ok
  have okm : ∀ f, Ok 10 false (Ar.mark (some (Value.ref f))) := fun f => ok.mark
  repeat' k_extra "step"
  refine Cal.at (gatherQ_spec hR hT Z.c h0 ha Y.z3 N G (by lia) (.inl ⟨_, _, hlast, etok.symm⟩) ?_) (Ok.leB ok rfl)
  intro q H1 hq1 kp1 b1 b2 b3
  have hlen : toks.length < 2 ^ 60 := by rw [← etok]; simp; lia
  have hem : toks.isEmpty = false := by rw [← etok]; simp
  have Z1 := Z.keep W kp1
  repeat' k_extra "step"
  rw [hem]
  refine ifF (show ¬ false = true from Bool.false_ne_true) ?_
  repeat' k_extra "step"
  refine Cal.at (string_mode_spec b2 Z1.f Z1.v e1 Z1.y em (by lia) ?_) (Ok.leB ok rfl)
  repeat' k_extra "step"
  refine Cal.at (Parser_spec ?_) (Ok.leB ok rfl)
  intro P dP fr nu nm co H2 f1 f2 f3 f4 f5 n0 kp2 g1 g2 g3 g4 g5
  have Z2 := Z1.keep0 kp2
  have g6 := kp2 _ _ b3
  have y1 := Z1.y.o
  have y2 := Z1.y.t
  have y3 := Z1.y.a
  have y4 := Z1.y.f
  have y5 := Z1.y.n
  have y6 := Z1.p
  have y7 := Z1.i
  have y8 := Z1.q
  repeat' (first | with_reducible refine Ex.tryAs faultK rfl (by k_extra "eq") (by k_extra "eq") (by k_extra "eq") ?ht ?bd | k_extra "step")
  case ht =>
    intro A' ρ' H' k' x' hk
    repeat' k_extra "step"
    exact hk
  refine Cal.at (hcl ⟨P, dP, A.S, A.dS, A.tx, A.an, A.fn, A.fnn, A.O, A.dO, A.pr, A.inf, A.po, q, fr, nu, nm, co, .str v⟩ H2 ⟨by k_extra "ne", n0, by k_extra "ne", by k_extra "ne", by k_extra "ne", by k_extra "ne", by k_extra "ne", by k_extra "ne", by k_extra "ne", by k_extra "ne", by k_extra "ne"⟩ ⟨g6, Z2.y, Z2.o, Z2.p, Z2.i, Z2.q⟩ ⟨g1, g2, g3, g5, g4⟩ ?_) (Ok.leB ok rfl)
  intro f H3 w
  refine ⟨_, w, fun H4 w4 => ⟨f, rfl, ?_⟩⟩
  obtain ⟨f', df, T, ctx, fs', H₀, e0, e1, -, e2, kp, e3, e4, e5⟩ := w4
  cases e0
  subst e3 e4
  have e5 : KeepL [P, fr, nu, co, nm] H2 H₀ := e5
  have r2 := kp2 _ _ b2
  have t2 := kp2 _ _ b1
  have r3 := e5 _ _ (by k_extra "nes") r2
  have t3 := e5 _ _ (by k_extra "nes") t2
  have c1 := Z1.c.h
  have c2 := Z2.c.h
  have c3 := e5 _ _ (by k_extra "nes") c2
  have r4 := kp _ _ r3
  have t4 := kp _ _ t3
  have C4 : Cds H4 A.cs l := ⟨kp _ _ c3, Z.c.b, Z.c.z⟩
  have kall : KeepL [A.t, A.r] H H4 := fun y oy ny e => by
    have e' := kp1 y oy ny e
    exact kp _ _ (e5 y oy (by k_extra "nes") (kp2 y oy e'))
  have okf := okm f
  repeat' (first | refine Op1.getX e1 faultK (by k_extra "part") (by k_extra "field") (by first | rfl | assumption) ?_ | k_extra "step")
  refine Ex.raise faultK ?_
  repeat' (first | refine Op1.getX e1 faultK (by k_extra "part") (by k_extra "field") (by first | rfl | assumption) ?_ | k_extra "step")
  refine CalH.at (hd := some (.ref f)) (fault_spec (i := j) (.inr ⟨f, 51, df, T, _, rfl, e1⟩) t4 C4 hj ?_) (Ok.leB okf rfl) rfl
  intro f2 df2 H5 u1 u2 u3 u4
  have n1 : f2 ≠ f := Ne.symm (ne_fresh u1 e1)
  have FL : Fl 51 (KxA H A c o kd j l) (.ref f2) (upd H5 f2 (.exc 51 df2 none (some f) [(Str.ofString "kind", .str kd), (Str.ofString "at", .int (j : Int)), (Str.ofString "row", .int (rc (l.take j)).1), (Str.ofString "column", .int (rc (l.take j)).2)])) :=
    ⟨f2, df2, none, some f, _, H4, rfl, upd_same _ _ _, trivial, u1, fun b ob eb => (upd_ne (ne_fresh u1 eb)).trans (u3 b ob eb), trivial, rfl, t4, r4, kall⟩
  exact ⟨⟨fun _ _ _ => True, f2, df2, none, none, _, H4, rfl, u4, trivial, u1, u3, trivial⟩, RaiseNew.over rfl u4 (u3 _ _ e1) n1 ⟨51, _, FL, fun H'' w => ⟨51, _, w, fun H3 w3 => h _ _ w3⟩⟩⟩
end
end
end

section
section
theorem rc_run : ∀ (w : List Nat) (a : Int × Int), 10 ∉ w → w.foldl rcStep a = (a.1, a.2 + (w.length : Int))
  | [], a, _ => by simp
  | c :: w, a, h => by
    have h1 : c ≠ 10 := fun q => h (q ▸ .head _)
    rw [List.foldl_cons, show rcStep a c = (a.1, a.2 + 1) from if_neg h1, rc_run w _ (fun q => h (.tail _ q)), List.length_cons]
    simp only [Prod.mk.injEq, true_and]
    lia
theorem rc_join : ∀ (p : Str) (r : List Str), (∀ q ∈ p :: r, 10 ∉ q.cps.toList) → ∀ a : Int × Int, ∃ init last, p :: r = init ++ [last] ∧ (Str.join (Str.ofString "\n") (p :: r)).cps.toList.foldl rcStep a = if r = [] then (a.1, a.2 + (last.length : Int)) else (a.1 + (r.length : Int), 1 + (last.length : Int))
  | p, [], h, a => ⟨[], p, rfl, by
    rw [if_pos rfl]
    exact rc_run p.cps.toList a (h p (.head _))⟩
  | p, q :: r, h, a => by
    obtain ⟨init, last, e1, e2⟩ := rc_join q r (fun z hz => h z (.tail _ hz)) (a.1 + 1, 1)
    refine ⟨p :: init, last, by rw [e1]; rfl, ?_⟩
    rw [if_neg (by simp)]
    have e3 : (Str.join (Str.ofString "\n") (p :: q :: r)).cps.toList = p.cps.toList ++ 10 :: (Str.join (Str.ofString "\n") (q :: r)).cps.toList := by
      show (p.cps ++ (Str.ofString "\n").cps ++ (Str.join (Str.ofString "\n") (q :: r)).cps).toList = _
      rw [show (Str.ofString "\n").cps = #[10] from rfl]
      simp
    rw [e3, List.foldl_append, rc_run _ _ (h p (.head _)), List.foldl_cons, show rcStep (a.1, a.2 + (p.cps.toList.length : Int)) 10 = (a.1 + 1, 1) from if_pos rfl, e2]
    split
    · rename_i hr; subst hr; simp
    · simp only [List.length_cons, Prod.mk.injEq, and_true]; lia
theorem slice_take {l : List Nat} {i : Nat} (hi : i ≤ l.length) : Txt.slice (txt l) none (some (i : Int)) = txt (l.take i) := by
  have h := slice_closes_toL (x := txt l) (j := (i : Int)) (by lia) (by show (i : Int) ≤ (l.toArray.size : Int); rw [List.size_toArray]; lia)
  rw [eq_of_beq h]
  unfold txt
  simp
theorem front_is {l : List Nat} {i : Nat} (hi : i ≤ l.length) : ∃ (init : List Str) (last : Str), Txt.split (Txt.slice (txt l) none (some (i : Int))) (Str.ofString "\n") = init ++ [last] ∧ (rc (l.take i)).1 = (init.length : Int) + 1 ∧ (rc (l.take i)).2 = (last.length : Int) + 1 ∧ init.length ≤ i + 2 ∧ last.length ≤ i := by
  rw [slice_take hi]
  have h1 := StrLaws.split_free (txt (l.take i)) 10
  have h2 := StrLaws.join_split (txt (l.take i)) (Str.ofString "\n")
  have h3 := split_pos (txt (l.take i)) (Str.ofString "\n")
  have h4 := split_le (txt (l.take i)) (Str.ofString "\n")
  have hlen : (txt (l.take i)).length = i := by
    show (l.take i).toArray.size = i
    rw [List.size_toArray, List.length_take]; lia
  have h5 : ∀ a ∈ Txt.split (txt (l.take i)) (Str.ofString "\n"), a.length ≤ (txt (l.take i)).length := fun a ha => part_short ha
  change ∀ p ∈ Txt.split (txt (l.take i)) (Str.ofString "\n"), _ at h1
  rw [hlen] at h4 h5
  generalize Txt.split (txt (l.take i)) (Str.ofString "\n") = ps at h1 h2 h3 h4 h5
  match ps, h3 with
  | p :: r, _ =>
    obtain ⟨init, last, e1, e2⟩ := rc_join p r h1 (1, 1)
    rw [h2] at e2
    have e3 : (txt (l.take i)).cps.toList = l.take i := by unfold txt; simp
    rw [e3] at e2
    have e4 : rc (l.take i) = _ := e2
    have hl : init.length = r.length := by have := congrArg List.length e1; simp at this; lia
    refine ⟨init, last, e1, ?_, ?_, ?_, h5 last (by rw [e1]; simp)⟩
    · rw [e4]
      split
      · rename_i hr; subst hr; simp at hl; simp [hl]
      · simp only; lia
    · rw [e4]
      split
      · simp only; lia
      · simp only; lia
    · rw [List.length_cons] at h4; lia
end
end

section
section
noncomputable abbrev Sx (l : List Nat) (p : Nat) (s : List Nat) : Prop := l.drop p = s
theorem Sx.at {l s : List Nat} {p c : Nat} (h : Sx l p (c :: s)) : cAt l (p : Int) = (c : Int) ∧ Sx l (p + 1) s := by
  obtain ⟨h1, h2⟩ := drop_eq h
  refine ⟨?_, h2⟩
  unfold cAt
  rw [Int.toNat_natCast, h1]
theorem Sx.end {l : List Nat} {p : Nat} (h : Sx l p []) : cAt l (p : Int) = -1 ∧ (l.length : Int) ≤ p := by
  have h1 := drop_nil h
  unfold cAt
  rw [Int.toNat_natCast, h1]
  exact ⟨rfl, by have := List.drop_eq_nil_iff.mp h; lia⟩
theorem Sx.app {l w s : List Nat} {p : Nat} (h : Sx l p (w ++ s)) : Sx l (p + w.length) s := by
  show l.drop (p + w.length) = s
  rw [← List.drop_drop, show l.drop p = w ++ s from h, List.drop_left]
theorem Sx.run {l w s : List Nat} {p : Nat} (h : Sx l p (w ++ s)) : runL l p ((p + w.length : Nat) : Int) = w := by
  unfold runL
  rw [Int.toNat_natCast, Int.toNat_natCast, show l.drop p = w ++ s from h, Nat.add_sub_cancel_left, List.take_left]
theorem Sx.word {l : List Nat} {c : Nat} {s : List Nat} (hc : ¬ alnum (c : Int)) : ∀ {w : List Nat} {p : Nat}, (∀ n ∈ w, alnum (n : Int)) → Sx l p (w ++ c :: s) → Word l p ((p + w.length : Nat) : Int)
  | [], p, _, h => .stop (h.at).1 hc
  | n :: w, p, hw, h => by
    have := Sx.word hc (w := w) (p := p + 1) (fun m hm => hw m (.tail _ hm)) h.at.2
    rw [show p + 1 + w.length = p + (n :: w).length by rw [List.length_cons]; lia] at this
    exact .step h.at.1 (hw n (.head _)) this
theorem Sx.gap0 {l s : List Nat} {p c : Nat} (h : Sx l p (c :: s)) (h1 : ¬ layout (c : Int)) (h2 : c ≠ 37) (h3 : c ≠ 47) : Gap l p p := .stop h.at.1 h1 (by lia) (by lia)
theorem RestQ.at {l s : List Nat} {p : Nat} (h : s = [] ∨ ∃ c r, s = c :: r ∧ layout (c : Int)) (hs : Sx l p s) : ∃ v, cAt l (p : Int) = v ∧ (v = -1 ∨ v = 37 ∨ layout v) := by
  rcases h with rfl | ⟨c, r, rfl, hc⟩
  · exact ⟨_, hs.end.1, .inl rfl⟩
  · exact ⟨_, hs.at.1, .inr (.inr hc)⟩
noncomputable abbrev RestQ (s : List Nat) : Prop := s = [] ∨ ∃ c r, s = c :: r ∧ layout (c : Int)
inductive StepsQ (l : List Nat) (o a c : Int) (toks : List AV) : Prop
  | mk (tok : AV) (b : Int) (tts : List AV) (last : AV) (ul : Str) (pl : Int) : NStepQ l o a tok b → GCurQ l o tok b tts last c → tts.length ≤ 100 → last = tk (Str.ofString "end") ul pl → tts ++ [last] = toks → StepsQ l o a c toks
section
variable {l s : List Nat} {p c d : Nat} {o a : Int}
theorem name_step1 (hc : 97 ≤ c ∧ c ≤ 122) (hd : ¬ alnum (d : Int)) (h : Sx l p (c :: d :: s)) (G : Gap l a p) : NStep l o a (tk (Str.ofString "name") (txt [c]) p) ((p + 1 : Nat) : Int) := by
  have h' : Sx l p ([c] ++ d :: s) := h
  have W := Sx.word (w := [c]) (p := p) hd (by intro n hn; rw [List.mem_singleton] at hn; subst hn; unfold alnum; lia) h'
  have hr := h'.run
  have := NStep.name (o := o) G W h.at.1 (by lia)
  rwa [hr] at this
theorem var_step1 (hc : 65 ≤ c ∧ c ≤ 90) (hd : ¬ alnum (d : Int)) (h : Sx l p (c :: d :: s)) (G : Gap l a p) : NStep l o a (tk (Str.ofString "var") (txt [c]) p) ((p + 1 : Nat) : Int) := by
  have h' : Sx l p ([c] ++ d :: s) := h
  have W := Sx.word (w := [c]) (p := p) hd (by intro n hn; rw [List.mem_singleton] at hn; subst hn; unfold alnum; lia) h'
  have hr := h'.run
  have := NStep.var (o := o) G W h.at.1 (by lia)
  rwa [hr] at this
theorem punct_stepQ (hp : punc (c : Int)) (h : Sx l p (c :: s)) (G : Gap l a p) : NStep l o a (tk (Str.ofString "punct") ⟨#[c]⟩ p) ((p + 1 : Nat) : Int) := by
  have := NStep.punct (o := o) G h.at.1 hp
  rwa [Int.toNat_natCast] at this
theorem end_stepQ (hr : RestQ s) (h : Sx l p (46 :: s)) (G : Gap l a p) : NStep l o a (tk (Str.ofString "end") (Str.ofString ".") p) ((p + 1 : Nat) : Int) := by
  obtain ⟨v, e1, e2⟩ := RestQ.at hr h.at.2
  exact NStep.end G h.at.1 e1 e2
theorem ct_step (h : Sx l p (40 :: s)) (ho : (p : Int) ≠ o) : NStep l o p (tk (Str.ofString "open_ct") (Str.ofString "(") p) ((p + 1 : Nat) : Int) :=
  NStep.open_ct (h.gap0 (by unfold layout; lia) (by decide) (by decide)) h.at.1 ho
theorem g0 (h : Sx l p (c :: s)) (hc : 37 < c ∧ c ≠ 47) : Gap l p p := h.gap0 (by unfold layout; lia) (by lia) hc.2
theorem g1 {b : Nat} (h : Sx l p (b :: c :: s)) (hb : b = 32 ∨ b = 10) (hc : 37 < c ∧ c ≠ 47) : Gap l p ((p + 1 : Nat) : Int) := .blank h.at.1 (by unfold layout; lia) (g0 h.at.2 hc)
theorem steps_a (hr : RestQ s) (h : Sx l p (97 :: 46 :: s)) (G : Gap l a p) : StepsQ l o a ((p + 2 : Nat) : Int) [tk (Str.ofString "name") (Str.ofString "a") p, tk (Str.ofString "end") (Str.ofString ".") ((p + 1 : Nat) : Int)] := by
  have h1 := h.at.2
  exact .mk _ _ _ _ _ _ (.old (name_step1 (by decide) (by unfold alnum; lia) h G)) (.more (by decide) (by decide) (.old (end_stepQ hr h1 (g0 h1 (by decide)))) (.stop (.inl rfl))) (Nat.le_of_ble_eq_true rfl) rfl rfl
theorem steps_q (hr : RestQ s) (h : Sx l p (39 :: 46 :: 39 :: 46 :: s)) (G : Gap l a p) : StepsQ l o a ((p + 4 : Nat) : Int) [tk (Str.ofString "qname") (Str.ofString ".") p, tk (Str.ofString "end") (Str.ofString ".") ((p + 3 : Nat) : Int)] := by
  have h1 := h.at.2
  have h2 := h1.at.2
  have h3 := h2.at.2
  have hl := cAt_lt (by lia) h3.at.1 (by decide)
  exact .mk _ _ _ _ _ _ (.qdot G h.at.1 h1.at.1 h2.at.1 h3.at.1 (by decide) (by lia)) (.more (by decide) (by decide) (.old (end_stepQ hr h3 (g0 h3 (by decide)))) (.stop (.inl rfl))) (Nat.le_of_ble_eq_true rfl) rfl rfl
theorem steps_round (hr : RestQ s) (h : Sx l p (40 :: 98 :: 41 :: 46 :: s)) (G : Gap l a p) (hap : a ≤ p) : ∃ kd, (kd = Str.ofString "open" ∨ kd = Str.ofString "open_ct") ∧ StepsQ l o a ((p + 4 : Nat) : Int) [tk kd (Str.ofString "(") p, tk (Str.ofString "name") (Str.ofString "b") ((p + 1 : Nat) : Int), tk (Str.ofString "punct") (Str.ofString ")") ((p + 2 : Nat) : Int), tk (Str.ofString "end") (Str.ofString ".") ((p + 3 : Nat) : Int)] := by
  have h1 := h.at.2
  have h2 := h1.at.2
  have h3 := h2.at.2
  have fin : ∀ kd, (kd = Str.ofString "open" ∨ kd = Str.ofString "open_ct") → NStep l o a (tk kd (Str.ofString "(") p) ((p + 1 : Nat) : Int) → StepsQ l o a ((p + 4 : Nat) : Int) [tk kd (Str.ofString "(") p, tk (Str.ofString "name") (Str.ofString "b") ((p + 1 : Nat) : Int), tk (Str.ofString "punct") (Str.ofString ")") ((p + 2 : Nat) : Int), tk (Str.ofString "end") (Str.ofString ".") ((p + 3 : Nat) : Int)] := fun kd hk t =>
    .mk _ _ _ _ _ _ (.old t) (.more (by rcases hk with rfl | rfl <;> decide) (by rcases hk with rfl | rfl <;> decide) (.old (name_step1 (by decide) (by unfold alnum; lia) h1 (g0 h1 (by decide)))) (.more (by decide) (by decide) (.old (punct_stepQ (by unfold punc; lia) h2 (g0 h2 (by decide)))) (.more (by decide) (by decide) (.old (end_stepQ hr h3 (g0 h3 (by decide)))) (.stop (.inl rfl))))) (Nat.le_of_ble_eq_true rfl) rfl rfl
  by_cases ho : (p : Int) > a ∨ (p : Int) = o
  · exact ⟨_, .inl rfl, fin _ (.inl rfl) (NStep.open G h.at.1 ho)⟩
  · have e : a = p := by lia
    subst e
    exact ⟨_, .inr rfl, fin _ (.inr rfl) (ct_step h (by lia))⟩
theorem steps_ab (hr : RestQ s) (h : Sx l p (97 :: 32 :: 98 :: 46 :: s)) (G : Gap l a p) : StepsQ l o a ((p + 4 : Nat) : Int) [tk (Str.ofString "name") (Str.ofString "a") p, tk (Str.ofString "name") (Str.ofString "b") ((p + 2 : Nat) : Int), tk (Str.ofString "end") (Str.ofString ".") ((p + 3 : Nat) : Int)] := by
  have h1 := h.at.2
  have h2 := h1.at.2
  have h3 := h2.at.2
  exact .mk _ _ _ _ _ _ (.old (name_step1 (by decide) (by unfold alnum; lia) h G)) (.more (by decide) (by decide) (.old (name_step1 (by decide) (by unfold alnum; lia) h2 (g1 h1 (.inl rfl) (by decide)))) (.more (by decide) (by decide) (.old (end_stepQ hr h3 (g0 h3 (by decide)))) (.stop (.inl rfl)))) (Nat.le_of_ble_eq_true rfl) rfl rfl
theorem steps_sq (hr : RestQ s) (h : Sx l p (102 :: 40 :: 97 :: 93 :: 46 :: s)) (G : Gap l a p) (ho : o ≤ p) : StepsQ l o a ((p + 5 : Nat) : Int) [tk (Str.ofString "name") (Str.ofString "f") p, tk (Str.ofString "open_ct") (Str.ofString "(") ((p + 1 : Nat) : Int), tk (Str.ofString "name") (Str.ofString "a") ((p + 2 : Nat) : Int), tk (Str.ofString "punct") (Str.ofString "]") ((p + 3 : Nat) : Int), tk (Str.ofString "end") (Str.ofString ".") ((p + 4 : Nat) : Int)] := by
  have h1 := h.at.2
  have h2 := h1.at.2
  have h3 := h2.at.2
  have h4 := h3.at.2
  exact .mk _ _ _ _ _ _ (.old (name_step1 (by decide) (by unfold alnum; lia) h G)) (.more (by decide) (by decide) (.old (ct_step h1 (by lia))) (.more (by decide) (by decide) (.old (name_step1 (by decide) (by unfold alnum; lia) h2 (g0 h2 (by decide)))) (.more (by decide) (by decide) (.old (punct_stepQ (by unfold punc; lia) h3 (g0 h3 (by decide)))) (.more (by decide) (by decide) (.old (end_stepQ hr h4 (g0 h4 (by decide)))) (.stop (.inl rfl)))))) (Nat.le_of_ble_eq_true rfl) rfl rfl
theorem steps_tok (hr : RestQ s) (h : Sx l p (102 :: 40 :: 97 :: 10 :: 44 :: 32 :: 41 :: 32 :: 46 :: s)) (G : Gap l a p) (ho : o ≤ p) : StepsQ l o a ((p + 9 : Nat) : Int) [tk (Str.ofString "name") (Str.ofString "f") p, tk (Str.ofString "open_ct") (Str.ofString "(") ((p + 1 : Nat) : Int), tk (Str.ofString "name") (Str.ofString "a") ((p + 2 : Nat) : Int), tk (Str.ofString "punct") (Str.ofString ",") ((p + 4 : Nat) : Int), tk (Str.ofString "punct") (Str.ofString ")") ((p + 6 : Nat) : Int), tk (Str.ofString "end") (Str.ofString ".") ((p + 8 : Nat) : Int)] := by
  have h1 := h.at.2
  have h2 := h1.at.2
  have h3 := h2.at.2
  have h4 := h3.at.2
  have h5 := h4.at.2
  have h6 := h5.at.2
  have h7 := h6.at.2
  have h8 := h7.at.2
  exact .mk _ _ _ _ _ _ (.old (name_step1 (by decide) (by unfold alnum; lia) h G)) (.more (by decide) (by decide) (.old (ct_step h1 (by lia))) (.more (by decide) (by decide) (.old (name_step1 (by decide) (by unfold alnum; lia) h2 (g0 h2 (by decide)))) (.more (by decide) (by decide) (.old (punct_stepQ (by unfold punc; lia) h4 (g1 h3 (.inr rfl) (by decide)))) (.more (by decide) (by decide) (.old (punct_stepQ (by unfold punc; lia) h6 (g1 h5 (.inl rfl) (by decide)))) (.more (by decide) (by decide) (.old (end_stepQ hr h8 (g1 h7 (.inl rfl) (by decide)))) (.stop (.inl rfl))))))) (Nat.le_of_ble_eq_true rfl) rfl rfl
theorem steps_args (hr : RestQ s) (h : Sx l p (102 :: 40 :: 88 :: 44 :: 98 :: 41 :: 46 :: s)) (G : Gap l a p) (ho : o ≤ p) : StepsQ l o a ((p + 7 : Nat) : Int) [tk (Str.ofString "name") (Str.ofString "f") p, tk (Str.ofString "open_ct") (Str.ofString "(") ((p + 1 : Nat) : Int), tk (Str.ofString "var") (Str.ofString "X") ((p + 2 : Nat) : Int), tk (Str.ofString "punct") (Str.ofString ",") ((p + 3 : Nat) : Int), tk (Str.ofString "name") (Str.ofString "b") ((p + 4 : Nat) : Int), tk (Str.ofString "punct") (Str.ofString ")") ((p + 5 : Nat) : Int), tk (Str.ofString "end") (Str.ofString ".") ((p + 6 : Nat) : Int)] := by
  have h1 := h.at.2
  have h2 := h1.at.2
  have h3 := h2.at.2
  have h4 := h3.at.2
  have h5 := h4.at.2
  have h6 := h5.at.2
  exact .mk _ _ _ _ _ _ (.old (name_step1 (by decide) (by unfold alnum; lia) h G)) (.more (by decide) (by decide) (.old (ct_step h1 (by lia))) (.more (by decide) (by decide) (.old (var_step1 (by decide) (by unfold alnum; lia) h2 (g0 h2 (by decide)))) (.more (by decide) (by decide) (.old (punct_stepQ (by unfold punc; lia) h3 (g0 h3 (by decide)))) (.more (by decide) (by decide) (.old (name_step1 (by decide) (by unfold alnum; lia) h4 (g0 h4 (by decide)))) (.more (by decide) (by decide) (.old (punct_stepQ (by unfold punc; lia) h5 (g0 h5 (by decide)))) (.more (by decide) (by decide) (.old (end_stepQ hr h6 (g0 h6 (by decide)))) (.stop (.inl rfl)))))))) (Nat.le_of_ble_eq_true rfl) rfl rfl
end
end
end

section
section
noncomputable def spC : Nat → List Nat
  | 0 => [97, 46]
  | 1 => [102, 40, 88, 44, 98, 41, 46]
  | 2 => [40, 98, 41, 46]
  | 3 => [97, 32, 98, 46]
  | 4 => [102, 40, 97, 93, 46]
  | 5 => [102, 40, 97, 10, 44, 32, 41, 32, 46]
  | 6 => [39, 97, 92, 113, 39, 46]
  | _ => [39, 46, 39, 46]
noncomputable def seC : Nat → List Nat
  | 0 => [10]
  | 1 => [32]
  | 2 => [10, 37, 32, 97, 46, 10]
  | _ => [32, 47, 42, 32, 46, 32, 42, 47, 10, 32]
noncomputable def kdC : Nat → Str
  | 3 => Str.ofString "end_expected"
  | 4 => Str.ofString "unbalanced"
  | 5 => Str.ofString "unexpected_token"
  | 6 => Str.ofString "bad_escape"
  | _ => Str.ofString ""
noncomputable def inC : Nat → Nat
  | 3 => 2
  | 4 => 3
  | 5 => 6
  | 6 => 2
  | _ => 0
noncomputable def termC (ts : List Str) (fs : List (List Int)) : Nat → AV
  | 0 => aT (posA ts (Str.ofString "a") : Nat)
  | 1 => .tup [.str (Str.ofString "s"), .int (posA fs [((posA ts (Str.ofString "f") : Nat) : Int), 2] : Nat), .tup [vT 0, aT (posA ts (Str.ofString "b") : Nat)]]
  | 2 => aT (posA ts (Str.ofString "b") : Nat)
  | 3 => .none
  | 4 => .none
  | 5 => .none
  | 6 => .none
  | _ => aT (posA ts (Str.ofString ".") : Nat)
@[elab_as_elim] theorem eight {P : Nat → Prop} {r : Nat} (h : r < 8) (h0 : P 0) (h1 : P 1) (h2 : P 2) (h3 : P 3) (h4 : P 4) (h5 : P 5) (h6 : P 6) (h7 : P 7) : P r :=
  match r, h with
  | 0, _ => h0
  | 1, _ => h1
  | 2, _ => h2
  | 3, _ => h3
  | 4, _ => h4
  | 5, _ => h5
  | 6, _ => h6
  | 7, _ => h7
theorem se_gap {l rest : List Nat} {p : Nat} (s : Nat) (h : Sx l p (seC s ++ rest)) (hr : rest = [] ∨ ∃ c r, rest = c :: r ∧ 37 < c ∧ c ≠ 47) : Gap l p ((p + (seC s).length : Nat) : Int) := by
  have fin : ∀ q : Nat, Sx l q rest → Gap l q q := fun q hq => by
    rcases hr with rfl | ⟨c, r, rfl, h1, h2⟩
    · exact .stop hq.end.1 (by unfold layout; lia) (by decide) (by decide)
    · exact g0 hq ⟨h1, h2⟩
  match s with
  | 0 => exact .blank h.at.1 (by unfold layout; lia) (fin _ h.at.2)
  | 1 => exact .blank h.at.1 (by unfold layout; lia) (fin _ h.at.2)
  | 2 =>
    have h1 := h.at.2
    have h2 := h1.at.2
    have h3 := h2.at.2
    have h4 := h3.at.2
    have h5 := h4.at.2
    exact .blank h.at.1 (by unfold layout; lia) (.row h1.at.1 (.step h1.at.1 (by decide) (by decide) (.step h2.at.1 (by decide) (by decide) (.step h3.at.1 (by decide) (by decide) (.step h4.at.1 (by decide) (by decide) (.stop h5.at.1 (.inr rfl)))))) (.blank h5.at.1 (by unfold layout; lia) (fin _ h5.at.2)))
  | n + 3 =>
    have h1 := h.at.2
    have h2 := h1.at.2
    have h3 := h2.at.2
    have h4 := h3.at.2
    have h5 := h4.at.2
    have h6 := h5.at.2
    have h7 := h6.at.2
    have h8 := h7.at.2
    have h9 := h8.at.2
    exact .blank h.at.1 (by unfold layout; lia) (.rem h1.at.1 h2.at.1 (.step h3.at.1 (by decide) h4.at.1 (.inl (by decide)) (.step h4.at.1 (by decide) h5.at.1 (.inl (by decide)) (.step h5.at.1 (by decide) h6.at.1 (.inl (by decide)) (.stop h6.at.1 h7.at.1)))) (.blank h8.at.1 (by unfold layout; lia) (.blank h9.at.1 (by unfold layout; lia) (fin _ h9.at.2))))
structure FF (ts : List Str) (fs : List (List Int)) (xp xi : List (Int × AV)) : Prop where
  a : PlainA ts xp xi (Str.ofString "a")
  b : PlainA ts xp xi (Str.ofString "b")
  d : PlainA ts xp xi (Str.ofString ".")
  f : Str.ofString "f" ∈ ts
  u : [((posA ts (Str.ofString "f") : Nat) : Int), 2] ∈ fs
  e : getA xi 7 = some (.tup [.int 1000, .str (Str.ofString "xfy")])
section
variable {g : Gd Mine.hp.heap_1}
theorem read_row {H : AH} {A : RA} {l s : List Nat} {ts : List Str} {fs : List (List Int)} {xp xi : List (Int × AV)} {xv : List (Str × AV)} {i a o : Int} {p r : Nat} {k x : AV → AH → Prop} (hr8 : r < 8) (Z : RH H A l ts fs xp xi xv) (W : RS H A i a o) (Y : RM l ts fs xv) (X : FF ts fs xp xi)
    (h0 : 0 ≤ a) (hap : a ≤ p) (ho : o ≤ p) (h : Sx l p (spC r ++ s)) (hs : RestQ s) (G : Gap l a p)
    (hk : kdC r = Str.ofString "" → ∀ nm sg H', KeepL [A.t, A.r] H H' → RS H' A ((p + (spC r).length : Nat) : Int) ((p + (spC r).length : Nat) : Int) o → k (.tup [termC ts fs r, .ref nm, .ref sg]) H')
    (hx : kdC r ≠ Str.ofString "" → ∀ f H', Fl 51 (KxA H A ((p + (spC r).length : Nat) : Int) o (kdC r) (p + inC r) l) (.ref f) H' → x (.ref f) H') : Cal g 11 true 822 [.ref A.r] H k x := by
  have z1 := Y.z1
  have z2 := Y.z2
  have hlen : p + (spC r ++ s).length = l.length := by
    have h1 := congrArg List.length h
    rw [List.length_drop] at h1
    have : 0 < (spC r).length := eight (P := fun r => 0 < (spC r).length) hr8 (by decide) (by decide) (by decide) (by decide) (by decide) (by decide) (by decide) (by decide)
    rw [List.length_append] at h1 ⊢
    lia
  have ha : a ≤ l.length := by lia
  revert hk hx h hlen
  refine eight (P := fun r => Sx l p (spC r ++ s) → (kdC r = Str.ofString "" → ∀ nm sg H', KeepL [A.t, A.r] H H' → RS H' A ((p + (spC r).length : Nat) : Int) ((p + (spC r).length : Nat) : Int) o → k (.tup [termC ts fs r, .ref nm, .ref sg]) H') → (kdC r ≠ Str.ofString "" → ∀ f H', Fl 51 (KxA H A ((p + (spC r).length : Nat) : Int) o (kdC r) (p + inC r) l) (.ref f) H' → x (.ref f) H') → p + (spC r ++ s).length = l.length → Cal g 11 true 822 [.ref A.r] H k x) hr8 ?_ ?_ ?_ ?_ ?_ ?_ ?_ ?_
  · intro h hk hx hlen
    obtain ⟨tok, b, tts, last, ul, pl, N, G1, e1, e2, e3⟩ := steps_a (o := o) hs h G
    exact read_clauseQ Z W Y h0 ha N G1 e1 e2 e3 (fun a H3 _ _ M T O hh => row_plain (.inl rfl) X.a (by lia) M T O hh) (hk rfl)
  · intro h hk hx hlen
    obtain ⟨tok, b, tts, last, ul, pl, N, G1, e1, e2, e3⟩ := steps_args (o := o) hs h G ho
    exact read_clauseQ Z W Y h0 ha N G1 e1 e2 e3 (fun a H3 _ _ M T O hh => row_args (v' := Str.ofString "X") X.f X.b (by lia) (by lia) (by decide) (by decide) X.u X.e M T O hh) (hk rfl)
  · intro h hk hx hlen
    obtain ⟨kd, hkd, tok, b, tts, last, ul, pl, N, G1, e1, e2, e3⟩ := steps_round (o := o) hs h G hap
    exact read_clauseQ Z W Y h0 ha N G1 e1 e2 e3 (fun a H3 _ _ M T O hh => row_round hkd X.b (by lia) M T O hh) (hk rfl)
  · intro h hk hx hlen
    obtain ⟨tok, b, tts, last, ul, pl, N, G1, e1, e2, e3⟩ := steps_ab (o := o) hs h G
    exact read_clauseX (j := p + 2) Z W Y h0 ha N G1 e1 e2 e3 (by simp [spC] at hlen; lia) (fun a H3 _ _ M T O hh => row_ab X.a X.b (by lia) M T O hh) (hx (by decide))
  · intro h hk hx hlen
    obtain ⟨tok, b, tts, last, ul, pl, N, G1, e1, e2, e3⟩ := steps_sq (o := o) hs h G ho
    exact read_clauseX (j := p + 3) Z W Y h0 ha N G1 e1 e2 e3 (by simp [spC] at hlen; lia) (fun a H3 _ _ M T O hh => row_sq X.f X.a (by lia) M T O hh) (hx (by decide))
  · intro h hk hx hlen
    obtain ⟨tok, b, tts, last, ul, pl, N, G1, e1, e2, e3⟩ := steps_tok (o := o) hs h G ho
    exact read_clauseX (j := p + 6) Z W Y h0 ha N G1 e1 e2 e3 (by simp [spC] at hlen; lia) (fun a H3 _ _ M T O hh => row_tok X.f X.a (by lia) X.e M T O hh) (hx (by decide))
  · intro h hk hx hlen
    have h' : Sx l p (39 :: 97 :: 92 :: 113 :: 39 :: 46 :: s) := h
    have h1 := h'.at.2
    have h2 := h1.at.2
    have h3 := h2.at.2
    have h4 := h3.at.2
    have h5 := h4.at.2
    obtain ⟨v, e1, e2⟩ := RestQ.at hs h5.at.2
    exact read_bad Z W Y h0 ha G h'.at.1 h1.at.1 h2.at.1 h3.at.1 h4.at.1 h5.at.1 (by decide) (by simp [spC] at hlen; lia) (g0 h5 (by decide)) h5.at.1 e1 e2 (hx (by decide))
  · intro h hk hx hlen
    obtain ⟨tok, b, tts, last, ul, pl, N, G1, e1, e2, e3⟩ := steps_q (o := o) hs h G
    exact read_clauseQ Z W Y h0 ha N G1 e1 e2 e3 (fun a H3 _ _ M T O hh => row_plain (.inr rfl) X.d (by lia) M T O hh) (hk rfl)
end
end
end

section
section
noncomputable def lawBody : List Stmt := match PySem.Challenge.rw_rr0038_02.prog.main.body.getLast? with
  | some (.FunctionDef _ _ b _ _ _ _ _ _ _) => b
  | _ => []
noncomputable def lawScope : Scope := match PySem.Challenge.rw_rr0038_02.prog.main.body.getLast? with
  | some (.FunctionDef _ _ _ _ _ _ s _ _ _) => s
  | _ => { kind := .function, names := [], isGenerator := false, isCoroutine := false, more := [] }
noncomputable abbrev lawEnv (L f : Addr) (cd : Value) : Env := envOfC (Str.ofString "law") lawScope L f cd
theorem law_cells (L f : Addr) (cd : Value) : (lawEnv L f cd).cells = [(Str.ofString "book", L + 1)] := by k_extra "eq"
theorem look_book1 (a : Addr) : List.lookup (Str.ofString "book") [(Str.ofString "book", a)] = some a := by k_extra "eq"
section
variable {L f : Addr} {cd : Value}
theorem law_book : (lawEnv L f cd).cells.lookup (Str.ofString "book") = some (L + 1) := by rw [law_cells]; exact look_book1 _
theorem kind_book : (lawEnv L f cd).kindOf (Str.ofString "book") = some .cell := by k_extra "eq"
theorem law_func : (lawEnv L f cd).func ≠ none := by intro h; cases h
theorem st_book {A : Around} : Stores ⟨A, lawEnv L f cd⟩ (Str.ofString "book") := ⟨by k_extra "eq", .inr ⟨_, law_book, kind_book, law_func⟩⟩
end
noncomputable def okLaw (y : Str) : Bool := decide (lawScope.kind = .function) && decide (lawScope.names.lookup y = some .local) && !(y == ("__debug__" : Str)) && !(y == Str.ofString "book")
theorem Ev.localV {KF : Params → Frag} {g : Gd KF} {A : Around} {L f0 : Addr} {cd : Value} {ρ : Loc} {H : AH} {k x : AV → Loc → AH → Prop} {y : Str} {pos : Pos} {v : AV} (hv : ρ y = some v) (hs : okLaw y = true) (h : k v ρ H) : Ev g ⟨A, lawEnv L f0 cd⟩ (.Name y pos) ρ H k x := by
  unfold okLaw at hs
  rw [Bool.and_eq_true, Bool.and_eq_true, Bool.and_eq_true, decide_eq_true_eq, decide_eq_true_eq, Bool.not_eq_true', Bool.not_eq_true'] at hs
  exact Ev.local hv h (by show (lawEnv L f0 cd).cells.lookup y = none; rw [law_cells, List.lookup, hs.2]; rfl) hs.1.1.1 hs.1.1.2 hs.1.2
theorem same4 {H : AH} {u : Str} {a b b' c c' : Int} (h1 : b = b') (h2 : c = c') : Same H (0 + 1) (.tup [.str u, .int a, .int b, .int c]) (.tup [.str u, .int a, .int b', .int c']) := by
  subst h1 h2
  refine .tup rfl fun i d e h1 h2 => ?_
  match i with
  | 0 => cases h1; cases h2; exact .str _ _
  | 1 => cases h1; cases h2; exact .int _ _
  | 2 => cases h1; cases h2; exact .int _ _
  | 3 => cases h1; cases h2; exact .int _ _
  | i + 4 => cases h1
noncomputable def flatC : List (Nat × Nat) → List Nat
  | [] => []
  | q :: cs => spC q.1 ++ (seC q.2 ++ flatC cs)
noncomputable def dueA (ts : List Str) (fs : List (List Int)) (p : Nat) (q : Nat × Nat) : AV := .tup [termC ts fs q.1, .str (kdC q.1), .int ((p + inC q.1 : Nat) : Int), .int ((p + (spC q.1).length : Nat) : Int)]
noncomputable def dueL (ts : List Str) (fs : List (List Int)) : Nat → List (Nat × Nat) → List AV
  | _, [] => []
  | p, q :: cs => dueA ts fs p q :: dueL ts fs (p + (spC q.1).length + (seC q.2).length) cs
noncomputable def begL : Nat → List (Nat × Nat) → List AV
  | _, [] => []
  | p, q :: cs => .int (p : Int) :: begL (p + (spC q.1).length + (seC q.2).length) cs
theorem flat_app : ∀ (cs es : List (Nat × Nat)), flatC (cs ++ es) = flatC cs ++ flatC es
  | [], es => rfl
  | q :: cs, es => by
    show spC q.1 ++ (seC q.2 ++ flatC (cs ++ es)) = (spC q.1 ++ (seC q.2 ++ flatC cs)) ++ flatC es
    rw [flat_app cs es, List.append_assoc, List.append_assoc]
theorem due_app (ts : List Str) (fs : List (List Int)) : ∀ (cs es : List (Nat × Nat)) (p : Nat), dueL ts fs p (cs ++ es) = dueL ts fs p cs ++ dueL ts fs (p + (flatC cs).length) es
  | [], es, p => rfl
  | q :: cs, es, p => by
    show dueA ts fs p q :: dueL ts fs _ (cs ++ es) = dueA ts fs p q :: (dueL ts fs _ cs ++ dueL ts fs (p + (spC q.1 ++ (seC q.2 ++ flatC cs)).length) es)
    rw [due_app ts fs cs es, List.length_append, List.length_append]
    rw [show p + (spC q.1).length + (seC q.2).length + (flatC cs).length = p + ((spC q.1).length + ((seC q.2).length + (flatC cs).length)) by lia]
theorem beg_app : ∀ (cs es : List (Nat × Nat)) (p : Nat), begL p (cs ++ es) = begL p cs ++ begL (p + (flatC cs).length) es
  | [], es, p => rfl
  | q :: cs, es, p => by
    show AV.int (p : Int) :: begL _ (cs ++ es) = AV.int (p : Int) :: (begL _ cs ++ begL (p + (spC q.1 ++ (seC q.2 ++ flatC cs)).length) es)
    rw [beg_app cs es, List.length_append, List.length_append]
    rw [show p + (spC q.1).length + (seC q.2).length + (flatC cs).length = p + ((spC q.1).length + ((seC q.2).length + (flatC cs).length)) by lia]
theorem due_len (ts : List Str) (fs : List (List Int)) : ∀ (cs : List (Nat × Nat)) (p : Nat), (dueL ts fs p cs).length = cs.length
  | [], p => rfl
  | q :: cs, p => congrArg (· + 1) (due_len ts fs cs _)
theorem beg_len : ∀ (cs : List (Nat × Nat)) (p : Nat), (begL p cs).length = cs.length
  | [], p => rfl
  | q :: cs, p => congrArg (· + 1) (beg_len cs _)
theorem due_drop (ts : List Str) (fs : List (List Int)) (cs : List (Nat × Nat)) (j : Nat) : (dueL ts fs 0 cs).drop j = dueL ts fs (flatC (cs.take j)).length (cs.drop j) := by
  by_cases h : j ≤ cs.length
  · have e := due_app ts fs (cs.take j) (cs.drop j) 0
    rw [List.take_append_drop, Nat.zero_add] at e
    rw [e, List.drop_append_of_le_length (by rw [due_len, List.length_take]; lia), List.drop_of_length_le (by rw [due_len, List.length_take]; lia), List.nil_append]
  · rw [List.drop_of_length_le (by rw [due_len]; lia), List.drop_of_length_le (l := cs) (by lia)]
    rfl
theorem beg_at (cs : List (Nat × Nat)) (j : Nat) (h : j ≤ cs.length) : (begL 0 cs ++ [.int ((flatC cs).length : Int)])[j]? = some (.int ((flatC (cs.take j)).length : Int)) := by
  by_cases h' : j < cs.length
  · have e := beg_app (cs.take j) (cs.drop j) 0
    rw [List.take_append_drop, Nat.zero_add] at e
    rw [e, List.append_assoc, List.getElem?_append_right (by rw [beg_len, List.length_take]; lia), beg_len, List.length_take, show j - min j cs.length = 0 by lia]
    rw [List.drop_eq_getElem_cons h']
    rfl
  · have hj : j = cs.length := by lia
    subst hj
    rw [List.getElem?_append_right (by rw [beg_len]; lia), beg_len, Nat.sub_self, List.take_length]
    rfl
theorem flat_at (cs : List (Nat × Nat)) (j : Nat) : Sx (flatC cs) (flatC (cs.take j)).length (flatC (cs.drop j)) := by
  show (flatC cs).drop _ = _
  have e := flat_app (cs.take j) (cs.drop j)
  rw [List.take_append_drop] at e
  rw [e, List.drop_left]
theorem sp_head {r : Nat} (h : r < 8) : ∃ c w, spC r = c :: w ∧ 37 < c ∧ c ≠ 47 :=
  eight (P := fun r => ∃ c w, spC r = c :: w ∧ 37 < c ∧ c ≠ 47) h ⟨_, _, rfl, by decide⟩ ⟨_, _, rfl, by decide⟩ ⟨_, _, rfl, by decide⟩ ⟨_, _, rfl, by decide⟩ ⟨_, _, rfl, by decide⟩ ⟨_, _, rfl, by decide⟩ ⟨_, _, rfl, by decide⟩ ⟨_, _, rfl, by decide⟩
theorem se_rest (s : Nat) (rest : List Nat) : RestQ (seC s ++ rest) := by
  match s with
  | 0 => exact .inr ⟨_, _, rfl, by unfold layout; lia⟩
  | 1 => exact .inr ⟨_, _, rfl, by unfold layout; lia⟩
  | 2 => exact .inr ⟨_, _, rfl, by unfold layout; lia⟩
  | n + 3 => exact .inr ⟨_, _, rfl, by unfold layout; lia⟩
theorem flat_head {cs : List (Nat × Nat)} (h : ∀ q ∈ cs, q.1 < 8 ∧ q.2 < 4) : flatC cs = [] ∨ ∃ c r, flatC cs = c :: r ∧ 37 < c ∧ c ≠ 47 := by
  cases cs with
  | nil => exact .inl rfl
  | cons q cs =>
    obtain ⟨c, w, e, h1⟩ := sp_head (h q (.head _)).1
    exact .inr ⟨c, w ++ (seC q.2 ++ flatC cs), by show spC q.1 ++ _ = _; rw [e]; rfl, h1⟩
theorem gap_here {l : List Nat} {p : Nat} {cs : List (Nat × Nat)} (h : ∀ q ∈ cs, q.1 < 8 ∧ q.2 < 4) (hS : Sx l p (flatC cs)) : Gap l p p := by
  rcases flat_head h with e | ⟨c, r, e, h1⟩
  · rw [e] at hS; exact .stop hS.end.1 (by unfold layout; lia) (by decide) (by decide)
  · rw [e] at hS; exact g0 hS h1
theorem sp_small {r : Nat} (h : r < 8) : (spC r).length ≤ 9 ∧ ∀ c ∈ spC r, c < 128 :=
  eight (P := fun r => (spC r).length ≤ 9 ∧ ∀ c ∈ spC r, c < 128) h (by decide) (by decide) (by decide) (by decide) (by decide) (by decide) (by decide) (by decide)
theorem se_small : ∀ (s : Nat), (seC s).length ≤ 10 ∧ ∀ c ∈ seC s, c < 128
  | 0 => by decide
  | 1 => by decide
  | 2 => by decide
  | n + 3 => show (seC 3).length ≤ 10 ∧ ∀ c ∈ seC 3, c < 128 by decide
theorem flat_small : ∀ (cs : List (Nat × Nat)), (∀ q ∈ cs, q.1 < 8 ∧ q.2 < 4) → (flatC cs).length ≤ 19 * cs.length ∧ ∀ c ∈ flatC cs, c < 128
  | [], _ => ⟨Nat.le_refl _, fun c h => nomatch h⟩
  | q :: cs, hq => by
    have h1 := sp_small (hq q (.head _)).1
    have h2 := se_small q.2
    have h3 := flat_small cs fun x hx => hq x (.tail _ hx)
    have e : flatC (q :: cs) = spC q.1 ++ (seC q.2 ++ flatC cs) := rfl
    refine ⟨?_, fun c hc => ?_⟩
    · rw [e, List.length_append, List.length_append, List.length_cons]; lia
    · rw [e] at hc
      rcases List.mem_append.mp hc with hc | hc
      · exact h1.2 c hc
      · rcases List.mem_append.mp hc with hc | hc
        · exact h2.2 c hc
        · exact h3.2 c hc
inductive Flat : Nat → AV → Prop
  | int (n : Nat) (i : Int) : Flat n (.int i)
  | str (n : Nat) (u : Str) : Flat n (.str u)
  | tup {n : Nat} {ds : List AV} : (∀ d ∈ ds, Flat n d) → Flat (n + 1) (.tup ds)
theorem Flat.same {H : AH} {n : Nat} {d : AV} (z : Flat n d) : Same H n d d := by
  induction z with
  | int n i => exact .int n i
  | str n u => exact .str n u
  | tup h ih => exact .tup rfl fun i d e h1 h2 => Option.some.inj (h1.symm.trans h2) ▸ ih d (List.mem_of_getElem? h1)
theorem Flat.two {n : Nat} {a b : AV} (ha : Flat n a) (hb : Flat n b) : Flat (n + 1) (.tup [a, b]) := .tup fun d hd => by
  rcases List.mem_cons.mp hd with rfl | hd
  · exact ha
  · exact List.mem_singleton.mp hd ▸ hb
theorem term_flat (ts : List Str) (fs : List (List Int)) {r : Nat} (h : r < 8) (hk : kdC r = Str.ofString "") : ∃ ds, termC ts fs r = .tup ds ∧ ∀ H, Same H (3 + 1) (.tup ds) (.tup ds) := by
  have at' : ∀ (n : Nat) (i : Int), Flat (n + 1) (aT i) := fun n i => .two (.str _ _) (.int _ _)
  revert hk
  refine eight (P := fun r => kdC r = Str.ofString "" → ∃ ds, termC ts fs r = .tup ds ∧ ∀ H, Same H (3 + 1) (.tup ds) (.tup ds)) h (fun _ => ⟨_, rfl, fun H => (at' _ _).same⟩) (fun _ => ⟨_, rfl, fun H => Flat.same (.tup fun d hd => ?_)⟩) (fun _ => ⟨_, rfl, fun H => (at' _ _).same⟩) (fun hk => absurd hk (by decide)) (fun hk => absurd hk (by decide)) (fun hk => absurd hk (by decide)) (fun hk => absurd hk (by decide)) (fun _ => ⟨_, rfl, fun H => (at' _ _).same⟩)
  rcases List.mem_cons.mp hd with rfl | hd
  · exact .str _ _
  · rcases List.mem_cons.mp hd with rfl | hd
    · exact .int _ _
    · exact List.mem_singleton.mp hd ▸ .two (.two (.str _ _) (.int _ _)) (at' _ _)
end
end

section
section
variable {g : Gd Mine.hp.heap_1}


theorem w52a : True := by
  (k_with "w52a" =>
    first
      | (first
          | ((with_reducible show Tri _ _ _ (eval (Expr.Name ..) _) _ _ _ _); refine Ev.localV (by k_extra "name") (by k_extra "eq") ?_))
      | k_extra "step")
  trivial

theorem w52t : True := by
  (k_with "types" =>
    with_reducible assumption)
  trivial
section
variable {A : Around} {L f : Addr} {cd : Value} {ρ : Loc} {H : AH} {R : RA} {l : List Nat} {ts : List Str} {fs : List (List Int)} {xp xi : List (Int × AV)} {xv : List (Str × AV)}
theorem law_N {p b o : Nat} (ok : Ok 14 true A) (Z : RH H R l ts fs xp xi xv) (W : RS H R b b o) (Y : RM l ts fs xv) (hb : b ≤ l.length) (hp : Sx l p []) (G : Gap l b p) (rr : ρ (Str.ofString "reader") = some (.ref R.r)) :
    Exs g ⟨A, lawEnv L f cd⟩ (lawBody.drop 13) ρ H (fun fl _ _ => fl = .ret (.bool true)) (fun _ _ _ => False) := by
  have e1 := hp.end
  have e2 : l.length ≤ p := by lia
  have hbl : (b : Int) ≤ l.length := by lia
  have hr := W.r
  refine Exs.cons ?_
  repeat' k_extra "w52a"
  refine Cal.at (readQ_eof Z W Y (Int.natCast_nonneg _) hbl (.old (.eof G e1.2)) ?_) (Ok.leB (by assumption) rfl)
  intro H1 kp1 W1
  have Z1 := Z.keep W kp1
  have hr1 := W1.r
  have G1 : Gap l (p : Int) (p : Int) := .stop e1.1 (by unfold layout; lia) (by decide) (by decide)
  have hle := G.le (Int.natCast_nonneg _) hbl
  repeat' k_extra "w52a"
  refine Cal.at (readQ_eof Z1 W1 Y (Int.natCast_nonneg _) hle.2 (.old (.eof G1 e1.2)) ?_) (Ok.leB (by assumption) rfl)
  intro H2 kp2 W2
  repeat' k_extra "w52a"
  rfl
theorem law_L {cs : List (Nat × Nat)} {all : List AV} {p0 j : Nat} {dl : Addr} (ok : Ok 14 true A) (hcs : ∀ q ∈ cs, q.1 < 8 ∧ q.2 < 4) (Z : RH H R l ts fs xp xi xv) (W : RS H R p0 p0 p0) (Y : RM l ts fs xv) (X : FF ts fs xp xi) (hS : Sx l p0 (flatC cs)) (hp0 : p0 ≤ l.length) (hl9 : l.length ≤ 5000)
    (rr : ρ (Str.ofString "reader") = some (.ref R.r)) (rw' : ρ (Str.ofString "wide") = some (.str (txt l))) (rd : ρ (Str.ofString "due") = some (.ref dl)) (rs : ρ (Str.ofString "start") = some (.int (j : Nat)))
    (hd : H dl = some (.list all)) (hz : all.length ≤ 1000) (he : all.drop j = dueL ts fs p0 cs) :
    Exs g ⟨A, lawEnv L f cd⟩ (lawBody.drop 12) ρ H (fun fl _ _ => fl = .ret (.bool true)) (fun _ _ _ => False) := by
  have hh : A.handled = none := ok.hand rfl
  have okm : ∀ f, Ok 14 false (A.mark (some (Value.ref f))) := fun f => ok.mark
  refine Exs.cons ?_
  repeat' k_extra "w52a"
  refine EvIt.val ?_
  repeat' k_extra "w52a"
  refine ⟨dl, all, dueL ts fs p0 cs, rfl, hd, by lia, by rw [← he]; exact pick_from, ?_⟩
  intro sl hsl
  repeat' k_extra "w52a"
  have nr := ne_fresh hsl W.r
  have nt := ne_fresh hsl W.t
  refine (?key : ∀ (es : List (Nat × Nat)) (p b : Nat) (H' : AH) (ρ' : Loc), (∀ q ∈ es, q.1 < 8 ∧ q.2 < 4) → Sx l p (flatC es) → Gap l b p → b ≤ p → b ≤ l.length → p0 ≤ p → RH H' R l ts fs xp xi xv → RS H' R b b p0 → H' sl = some (.list (dueL ts fs p0 cs)) → ρ' (Str.ofString "reader") = some (.ref R.r) → ρ' (Str.ofString "wide") = some (.str (txt l)) → ForL g _ _ _ _ _ (dueL ts fs p es) ρ' H') cs p0 p0 _ _ hcs hS (gap_here hcs hS) (Nat.le_refl _) hp0 (Nat.le_refl _) (Z.keep0 (Keep.new hsl)) (W.keep0 (Keep.new hsl)) (upd_same _ _ _) (by k_extra "name") (by k_extra "name")
  intro es
  induction es with
  | nil =>
    intro p b H' ρ' _ hS' G hb hbl hpp Z' W' hsl' r1 r2
    refine ForL.nil ?_
    refine then_next ?_
    exact law_N ok Z' W' Y hbl hS' G r1
  | cons q es ih =>
    intro p b H' ρ' hes hS' G hb hbl hpp Z' W' hsl' r1 r2
    obtain ⟨hq1, hq2⟩ := hes q (.head _)
    have hS1 : Sx l p (spC q.1 ++ (seC q.2 ++ flatC es)) := hS'
    have hS2 := hS1.app
    have hS3 := hS2.app
    have hl1 : p + (spC q.1).length + (seC q.2).length ≤ l.length := by
      have h1 := congrArg List.length hS1
      rw [List.length_drop, List.length_append, List.length_append] at h1
      obtain ⟨c, w, e, -⟩ := sp_head hq1
      have : 0 < (spC q.1).length := by rw [e]; simp
      lia
    have hG' : Gap l ((p + (spC q.1).length : Nat) : Int) ((p + (spC q.1).length + (seC q.2).length : Nat) : Int) := se_gap q.2 hS2 (flat_head fun x hx => hes x (.tail _ hx))
    have hin : inC q.1 ≤ (spC q.1).length := by
      have : ∀ r, r < 8 → inC r ≤ (spC r).length := by decide
      exact this _ hq1
    obtain ⟨init, last, f1, f2, f3, f4, f5⟩ := front_is (l := l) (i := p + inC q.1) (by lia)
    have hz3 := Y.z3
    have hlm : (init.map AV.str).length ≤ 1000000 := by rw [List.length_map]; lia
    have hll : last.length < 2 ^ 60 := by lia
    have hwl : (txt l).length = l.length := by show l.toArray.size = _; rw [List.size_toArray]
    refine ForL.cons ?_
    show As g _ _ (AV.tup [termC ts fs q.1, .str (kdC q.1), .int ((p + inC q.1 : Nat) : Int), .int ((p + (spC q.1).length : Nat) : Int)]) _ _ _
    have hs0 : (Txt.slice (txt l) none (some ((p + inC q.1 : Nat) : Int))).length ≤ 1000000 := Nat.le_trans (Txt.slice_le _ _ _) (by rw [hwl]; lia)
    have hs2 : (Builtin.Str.partsBetween (Txt.slice (txt l) none (some ((p + inC q.1 : Nat) : Int))) (Builtin.Str.occurrences (Txt.slice (txt l) none (some ((p + inC q.1 : Nat) : Int))) (Str.ofString "\n") 0 (Txt.slice (txt l) none (some ((p + inC q.1 : Nat) : Int))).length ((Txt.slice (txt l) none (some ((p + inC q.1 : Nat) : Int))).length + 1)) (Str.ofString "\n").length).length ≤ sizeLine := by
      rw [len_partsBetween, sizeLine_eq]
      have := StrLaws.occ_length_le (Txt.slice (txt l) none (some ((p + inC q.1 : Nat) : Int))) (Str.ofString "\n") 0 (Txt.slice (txt l) none (some ((p + inC q.1 : Nat) : Int))).length ((Txt.slice (txt l) none (some ((p + inC q.1 : Nat) : Int))).length + 1)
      lia
    repeat' (first | with_reducible refine Ev.sliceS ?_ | k_extra "w52a")
    refine ⟨_, _, rfl, rfl, by rw [hwl, sizeLine_eq]; lia, ?_⟩
    refine Meth.str (fun _ _ _ _ _ _ _ h => GM.split h) ?_
    repeat' k_extra "w52a"
    refine OpL.split rfl (by rw [sizeLine_eq]; lia) hs2 ?_
    intro fl hfl
    rw [f1, List.map_append]
    have kf : Keep H' (upd H' fl (.list (init.map AV.str ++ [last].map AV.str))) := Keep.new hfl
    have hfl' : upd H' fl (.list (init.map AV.str ++ [last].map AV.str)) fl = some (.list (init.map AV.str ++ [AV.str last])) := upd_same _ _ _
    revert kf hfl'
    generalize upd H' fl (.list (init.map AV.str ++ [last].map AV.str)) = Hf
    intro kf hfl'
    have Zf := Z'.keep0 kf
    have Wf := W'.keep0 kf
    have hsf := kf _ _ hsl'
    have hrf := Wf.r
    have htf := Wf.t
    have hln : (init.map AV.str ++ [AV.str last]).length = init.length + 1 := by simp
    repeat' (first | with_reducible refine Ex.tryAs faultK rfl (by k_extra "eq") (by k_extra "eq") (by k_extra "eq") ?ht ?bd | k_extra "w52a")
    case ht =>
      intro A' ρ' H' k' x' hk
      repeat' k_extra "w52a"
      exact hk
    refine Cal.at (read_row hq1 Zf Wf Y X (Int.natCast_nonneg _) (by lia) (by lia) hS1 (se_rest _ _) G ?qk ?qx) (Ok.leB (by assumption) rfl)
    case qk =>
      intro hk nm sg H2 kp2 W2
      obtain ⟨ds, ed, sm⟩ := term_flat ts fs hq1 hk
      have Z2 := Zf.keep Wf kp2
      have hr2 := W2.r
      have hs3 := kp2 _ _ (by k_extra "nes") hsf
      rw [ed, hk]
      repeat' k_extra "w52a"
      refine Op2.neT (sm _) (by have := ok.units; show A.units + 4 ≤ 9000; lia) ?_
      repeat' k_extra "w52a"
      exact turnF_next hs3 (ih _ _ _ _ (fun x hx => hes x (.tail _ hx)) hS3 hG' (by lia) (by lia) (by lia) Z2 W2 hs3 (by k_extra "name") (by k_extra "name"))
    case qx =>
      intro hk fa H2 w
      refine ⟨_, w, fun H3 w3 => ⟨fa, rfl, ?_⟩⟩
      obtain ⟨f', df, T, ctx, fs', H₀, e0, e1, -, e2, kp, -, e4, e5, e6, e7⟩ := w3
      cases e0
      subst e4
      have hfl3 := kp _ _ (e7 _ _ (by k_extra "nes") hfl')
      have hs3 := kp _ _ (e7 _ _ (by k_extra "nes") hsf)
      have okf := okm fa
      repeat' (first | refine Op1.getX e1 faultK (by k_extra "part") (by k_extra "field") (by first | rfl | assumption) ?_ | refine OpL.lenS hll ?_ | k_extra "w52a")
      refine Op2.neT (n := 0) ?same ?un ?_
      case un => have := ok.units; show A.units + 1 ≤ 9000; lia
      case same => exact same4 (by rw [f2, hln]; rfl) (by rw [f3])
      have k3 : KeepL [R.t, R.r] Hf H3 := fun b ob nb eb => kp _ _ (e7 b ob nb eb)
      have Z3 := Zf.keep Wf k3
      have W3 : RS H3 R ((p + (spC q.1).length : Nat) : Int) ((p + (spC q.1).length : Nat) : Int) p0 := ⟨kp _ _ e6, kp _ _ e5⟩
      have hr3 := W3.r
      repeat' k_extra "w52a"
      exact turnF_next hs3 (ih _ _ _ _ (fun x hx => hes x (.tail _ hx)) hS3 hG' (by lia) (by lia) (by lia) Z3 W3 hs3 (by k_extra "name") (by k_extra "name"))
end
end
end

section
section
variable {g : Gd Mine.hp.heap_1}
theorem posA_pre {ts0 ts : List Str} {u : Str} (h : ts0 <+: ts) (m : u ∈ ts0) : posA ts u = posA ts0 u := by
  obtain ⟨w, rfl⟩ := h
  unfold posA
  rw [List.idxOf_append, if_pos m]
theorem posA_at {ts : List Str} {u : Str} (m : u ∈ ts) : ts[posA ts u]? = some u := by
  unfold posA
  have h := List.idxOf_lt_length_iff.mpr m
  rw [List.getElem?_eq_getElem h, List.getElem_idxOf h]
structure FG (ts : List Str) (fs : List (List Int)) : Prop where
  a : Str.ofString "a" ∈ ts
  b : Str.ofString "b" ∈ ts
  d : Str.ofString "." ∈ ts
  f : Str.ofString "f" ∈ ts
  u : [((posA ts (Str.ofString "f") : Nat) : Int), 2] ∈ fs
theorem FG.ff {ts ts2 : List Str} {fs : List (List Int)} {xp xi : List (Int × AV)} (h : FG ts fs) (pp : ts <+: ts2) (w : ∀ u ∈ plainA, ∀ i : Nat, ts[i]? = some u → getA xp i = none ∧ getA xi i = none) (e : getA xi 7 = some (.tup [.int 1000, .str (Str.ofString "xfy")])) : FF ts2 fs xp xi := by
  have pl : ∀ u, u ∈ plainA → u ∈ ts → u ≠ Str.ofString "-" → PlainA ts2 xp xi u := fun u hu m hn => ⟨pp.subset m, hn, by rw [posA_pre pp m]; exact (w u hu _ (posA_at m)).1, by rw [posA_pre pp m]; exact (w u hu _ (posA_at m)).2⟩
  exact ⟨pl _ (by decide) h.a (by decide), pl _ (by decide) h.b (by decide), pl _ (by decide) h.d (by decide), pp.subset h.f, by rw [posA_pre pp h.f]; exact h.u, e⟩
theorem FG.term {ts ts2 : List Str} {fs : List (List Int)} (h : FG ts fs) (pp : ts <+: ts2) {r : Nat} (hr : r < 8) : termC ts2 fs r = termC ts fs r :=
  eight (P := fun r => termC ts2 fs r = termC ts fs r) hr (congrArg (fun n : Nat => aT n) (posA_pre pp h.a)) (by show AV.tup _ = AV.tup _; rw [posA_pre pp h.f, posA_pre pp h.b]) (congrArg (fun n : Nat => aT n) (posA_pre pp h.b)) rfl rfl rfl rfl (congrArg (fun n : Nat => aT n) (posA_pre pp h.d))
theorem FG.due {ts ts2 : List Str} {fs : List (List Int)} (h : FG ts fs) (pp : ts <+: ts2) : ∀ (cs : List (Nat × Nat)) (p : Nat), (∀ q ∈ cs, q.1 < 8 ∧ q.2 < 4) → dueL ts2 fs p cs = dueL ts fs p cs
  | [], p, _ => rfl
  | q :: cs, p, hq => by
    show dueA ts2 fs p q :: dueL ts2 fs _ cs = dueA ts fs p q :: dueL ts fs _ cs
    rw [FG.due h pp cs _ fun x hx => hq x (.tail _ hx), dueA, dueA, h.term pp (hq q (.head _)).1]
noncomputable def ordA : AV → AV
  | .str u => .int ((u.cps[0]?.getD 0 : Nat) : Int)
  | _ => .none
theorem ord_chrs (l : List Nat) : ((chrs (txt l)).filter (fun _ => true)).map ordA = cds l := by
  have e : chrs (txt l) = l.map fun c => AV.str ⟨#[c]⟩ := rfl
  rw [List.filter_eq_self.mpr (fun _ _ => rfl), e, List.map_map]
  rfl
theorem cells_at {cs : List Nat} {i : Nat} (h : i < cs.length) : (cds cs)[((i : Nat) : Int).toNat]? = some (.int ((cs[i]?.getD 0 : Nat) : Int)) := by
  rw [Int.toNat_natCast]
  exact cds_get (by rw [List.getElem?_eq_getElem h]; rfl)
theorem fmod_nat (a b : Nat) : (a : Int).fmod (b : Int) = ((a % b : Nat) : Int) := by
  rw [Int.fmod_eq_emod_of_nonneg _ (Int.natCast_nonneg b)]
  lia
theorem fdiv_nat (a b : Nat) : (a : Int).fdiv (b : Int) = ((a / b : Nat) : Int) := by
  rw [Int.fdiv_eq_ediv_of_nonneg _ (Int.natCast_nonneg b)]
  lia


theorem w53a : True := by
  (k_with "w53a" =>
    first
      | (first
          | ((with_reducible show Tri _ _ _ (eval (Expr.Name (Str.ofString "book") _) _) _ _ _ _); refine Ev.cell (by k_extra "name") ?_ (by first | exact law_book | exact look_book1 _))
          | ((with_reducible show Tri _ _ _ (eval (Expr.Name ..) _) _ _ _ _); refine Ev.localV (by k_extra "name") (by k_extra "eq") ?_)
          | ((with_reducible show OpL _ _ _ (CallV (AV.builtin "len")) _ _ _ _ _); refine OpL.lenS (by lia) ?_))
      | k_extra "step")
  trivial
section
variable {A : Around} {L f : Addr} {cd : Value} {ρ : Loc} {H : AH} {qs : List (Nat × Nat)} {S dS tx an fn fnn cl bl dl : Addr} {ts : List Str} {fs : List (List Int)} {cs : List Nat}
theorem law_E (ok : Ok 14 true A) (hqs : ∀ q ∈ qs, q.1 < 8 ∧ q.2 < 4) (h7q : qs.length ≤ 7) (h10 : 10 ≤ cs.length) (h20 : cs.length ≤ 20)
    (rc' : ρ (Str.ofString "cells") = some (.ref cl)) (rb : ρ (Str.ofString "book") = some (.ref S)) (rw' : ρ (Str.ofString "wide") = some (.str (txt (flatC qs)))) (rbe : ρ (Str.ofString "begins") = some (.ref bl)) (rd : ρ (Str.ofString "due") = some (.ref dl))
    (hc : H cl = some (.list (cds cs))) (hb : H bl = some (.list (begL 0 qs))) (hd : H dl = some (.list (dueL ts fs 0 qs)))
    (y : Sy H S dS tx an fn fnn ts fs) (h7 : ts[7]? = some (Str.ofString ",")) (z1 : ts.length ≤ 3100) (z2 : fs.length ≤ 2000) (X : FG ts fs) (n1 : bl ≠ tx) (n2 : dl ≠ tx) (n3 : cl ≠ bl) (n4 : dl ≠ bl) (n5 : bl ≠ fn) :
    Exs g ⟨A, lawEnv L f cd⟩ (lawBody.drop 8) ρ H (fun fl _ _ => fl = .ret (.bool true)) (fun _ _ _ => False) := by
  have hh : A.handled = none := ok.hand rfl
  have hfs := flat_small qs hqs
  have hwl : (txt (flatC qs)).length = (flatC qs).length := by show (flatC qs).toArray.size = _; rw [List.size_toArray]
  have hl9 : (flatC qs).length ≤ 133 := by lia
  have hbl := beg_len qs 0
  have hdl := due_len ts fs qs 0
  have lcs : (cds cs).length = cs.length := cds_len
  have e0 := cells_at (cs := cs) (i := 1) (by lia)
  have e0 : (cds cs)[(1 : Int).toNat]? = _ := e0
  refine Exs.cons ?_
  repeat' k_extra "w53a"
  rw [hwl]
  have hb1 : upd H bl (.list (begL 0 qs ++ [.int ((flatC qs).length : Int)])) bl = some (.list (begL 0 qs ++ [.int ((flatC qs).length : Int)])) := upd_same _ _ _
  have hbl2 : (begL 0 qs ++ [AV.int ((flatC qs).length : Int)]).length = qs.length + 1 := by rw [List.length_append, hbl]; rfl
  have hc1 : upd H bl (.list (begL 0 qs ++ [.int ((flatC qs).length : Int)])) cl = some (.list (cds cs)) := (upd_ne n3).trans hc
  have hd1 : upd H bl (.list (begL 0 qs ++ [.int ((flatC qs).length : Int)])) dl = some (.list (dueL ts fs 0 qs)) := (upd_ne n4).trans hd
  have y1 : Sy (upd H bl (.list (begL 0 qs ++ [.int ((flatC qs).length : Int)]))) S dS tx an fn fnn ts fs := by
    obtain ⟨y1, y2, y3, y4, y5, y6⟩ := y
    exact ⟨(upd_ne (ne_kind y1 hb rfl)).trans y1, (upd_ne (Ne.symm n1)).trans y2, (upd_ne (ne_kind y3 hb rfl)).trans y3, (upd_ne (Ne.symm n5)).trans y4, (upd_ne (ne_kind y5 hb rfl)).trans y5, y6⟩
  revert hb1 hc1 hd1 y1
  generalize upd H bl (.list (begL 0 qs ++ [.int ((flatC qs).length : Int)])) = H1
  intro hb1 hc1 hd1 y1
  repeat' k_extra "w53a"
  refine Op2.mod (by rw [hbl2]; lia) ?_
  rw [hbl2, fmod_nat]
  have hj : cs[1]?.getD 0 % (qs.length + 1) ≤ qs.length := Nat.le_of_lt_succ (Nat.mod_lt _ (Nat.succ_pos _))
  generalize cs[1]?.getD 0 % (qs.length + 1) = j at hj
  have hbj := beg_at qs j hj
  have hbj' : (begL 0 qs ++ [AV.int ((flatC qs).length : Int)])[((j : Nat) : Int).toNat]? = some (.int ((flatC (qs.take j)).length : Int)) := by rw [Int.toNat_natCast]; exact hbj
  have hS := flat_at qs j
  have hp0 : (flatC (qs.take j)).length ≤ (flatC qs).length := by
    have e := flat_app (qs.take j) (qs.drop j)
    rw [List.take_append_drop] at e
    rw [e, List.length_append]
    lia
  have yo := y1.o
  have yt := y1.t
  have ya := y1.a
  have yf := y1.f
  have yn := y1.n
  repeat' k_extra "w53a"
  refine Cal.at (OperatorTable_spec y1 h7 z1 ?_) (Ok.leB (by assumption) rfl)
  intro O dO pr inf po ts1 xp xi H2 f1 f2 f3 f4 I1 g1
  repeat' k_extra "w53a"
  refine Cal.at (Flags_spec I1.y (by lia) ?_) (Ok.leB (by assumption) rfl)
  intro F dF va fi fx ts2 xv yf' zf seen H3 f5 f6 f7 f8 I2 g2 hdq
  have iO := I2.k _ _ (by k_extra "ne") (by k_extra "ne") I1.o
  have oI := I1.i
  have oR := I1.p
  have oP := I1.q
  have oY := I1.y
  have iY := I2.y
  have fF := I2.o
  have fV := I2.v
  have oYa := oY.a
  have oYt := oY.t
  have inf_an := I2.k _ _ (by k_extra "ne") (by k_extra "ne") oI
  have pr_an := I2.k _ _ (by k_extra "ne") (by k_extra "ne") oR
  have e0' : KeepB tx an H1 H3 := fun b o m1 m2 e => I2.k b o m1 m2 (I1.k b o m1 m2 e)
  have hc3 := e0' _ _ (by k_extra "ne") (by k_extra "ne") hb1
  have hd3 := e0' _ _ (by k_extra "ne") (by k_extra "ne") hd1
  have hq3 := I2.k _ _ (by k_extra "ne") (by k_extra "ne") oP
  obtain ⟨m, em1, em2⟩ := I2.g _ hdq
  obtain ⟨v, hv⟩ : ∃ v, ts2[m]? = some v := ⟨_, List.getElem?_eq_getElem em2⟩
  have pp : ts <+: ts2 := I1.pp.trans I2.pp
  refine EvL.cons ?_
  refine Ev.comp [] ?_ rfl (by intro p hp; cases hp) rfl (by decide) (by decide)
  refine EvIt.val ?_
  repeat' k_extra "w53a"
  refine It1.str hh ?small ?_
  case small =>
    rw [Array.all_eq_true']
    intro c hc
    have : c ∈ flatC qs := by simpa [txt] using hc
    simpa using hfs.2 c this
  intro ca C hca
  have lenC : (chrs (txt (flatC qs))).length = (flatC qs).length := List.length_map ..
  refine CmpL.flat (fun _ => True) (fun v ρ => setL ρ (Str.ofString "sign") v) (fun _ => true) ordA (fun us => trivial) _ [] _ (fun _ _ _ _ => trivial) ?_ ?_ ?_ ?_ ?_ trivial
  · intro v hv ρ us k' _ hk
    exact As.name hk ⟨by k_extra "eq", .inl ⟨by k_extra "eq", by k_extra "eq"⟩⟩
  · intro v hv ρ us k' _ hk
    exact TsL.nil hk
  · intro v hv _ ρ us k' _ hk
    obtain ⟨n, hn, rfl⟩ := List.mem_map.mp hv
    repeat' k_extra "w53a"
    exact OpL.ord hk
  · rw [lenC]; simp only [List.length_nil]; lia
  · intro ρc _
    rw [ord_chrs, List.nil_append]
    have kk : Keep H3 (upd H3 ca (.list (cds (flatC qs)))) := Keep.new hca
    have hb4 := kk _ _ hc3
    repeat' k_extra "w53a"
    refine Cal.at (ReaderAt_spec ?_) (Ok.leB (by assumption) rfl)
    intro r dr t dt H4 w1 w2 kr hR hT
    have K4 : Keep H3 H4 := kk.trans kr
    have hC4 := kr _ _ (upd_same _ _ _)
    have hb5 := kr _ _ hb4
    refine then_next ?_
    refine Exs.cons ?_
    refine Tri.mono (k := fun fw ρ2 H2 => fw = AF.next ∧ ρ2 = setL (setL ρ (Str.ofString "start") (.int (j : Nat))) (Str.ofString "reader") (.ref r) ∧ H2 = H4) ?_ (fun fw ρ2 H2 hm => ?_) (fun _ _ _ z => z)
    · repeat' k_extra "w53a"
      exact ⟨rfl, rfl, rfl⟩
    · obtain ⟨rfl, rfl, rfl⟩ := hm
      refine then_next ?_
      refine law_L (R := ⟨r, dr, S, dS, tx, an, fn, fnn, O, dO, pr, inf, po, F, dF, va, fi, fx, t, dt, ca⟩) (l := flatC qs) (ts := ts2) (fs := fs) (xp := xp) (xi := xi) (xv := xv) (all := dueL ts fs 0 qs) (p0 := (flatC (qs.take j)).length) (j := j) (cs := qs.drop j) (dl := dl) ok (fun q hq => hqs q (List.mem_of_mem_drop hq)) ⟨K4 _ _ fF, K4 _ _ fV, ⟨K4 _ _ iY.o, K4 _ _ iY.t, K4 _ _ iY.a, K4 _ _ iY.f, K4 _ _ iY.n, iY.ne⟩, K4 _ _ iO, K4 _ _ pr_an, K4 _ _ inf_an, K4 _ _ hq3, ⟨hC4, fun n hn => Nat.le_trans (Nat.le_of_lt (hfs.2 n hn)) (by decide), Nat.lt_of_le_of_lt hl9 (by decide)⟩⟩ ⟨hR, hT⟩ ⟨⟨m, v, em1, hv⟩, by lia, by lia, by lia⟩ (X.ff pp I1.w I1.e) hS hp0 (by lia) (by k_extra "name") (by k_extra "name") (by k_extra "name") (by k_extra "name") (K4 _ _ hd3) (by lia) ?_
      rw [due_drop, X.due pp _ _ fun q hq => hqs q (List.mem_of_mem_drop hq)]
end
end
end

section
section
variable {g : Gd Mine.hp.heap_1}
theorem txt_append (a b : List Nat) : txt a ++ txt b = txt (a ++ b) := by
  show Str.mk (a.toArray ++ b.toArray) = Str.mk (a ++ b).toArray
  simp
theorem txt_len (l : List Nat) : (txt l).length = l.length := by show l.toArray.size = _; rw [List.size_toArray]
noncomputable def rowA (ts : List Str) (fs : List (List Int)) (r : Nat) : AV := .tup [.str (txt (spC r)), termC ts fs r, .str (kdC r), .int (inC r : Nat)]
theorem row_at (ts : List Str) (fs : List (List Int)) {n : Nat} (h : n < 8) : ((List.range 8).map (rowA ts fs))[n]? = some (rowA ts fs n) := by
  rw [List.getElem?_map, List.getElem?_range h]
  rfl
theorem sep_at {n : Nat} (h : n < 4) : ([Str.ofString "\n", Str.ofString " ", Str.ofString "\n% a.\n", Str.ofString " /* . */\n "].map AV.str)[n]? = some (.str (txt (seC n))) := by
  rcases n with _ | _ | _ | _ | n
  · rfl
  · rfl
  · rfl
  · rfl
  · exact absurd h (Nat.not_lt.mpr (Nat.le_add_left 4 n))
theorem Keep.put {H H' : AH} {a : Addr} {o : AObj} (x : Keep H H') (h : H a = none) : Keep H (Mine.upd H' a o) := fun b ob e => (upd_ne (ne_fresh h e)).trans (x b ob e)
theorem flat_snoc (qs : List (Nat × Nat)) (q : Nat × Nat) : flatC (qs ++ [q]) = flatC qs ++ (spC q.1 ++ seC q.2) := by
  rw [flat_app]
  show flatC qs ++ (spC q.1 ++ (seC q.2 ++ [])) = _
  rw [List.append_nil]
theorem due_snoc (ts : List Str) (fs : List (List Int)) (qs : List (Nat × Nat)) (q : Nat × Nat) : dueL ts fs 0 (qs ++ [q]) = dueL ts fs 0 qs ++ [dueA ts fs (flatC qs).length q] := by
  rw [due_app, Nat.zero_add]
  rfl
theorem beg_snoc (qs : List (Nat × Nat)) (q : Nat × Nat) : begL 0 (qs ++ [q]) = begL 0 qs ++ [.int ((flatC qs).length : Int)] := by
  rw [beg_app, Nat.zero_add]
  rfl


theorem w54a : True := by
  (k_with "w54a" =>
    first
      | (first
          | ((with_reducible show Tri _ _ _ (eval (Expr.Name (Str.ofString "book") _) _) _ _ _ _); refine Ev.cell (by k_extra "name") ?_ (by first | exact law_book | exact look_book1 _))
          | ((with_reducible show Tri _ _ _ (eval (Expr.Name ..) _) _ _ _ _); refine Ev.localV (by k_extra "name") (by k_extra "eq") ?_)
          | ((with_reducible show OpL _ _ _ (CallV (AV.builtin "len")) _ _ _ _ _); refine OpL.lenS (by lia) ?_)
          | ((with_reducible show Tri _ _ _ (exec (Stmt.AugAssign (Expr.Name _ _) _ _ _) _) _ _ _ _); refine Ex.aug (by k_extra "name") ?_ ⟨by k_extra "eq", .inl ⟨by k_extra "eq", by k_extra "eq"⟩⟩))
      | k_extra "step")
  trivial
section
variable {A : Around} {L f : Addr} {cd : Value} {ρ : Loc} {H : AH} {S dS tx an fn fnn cl rl : Addr} {ts : List Str} {fs : List (List Int)} {cs : List Nat}
theorem law_R (ok : Ok 14 true A) (h10 : 10 ≤ cs.length) (h20 : cs.length ≤ 20)
    (rc' : ρ (Str.ofString "cells") = some (.ref cl)) (rb : ρ (Str.ofString "book") = some (.ref S)) (rr : ρ (Str.ofString "rows") = some (.ref rl))
    (hc : H cl = some (.list (cds cs))) (hr : H rl = some (.list ((List.range 8).map (rowA ts fs))))
    (y : Sy H S dS tx an fn fnn ts fs) (h7 : ts[7]? = some (Str.ofString ",")) (z1 : ts.length ≤ 3100) (z2 : fs.length ≤ 2000) (X : FG ts fs) :
    Exs g ⟨A, lawEnv L f cd⟩ (lawBody.drop 4) ρ H (fun fl _ _ => fl = .ret (.bool true)) (fun _ _ _ => False) := by
  have hh : A.handled = none := ok.hand rfl
  have lcs : (cds cs).length = cs.length := cds_len
  have e0 := cells_at (cs := cs) (i := 0) (by lia)
  have e0 : (cds cs)[(0 : Int).toNat]? = some (.int ((cs[0]?.getD 0 : Nat) : Int)) := e0
  have yo := y.o
  have yt := y.t
  have ya := y.a
  have yf := y.f
  have yn := y.n
  refine Exs.cons ?_
  repeat' k_extra "w54a"
  intro bl hbl
  repeat' k_extra "w54a"
  intro dl hdl
  have ndb := uD hdl
  have hdl := uN hdl
  repeat' k_extra "w54a"
  refine EvIt.call ?_ (by k_extra "eq")
  repeat' k_extra "w54a"
  refine ⟨rfl, ?_⟩
  repeat' k_extra "w54a"
  refine Op2.mod (by decide) ?_
  repeat' k_extra "w54a"
  rw [show (1 : Int) + ((cs[0]?.getD 0 : Nat) : Int).fmod 7 = ((cs[0]?.getD 0 % 7 + 1 : Nat) : Int) by rw [show (7 : Int) = ((7 : Nat) : Int) from rfl, fmod_nat]; lia]
  have hN : cs[0]?.getD 0 % 7 + 1 ≤ 7 := by lia
  generalize cs[0]?.getD 0 % 7 + 1 = N at hN ⊢
  refine ItC.range hh (by lia) ?_
  refine (?key : ∀ (m i : Nat) (qs : List (Nat × Nat)) (H' : AH) (ρ' : Loc), i + m = N → qs.length = i → (∀ q ∈ qs, q.1 < 8 ∧ q.2 < 4) → Keep H H' → H' bl = some (.list (begL 0 qs)) → H' dl = some (.list (dueL ts fs 0 qs)) →
      ρ' (Str.ofString "cells") = some (.ref cl) → ρ' (Str.ofString "book") = some (.ref S) → ρ' (Str.ofString "rows") = some (.ref rl) → ρ' (Str.ofString "begins") = some (.ref bl) → ρ' (Str.ofString "due") = some (.ref dl) → ρ' (Str.ofString "wide") = some (.str (txt (flatC qs))) → ForL g _ _ _ _ _ (rngFrom i m) ρ' H') N 0 [] _ _ (by lia) rfl (by intro q h; cases h) (fun b o e => upd_fresh (upd_none.mpr ⟨ndb, hdl⟩) (upd_fresh hbl e)) (upd_fresh (upd_none.mpr ⟨ndb, hdl⟩) (upd_same _ _ _)) (upd_same _ _ _) (by k_extra "name") (by k_extra "name") (by k_extra "name") (by k_extra "name") (by k_extra "name") (by k_extra "name")
  intro m
  induction m with
  | zero =>
    intro i qs H' ρ' hi hq hok kp' e1 e2 r1 r2 r3 r4 r5 r6
    refine ForL.nil ?_
    refine then_next ?_
    exact law_E ok hok (by lia) h10 h20 r1 r2 r6 r4 r5 (kp' _ _ hc) e1 e2 ⟨kp' _ _ yo, kp' _ _ yt, kp' _ _ ya, kp' _ _ yf, kp' _ _ yn, y.ne⟩ h7 z1 z2 X (by k_extra "ne") (by k_extra "ne") (by k_extra "ne") ndb (by k_extra "ne")
  | succ m ih =>
    intro i qs H' ρ' hi hq hok kp' e1 e2 r1 r2 r3 r4 r5 r6
    have hc2 := kp' _ _ hc
    have hr2 := kp' _ _ hr
    have hat := cells_at (cs := cs) (i := i + 2) (by lia)
    rw [show ((i + 2 : Nat) : Int) = 2 + (i : Int) by lia] at hat
    generalize cs[i + 2]?.getD 0 = ci at hat
    have hfs := flat_small qs hok
    have hsp := sp_small (r := ci % 8) (by lia)
    have hse := se_small (ci / 8 % 4)
    have lb := beg_len qs 0
    have ld := due_len ts fs qs 0
    have lw := txt_len (flatC qs)
    have ls := txt_len (spC (ci % 8))
    have l2 := txt_len (seC (ci / 8 % 4))
    have l3 := txt_len (spC (ci % 8) ++ seC (ci / 8 % 4))
    rw [List.length_append] at l3
    have lr : ((List.range 8).map (rowA ts fs)).length = 8 := rfl
    have row := row_at ts fs (n := ci % 8) (by lia)
    have sep := sep_at (n := ci / 8 % 4) (by lia)
    show ForL g _ _ _ _ _ (.int i :: rngFrom (i + 1) m) ρ' H'
    refine ForL.cons ?_
    repeat' k_extra "w54a"
    refine Op2.mod (by decide) ?_
    rw [show (ci : Int).fmod 8 = ((ci % 8 : Nat) : Int) from fmod_nat ci 8]
    refine Op2.itemL hr2 (Int.natCast_nonneg _) (by lia) (by rw [Int.toNat_natCast]; exact row) ?_
    show As g _ _ (AV.tup [.str (txt (spC (ci % 8))), termC ts fs (ci % 8), .str (kdC (ci % 8)), .int (inC (ci % 8) : Nat)]) _ _ _
    have n1 : bl ≠ dl := Ne.symm ndb
    have n2 : bl ≠ cl := by k_extra "ne"
    have n3 : dl ≠ cl := by k_extra "ne"
    repeat' k_extra "w54a"
    have x1 : begL 0 qs ++ [AV.int ((txt (flatC qs)).length : Int)] = begL 0 (qs ++ [(ci % 8, ci / 8 % 4)]) := by rw [beg_snoc, lw]
    have x2 : dueL ts fs 0 qs ++ [AV.tup [termC ts fs (ci % 8), .str (kdC (ci % 8)), .int (((txt (flatC qs)).length : Int) + (inC (ci % 8) : Nat)), .int (((txt (flatC qs)).length : Int) + ((txt (spC (ci % 8))).length : Int))]] = dueL ts fs 0 (qs ++ [(ci % 8, ci / 8 % 4)]) := by rw [due_snoc, lw, ls]; rfl
    rw [x1, x2]
    have k2 : Keep H (upd (upd H' bl (.list (begL 0 (qs ++ [(ci % 8, ci / 8 % 4)])))) dl (.list (dueL ts fs 0 (qs ++ [(ci % 8, ci / 8 % 4)])))) := (kp'.put hbl).put hdl
    have b2 : upd (upd H' bl (.list (begL 0 (qs ++ [(ci % 8, ci / 8 % 4)])))) dl (.list (dueL ts fs 0 (qs ++ [(ci % 8, ci / 8 % 4)]))) bl = some (.list (begL 0 (qs ++ [(ci % 8, ci / 8 % 4)]))) := (upd_ne n1).trans (upd_same _ _ _)
    have d2 : upd (upd H' bl (.list (begL 0 (qs ++ [(ci % 8, ci / 8 % 4)])))) dl (.list (dueL ts fs 0 (qs ++ [(ci % 8, ci / 8 % 4)]))) dl = some (.list (dueL ts fs 0 (qs ++ [(ci % 8, ci / 8 % 4)]))) := upd_same _ _ _
    revert k2 b2 d2
    generalize upd (upd H' bl (.list (begL 0 (qs ++ [(ci % 8, ci / 8 % 4)])))) dl (.list (dueL ts fs 0 (qs ++ [(ci % 8, ci / 8 % 4)]))) = H2
    intro k2 b2 d2
    have hc3 := k2 _ _ hc
    intro ml hml
    have n4 := ne_fresh hml hc3
    repeat' k_extra "w54a"
    refine Op2.fdiv (by decide) (PyProof.noPylong_small (by decide)) ?_
    rw [show (ci : Int).fdiv 8 = ((ci / 8 : Nat) : Int) from fdiv_nat ci 8]
    repeat' k_extra "w54a"
    refine Op2.mod (by decide) ?_
    rw [show ((ci / 8 : Nat) : Int).fmod 4 = ((ci / 8 % 4 : Nat) : Int) from fmod_nat _ 4]
    refine Op2.itemL (upd_same _ _ _) (Int.natCast_nonneg _) (by lia) (by rw [Int.toNat_natCast]; exact sep) ?_
    refine Op2.addS (by rw [sizeLine_eq]; lia) ?_
    rw [txt_append]
    refine Op2.iaddS (by rw [sizeLine_eq]; lia) ?_
    rw [txt_append]
    repeat' k_extra "w54a"
    have hnew : ∀ q ∈ qs ++ [(ci % 8, ci / 8 % 4)], q.1 < 8 ∧ q.2 < 4 := by
      intro q hq'
      rcases List.mem_append.mp hq' with h | h
      · exact hok q h
      · rw [List.mem_singleton] at h; subst h; exact ⟨by simp only; lia, by simp only; lia⟩
    refine turnF_next trivial (ih (i + 1) (qs ++ [(ci % 8, ci / 8 % 4)]) _ _ (by lia) (by rw [List.length_append, List.length_singleton]; lia) hnew (fun b o e => upd_fresh hml (k2 b o e)) (upd_fresh hml b2) (upd_fresh hml d2) (by k_extra "name") (by k_extra "name") (by k_extra "name") (by k_extra "name") (by k_extra "name") (by rw [flat_snoc]; k_extra "name"))
end
end
end

section
section
variable {g : Gd Mine.hp.heap_1}
theorem posA_addA {K : Type} [DecidableEq K] (l : List K) (k : K) : posA (addA l k) k = posA l k := by
  unfold addA posA
  split
  · rfl
  · rename_i h
    rw [List.idxOf_append, if_neg h, List.idxOf_eq_length h]
    simp
theorem mem_addA {K : Type} [DecidableEq K] (l : List K) (k : K) : k ∈ addA l k := by
  unfold addA
  split
  · assumption
  · simp
theorem addA_prefix (l : List Str) (k : Str) : l <+: addA l k := addA_pre (List.prefix_refl _) k
theorem put_keep {H : AH} {tx an fn fnn b : Addr} {ts : List Str} {fs : List (List Int)} {o : AObj} (e : H b = some o) (h1 : b ≠ tx) (h2 : b ≠ an) (h3 : b ≠ fn) (h4 : b ≠ fnn) : putFn (putT H tx an ts) fn fnn fs b = some o := (upd_ne h4).trans ((upd_ne h3).trans ((upd_ne h2).trans ((upd_ne h1).trans e)))
theorem rows_are (ts : List Str) (fs : List (List Int)) : (List.range 8).map (rowA ts fs) = [.tup [.str (Str.ofString "a."), aT (posA ts (Str.ofString "a") : Nat), .str (Str.ofString ""), .int 0],
    .tup [.str (Str.ofString "f(X,b)."), .tup [.str (Str.ofString "s"), .int (posA fs [((posA ts (Str.ofString "f") : Nat) : Int), 2] : Nat), .tup [.tup [.str (Str.ofString "v"), .int 0], aT (posA ts (Str.ofString "b") : Nat)]], .str (Str.ofString ""), .int 0],
    .tup [.str (Str.ofString "(b)."), aT (posA ts (Str.ofString "b") : Nat), .str (Str.ofString ""), .int 0],
    .tup [.str (Str.ofString "a b."), .none, .str (Str.ofString "end_expected"), .int 2],
    .tup [.str (Str.ofString "f(a]."), .none, .str (Str.ofString "unbalanced"), .int 3],
    .tup [.str (Str.ofString "f(a\n, ) ."), .none, .str (Str.ofString "unexpected_token"), .int 6],
    .tup [.str (Str.ofString "'a\\q'."), .none, .str (Str.ofString "bad_escape"), .int 2],
    .tup [.str (Str.ofString "'.'."), aT (posA ts (Str.ofString ".") : Nat), .str (Str.ofString ""), .int 0]] := rfl


theorem w55a : True := by
  (k_with "w55a" =>
    first
      | (first
          | ((with_reducible show Tri _ _ _ (eval (Expr.Name (Str.ofString "book") _) _) _ _ _ _); refine Ev.cell (by k_extra "name") ?_ (by first | exact law_book | exact look_book1 _))
          | ((with_reducible show Tri _ _ _ (eval (Expr.Name ..) _) _ _ _ _); refine Ev.localV (by k_extra "name") (by k_extra "eq") ?_)
          | ((with_reducible show Tri _ _ _ (exec (Stmt.Assign [Expr.Name (Str.ofString "book") _] _ _) _) _ _ _ _); refine Ex.assign ?_ st_book))
      | k_extra "step")
  trivial
section
variable {A : Around} {L f : Addr} {cd : Value} {ρ : Loc} {H : AH} {S dS tx an fn fnn cl : Addr} {ts : List Str} {fs : List (List Int)} {cs : List Nat}
theorem law_Q (ok : Ok 14 true A) (h10 : 10 ≤ cs.length) (h20 : cs.length ≤ 20)
    (rc' : ρ (Str.ofString "cells") = some (.ref cl)) (rb : ρ (Str.ofString "book") = some (.ref S)) (ra : ρ (Str.ofString "a") = some (aT (posA ts (Str.ofString "a") : Nat))) (rbb : ρ (Str.ofString "b") = some (aT (posA ts (Str.ofString "b") : Nat)))
    (hc : H cl = some (.list (cds cs))) (y : Sy H S dS tx an fn fnn ts fs) (h7 : ts[7]? = some (Str.ofString ",")) (z1 : ts.length ≤ 3050) (z2 : fs.length ≤ 1000) (ma : Str.ofString "a" ∈ ts) (mb : Str.ofString "b" ∈ ts) (n1 : cl ≠ tx) (n2 : cl ≠ fn) :
    Exs g ⟨A, lawEnv L f cd⟩ (lawBody.drop 3) ρ H (fun fl _ _ => fl = .ret (.bool true)) (fun _ _ _ => False) := by
  have yo := y.o
  have yt := y.t
  have ya := y.a
  have yf := y.f
  have yn := y.n
  have g1 := addA_len ts (Str.ofString "f")
  have g2 := addA_len fs [((posA ts (Str.ofString "f") : Nat) : Int), 2]
  have g3 := addA_len (addA ts (Str.ofString "f")) (Str.ofString ".")
  have pp1 := addA_prefix ts (Str.ofString "f")
  have pp2 := addA_prefix (addA ts (Str.ofString "f")) (Str.ofString ".")
  have pp := pp1.trans pp2
  have hrow := rows_are (addA (addA ts (Str.ofString "f")) (Str.ofString ".")) (addA fs [((posA ts (Str.ofString "f") : Nat) : Int), 2])
  rw [posA_pre pp ma, posA_pre pp mb, posA_addA (addA ts (Str.ofString "f")) (Str.ofString "."), posA_pre pp2 (mem_addA ts (Str.ofString "f")), posA_addA ts (Str.ofString "f"), posA_addA fs] at hrow
  have mf := mem_addA ts (Str.ofString "f")
  have X : FG (addA (addA ts (Str.ofString "f")) (Str.ofString ".")) (addA fs [((posA ts (Str.ofString "f") : Nat) : Int), 2]) :=
    ⟨pp.subset ma, pp.subset mb, mem_addA _ _, pp2.subset mf, by rw [posA_pre pp2 mf, posA_addA]; exact mem_addA _ _⟩
  refine Exs.cons ?_
  repeat' k_extra "w55a"
  refine Cal.at (func_spec y (by lia) (by lia) ?_) (Ok.leB (by assumption) rfl)
  have y2 := (y.putT (addA ts (Str.ofString "f"))).putF (addA fs [((posA ts (Str.ofString "f") : Nat) : Int), 2])
  have hc2 : putFn (putT H tx an (addA ts (Str.ofString "f"))) fn fnn (addA fs [((posA ts (Str.ofString "f") : Nat) : Int), 2]) cl = some (.list (cds cs)) := put_keep hc n1 (by k_extra "ne") n2 (by k_extra "ne")
  revert y2 hc2
  generalize putFn (putT H tx an (addA ts (Str.ofString "f"))) fn fnn (addA fs [((posA ts (Str.ofString "f") : Nat) : Int), 2]) = H2
  intro y2 hc2
  have yo2 := y2.o
  have ya2 := y2.a
  repeat' k_extra "w55a"
  refine Cal.at (atom_spec y2 (by lia) ?_) (Ok.leB (by assumption) rfl)
  have y3 := y2.putT (addA (addA ts (Str.ofString "f")) (Str.ofString "."))
  have hc3 : putT H2 tx an (addA (addA ts (Str.ofString "f")) (Str.ofString ".")) cl = some (.list (cds cs)) := (upd_ne (by k_extra "ne")).trans ((upd_ne n1).trans hc2)
  revert y3 hc3
  generalize putT H2 tx an (addA (addA ts (Str.ofString "f")) (Str.ofString ".")) = H3
  intro y3 hc3
  repeat' k_extra "w55a"
  intro rl hrl
  refine then_next ?_
  exact law_R (rl := rl) ok h10 h20 (by k_extra "name") (by k_extra "name") (by k_extra "name") (upd_fresh hrl hc3) (by rw [hrow]; exact upd_same _ _ _) ⟨upd_fresh hrl y3.o, upd_fresh hrl y3.t, upd_fresh hrl y3.a, upd_fresh hrl y3.f, upd_fresh hrl y3.n, y3.ne⟩ (addA_get (addA_get h7)) (by lia) (by lia) X
theorem law_A2 (ok : Ok 14 true A) (h10 : 10 ≤ cs.length) (h20 : cs.length ≤ 20) (rc' : ρ (Str.ofString "cells") = some (.ref cl)) (hc : H cl = some (.list (cds cs))) :
    Exs g ⟨A, lawEnv L f cd⟩ (lawBody.drop 1) ρ H (fun fl _ _ => fl = .ret (.bool true)) (fun _ _ _ => False) := by
  have hh : A.handled = none := ok.hand rfl
  refine Exs.cons ?_
  repeat' k_extra "w55a"
  refine Cal.at (Symbols_spec ?_) (Ok.leB (by assumption) rfl)
  intro S d tx an fn fnn ts fs H1 f1 f2 f3 f4 f5 kp y h7 z1 z2
  have hc1 := kp _ _ hc
  have g1 := addA_len ts (Str.ofString "a")
  have g2 := addA_len (addA ts (Str.ofString "a")) (Str.ofString "b")
  repeat' k_extra "w55a"
  refine Ev.comp [(Str.ofString "book", L + 1)] ?_ rfl (by intro p hp; rw [List.mem_singleton] at hp; subst hp; exact law_book) rfl (by decide) (by decide)
  refine EvIt.val ?_
  repeat' k_extra "w55a"
  refine It1.str hh (by decide +kernel) ?_
  intro al C hal
  show CmpL g _ _ _ _ _ _ _ [AV.str (Str.ofString "a"), AV.str (Str.ofString "b")] [] _ _
  have hcb : compL [(Str.ofString "book", L + 1)] (setL ρ (Str.ofString "book") (.ref S)) (Str.ofString "book") = some (.ref S) := compL_look rfl (setL_same _ _ _)
  have n1 : al ≠ tx := Ne.symm (ne_fresh hal y.t)
  have n2 : al ≠ an := Ne.symm (ne_fresh hal y.a)
  have n3 : al ≠ S := Ne.symm (ne_fresh hal y.o)
  have n4 : al ≠ fn := Ne.symm (ne_fresh hal y.f)
  have n5 : al ≠ fnn := Ne.symm (ne_fresh hal y.n)
  have n6 : cl ≠ tx := ne_fresh f2 hc
  have n7 : cl ≠ an := ne_fresh f3 hc
  have n8 : cl ≠ fn := ne_fresh f4 hc
  have n9' : al ≠ cl := Ne.symm (ne_fresh hal hc1)
  have y1 : Sy (upd H1 al (.list [])) S d tx an fn fnn ts fs := y.keepL ((KeepL.refl [] H1).fresh hal) (by simp) (by simp) (by simp) (by simp) (by simp)
  have hc2 : upd H1 al (.list []) cl = some (.list (cds cs)) := upd_fresh hal hc1
  have ha2 : upd H1 al (.list []) al = some (.list []) := upd_same _ _ _
  revert y1 hc2 ha2
  generalize upd H1 al (.list []) = H2
  intro y1 hc2 ha2
  have yo1 := y1.o
  refine ⟨trivial, ?_⟩
  refine As.name ?_ ⟨by k_extra "eq", .inl ⟨by k_extra "eq", by k_extra "eq"⟩⟩
  refine TsL.nil ?_
  refine ifT rfl ?_
  repeat' k_extra "w55a"
  refine Cal.at (atom_spec y1 (by lia) ?_) (Ok.leB (by assumption) rfl)
  have y2 := y1.putT (addA ts (Str.ofString "a"))
  have hc3 : putT H2 tx an (addA ts (Str.ofString "a")) cl = some (.list (cds cs)) := (upd_ne n7).trans ((upd_ne n6).trans hc2)
  have ha3 : putT H2 tx an (addA ts (Str.ofString "a")) al = some (.list []) := (upd_ne n2).trans ((upd_ne n1).trans ha2)
  revert y2 hc3 ha3
  generalize putT H2 tx an (addA ts (Str.ofString "a")) = H3
  intro y2 hc3 ha3
  repeat' k_extra "w55a"
  refine ⟨ha3, Nat.zero_le _, ?_⟩
  rw [List.nil_append]
  have y3 : Sy (upd H3 al (.list [aT (posA ts (Str.ofString "a") : Nat)])) S d tx an fn fnn (addA ts (Str.ofString "a")) fs := y2.keepL ((KeepL.refl [al] H3).upd (.head _)) (by simp; exact Ne.symm n3) (by simp; exact Ne.symm n1) (by simp; exact Ne.symm n2) (by simp; exact Ne.symm n4) (by simp; exact Ne.symm n5)
  have hc4 : upd H3 al (.list [aT (posA ts (Str.ofString "a") : Nat)]) cl = some (.list (cds cs)) := (upd_ne (Ne.symm n9')).trans hc3
  have ha4 : upd H3 al (.list [aT (posA ts (Str.ofString "a") : Nat)]) al = some (.list [aT (posA ts (Str.ofString "a") : Nat)]) := upd_same _ _ _
  revert y3 hc4 ha4
  generalize upd H3 al (.list [aT (posA ts (Str.ofString "a") : Nat)]) = H4
  intro y3 hc4 ha4
  have yo3 := y3.o
  refine ⟨trivial, ?_⟩
  refine As.name ?_ ⟨by k_extra "eq", .inl ⟨by k_extra "eq", by k_extra "eq"⟩⟩
  refine TsL.nil ?_
  refine ifT rfl ?_
  repeat' k_extra "w55a"
  refine Cal.at (atom_spec y3 (by lia) ?_) (Ok.leB (by assumption) rfl)
  have y4 := y3.putT (addA (addA ts (Str.ofString "a")) (Str.ofString "b"))
  have hc5 : putT H4 tx an (addA (addA ts (Str.ofString "a")) (Str.ofString "b")) cl = some (.list (cds cs)) := (upd_ne n7).trans ((upd_ne n6).trans hc4)
  have ha5 : putT H4 tx an (addA (addA ts (Str.ofString "a")) (Str.ofString "b")) al = some (.list [aT (posA ts (Str.ofString "a") : Nat)]) := (upd_ne n2).trans ((upd_ne n1).trans ha4)
  revert y4 hc5 ha5
  generalize putT H4 tx an (addA (addA ts (Str.ofString "a")) (Str.ofString "b")) = H5
  intro y4 hc5 ha5
  repeat' k_extra "w55a"
  refine ⟨ha5, Nat.le_of_ble_eq_true rfl, trivial, ?_⟩
  refine As.listT hh (upd_same _ _ _) rfl ?_
  have pp1 := addA_prefix ts (Str.ofString "a")
  have pp2 := addA_prefix (addA ts (Str.ofString "a")) (Str.ofString "b")
  have m1 := mem_addA ts (Str.ofString "a")
  have q1 : posA (addA (addA ts (Str.ofString "a")) (Str.ofString "b")) (Str.ofString "a") = posA ts (Str.ofString "a") := by rw [posA_pre pp2 m1, posA_addA]
  have q2 : posA (addA (addA ts (Str.ofString "a")) (Str.ofString "b")) (Str.ofString "b") = posA (addA ts (Str.ofString "a")) (Str.ofString "b") := posA_addA _ _
  refine AsL.cons ?_
  refine As.name ?_ ⟨by k_extra "eq", .inl ⟨by k_extra "eq", by k_extra "eq"⟩⟩
  refine AsL.cons ?_
  refine As.name ?_ ⟨by k_extra "eq", .inl ⟨by k_extra "eq", by k_extra "eq"⟩⟩
  refine AsL.nil ?_
  refine then_next ?_
  refine law_Q (ts := addA (addA ts (Str.ofString "a")) (Str.ofString "b")) ok h10 h20 (by k_extra "name") (by k_extra "name") (by rw [q1]; k_extra "name") (by rw [q2]; k_extra "name") ((upd_ne (Ne.symm n9')).trans hc5) (y4.keepL ((KeepL.refl [al] H5).upd (.head _)) (by simp; exact Ne.symm n3) (by simp; exact Ne.symm n1) (by simp; exact Ne.symm n2) (by simp; exact Ne.symm n4) (by simp; exact Ne.symm n5)) (addA_get (addA_get h7)) (by lia) (by lia) (pp2.subset m1) (mem_addA _ _) n6 n8
end
end
end

section
section
variable {g : Gd Mine.hp.heap_1}
noncomputable abbrev noH : AH := fun _ => none
noncomputable def cellsN (ns : List Int) : List Nat := (ns.take 10).map Int.natAbs ++ List.replicate 10 0
theorem cellsN_len (ns : List Int) : 10 ≤ (cellsN ns).length ∧ (cellsN ns).length ≤ 20 := by
  unfold cellsN
  rw [List.length_append, List.length_map, List.length_take, List.length_replicate]
  lia
noncomputable def absA : AV → AV
  | .int i => .int (i.natAbs : Nat)
  | _ => .none
section
variable {A : Around} {L f l4 : Addr} {cd : Value} {w3 : List Value} {w7 : List Int}
theorem law_A (ok : Ok 14 true A) (hL : g.hb.IsList l4 w3.toArray) (hI : IntsAre w3 w7) (h63 : w7.length ≤ 63) :
    Exs g ⟨A, lawEnv L f cd⟩ (lawBody.drop 0) (setL noL (Str.ofString "script") (.ref l4)) noH (fun fl _ _ => fl = .ret (.bool true)) (fun _ _ _ => False) := by
  have hh : A.handled = none := ok.hand rfl
  have hVR : ∀ h : Heap, VRs h (w3.take 10) ((w7.take 10).map .int) := fun h => by
    have := (ints_VRs (h := h) hI).take 10
    rwa [← List.map_take] at this
  have hl3 : w3.length = w7.length := by have := (ints_VRs (h := g.hb) hI).length; rwa [List.length_map] at this
  refine Exs.cons ?_
  refine Ex.assign ?_ ⟨by k_extra "eq", .inl ⟨by k_extra "eq", by k_extra "eq"⟩⟩
  refine Ev.binop ?_
  refine Ev.comp [] ?_ rfl (by intro p hp; cases hp) rfl (by decide) (by decide)
  refine EvIt.val ?_
  refine Ev.sliceG ?_
  repeat' k_extra "step"
  refine ⟨_, w3, _, _, rfl, hL, by lia, slicePick_upto' w3.toArray 10, hVR, ?_⟩
  intro s1 hs1
  repeat' k_extra "step"
  intro s2 C hs2
  refine CmpL.flat (fun _ => True) (fun v ρ => setL ρ (Str.ofString "cell") v) (fun _ => true) absA (fun us => upd_fresh hs2 (upd_same _ _ _)) _ [] _ (fun _ _ _ _ => trivial) ?_ ?_ ?_ ?_ ?_ trivial
  · intro v hv ρ us k' _ hk
    exact As.name hk ⟨by k_extra "eq", .inl ⟨by k_extra "eq", by k_extra "eq"⟩⟩
  · intro v hv ρ us k' _ hk
    exact TsL.nil hk
  · intro v hv _ ρ us k' _ hk
    obtain ⟨n, hn, rfl⟩ := List.mem_map.mp hv
    repeat' k_extra "step"
    refine OpL.int ?_
    repeat' k_extra "step"
    exact OpL.abs hk
  · rw [List.length_map, List.length_take]; simp only [List.length_nil]; lia
  · intro ρc _
    rw [List.nil_append]
    repeat' k_extra "step"
    intro s3 hs3
    repeat' k_extra "step"
    refine Op2.mulOne (n := 10) (upd_same _ _ _) (by decide) (fun s4 hs4 => ?_)
    refine Op2.addL (upd_fresh hs4 (upd_fresh hs3 (upd_same _ _ _))) (upd_same _ _ _) ?_ (fun cl hcl => ?_)
    · rw [List.length_map, List.length_replicate]
      have := List.length_filter_le (fun _ => true) ((w7.take 10).map AV.int)
      rw [List.length_map, List.length_take] at this
      lia
    have ecl : (((w7.take 10).map AV.int).filter (fun _ => true)).map absA ++ List.replicate 10 (AV.int 0) = cds (cellsN w7) := by
      rw [List.filter_eq_self.mpr (fun _ _ => rfl), List.map_map]
      unfold cds cellsN
      rw [List.map_append, List.map_map, List.map_replicate]
      rfl
    rw [ecl]
    refine then_next ?_
    exact law_A2 ok (cellsN_len w7).1 (cellsN_len w7).2 (by k_extra "name") (upd_same _ _ _)
end
end
section
theorem ok_caller (env : Env) : Ok 14 true (callerA.deeper env) := ⟨Nat.le_of_ble_eq_true rfl, Nat.le_of_ble_eq_true rfl, fun _ => rfl⟩
theorem law_top {prog : Program} {w : World} {p : Program} {loose : List Str} {mean : ExcName → Option Value} {mg mb : Str → Option Value} {s₁ s : Shared} {h₁ : Heap} {m : Str → Option Value} {fa l4 : Addr} {cd : Value} {w3 : List Value} {w7 : List Int} {o1 : Obj} {A : Around} {Q : Flow → Shared → Prop} {E : Value → Shared → Prop}
    (KX : (Mine.hp.heap_1 w.params).In s₁.heap) (T : Top p loose mean mg mb s₁.heap) (hL : s₁.heap.IsList l4 w3.toArray) (hI : IntsAre w3 w7) (h63 : w7.length ≤ 63) (es : s.heap = h₁)
    (F : Fr s₁.heap s₁.heap.objs.size h₁ m) (hm : m (Str.ofString "script") = some (.ref l4)) (N0 : News s₁.heap s₁.heap.objs.size h₁ [(s₁.heap.objs.size + 1, o1)]) (d1 : ∃ v, o1.data = .cell v) (ok : Ok 14 true A) (hA : A.frames = some [lawEnv s₁.heap.objs.size fa cd])
    (q : ∀ s', s' = { s with heap := s'.heap, toks := s'.toks } → (∀ b o, s₁.heap.get? b = some o → s'.heap.get? b = some o) → Q (.ret (.bool true)) s') :
    wpAny (model prog w) A (execs lawBody (lawEnv s₁.heap.objs.size fa cd)) Q E s := by
  subst es
  have lo : sysModules < s₁.heap.objs.size := by
    obtain ⟨o, ho⟩ : ∃ o, (Mine.hp.heap_1 w.params).lookup 165 = some o := ⟨_, by k_is⟩
    exact Nat.lt_trans (show sysModules < 165 from by decide) (Heap.lt_size (KX _ _ ho))
  let g : Gd Mine.hp.heap_1 := ⟨prog, w, p, loose, mean, mg, mb, s₁.heap, KX, T, lo⟩
  obtain ⟨c1, c2, -⟩ := N0 _ (.head _)
  obtain ⟨v1, d1⟩ := d1
  have cells : ∀ {y : Str} {c : Addr}, (lawEnv s₁.heap.objs.size fa cd).cells.lookup y = some c → y = Str.ofString "book" ∧ c = s₁.heap.objs.size + 1 := fun {y c} e => by
    rw [law_cells] at e
    have h := lookup_mem e
    simp only [List.mem_cons, List.not_mem_nil, or_false, Prod.mk.injEq] at h
    exact h
  have R : Rep g ⟨A, lawEnv s₁.heap.objs.size fa cd⟩ s.heap (setL noL (Str.ofString "script") (.ref l4)) noH (fun _ => none) := by
    refine ⟨⟨F.keep, Nat.le_of_lt F.ns.lt, fun a x e => (nomatch e), fun a o e => (nomatch e)⟩, ⟨⟨m, F.ns, fun y d e => ?_⟩, ⟨Nat.le_refl _, rfl, rfl⟩, fun y c e => ?_, fun y y' c e e' => ?_, ?_⟩⟩
    · by_cases q : y = Str.ofString "script"
      · subst q
        rw [setL_same] at e
        cases e
        rw [law_cells, show List.lookup (Str.ofString "script") [(Str.ofString "book", s₁.heap.objs.size + 1)] = none by k_extra "eq"]
        exact ⟨_, hm, .ref _⟩
      · rw [setL_ne q] at e; cases e
    · obtain ⟨rfl, rfl⟩ := cells e
      exact ⟨Nat.le_succ _, rfl, fun _ => rfl, c2, v1, o1, c1, d1⟩
    · rw [(cells e).1, (cells e').1]
    · refine ⟨_, hA, fun _ => ⟨[], rfl⟩, fun e he => ?_, fun M hM => .inl ?_⟩
      · rw [List.mem_singleton] at he
        subst he
        exact ⟨fun h => (nomatch h), _, rfl, Nat.le_refl _, .inl rfl⟩
      · injection hM with hM
        exact hM.symm
  refine law_A (g := g) ok hL hI h63 s (fun _ => none) Q E R (fun fl b s' ρ' H' st R' hf hk => ?_) fun _ _ _ _ _ _ _ _ h => h.elim
  subst hk
  cases hf with
  | ret hv =>
    cases hv
    exact q s' st.eq R'.o.keep
end
end

end
end Mine
set_option maxHeartbeats 8000000 in
theorem PySem.Challenge.cw_rr0038_02_holds : PySem.Challenge.rw_rr0038_02.Holds := by
  refine Mine.hd ?_
  k_go0
  refine Mine.law_top (by assumption) (by assumption) (by assumption) (by assumption) (by omega) rfl (by assumption) ?hm (by assumption) ⟨_, by assumption⟩ (Mine.ok_caller _) rfl ?q
  case hm => kernel_rfl
  case q =>
    intro s' es hk
    refine ⟨.inl ⟨_, .bool true, [], rfl, raisesW_false ?_, .bool true, ?_, unshared_nil⟩, hk, ?_, ?_⟩
    · wrow_none_raised
    · wrow_post
    · rw [es]
    · rw [es]; assumption
